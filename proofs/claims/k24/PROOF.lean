import PyProof.Rows.All
import Wide.All
import OpenK.AllK
import Wide.FinOn
import HandS.ForMost
import HandS.Exc
import HandS.ExcOwn
import HandS.WordsExc
import HandS.CallSlots
import HandS.Slots
import HandS.Set
import KE.KDictKeyed
import HandS.TupAny
import HandS.IsInst
import HandS.Wide
import HandS.Flow
import HandS.Style
import HandS.More
import HandS.Zip
import KE.SortData
import PyProof.ListStr
import PyProof.StrOps2
import HandS.DictComp
import HandS.TupLen
import KE.KDictSum
import PyProof.Transfer
import HandS.SetFor
import HandS.SetTxt0
import HandS.Strs
import HandS.Star
import HandS.SlotsOwn
import HandS.Defaults
import OpenK.KMeth
import KE.KOpsOwn
import KE.KFmtOwn
import PyProof.DictDisplay
import KE.KDictDisplayH
import HandS.Conv
import KE.KDictWalk
import HandS.SetBool
import HandS.OwnEq
import PyProof.FactsAll.subtypes_4
import PyProof.WalksMore
import KE.GoesZip
import KE.GoesEnum
import KE.GoesMore
import HandS.ClsMeth
import HandS.RaiseMore
import HandS.Ends
import PyProof.ReprRoads
import PyProof.ReprBulk
import PyProof.Rows.ReprShort
import PyProof.NeKinds
import HandS.Rev
import HandS.TupMul
import HandS.Codes
import PySem.Challenge.RW_widenedwords_k24_what_may_stand_behind
set_option Elab.async false
set_option linter.all false
set_option maxRecDepth 100000
namespace DL
open PySem PySem.Spec PyProof.Rows L2

/-! ### data -/
inductive D where
  | non | bl (b : Bool) | int (i : Int) | str (x : Str) | ty (n : String) | ptr (a : Addr) | ilst (ns : List Int) | tup (ds : List D)
  /-- an instance of a class with slots, a list, a dict that nobody writes any more -/
  | obj (C : Addr) (fs : List D) | flst (ds : List D) | fdct (kds : List (List Key × D)) | kdct (kds : List (Key × D))
  /-- a tuple of texts that is known to be no more than a tuple -/
  | wds (ys : List Str)

/-- a text that is not too long, of real signs -/
structure SOk (x : Str) : Prop where
  len : x.length ≤ sizeLine
  sgn : PyData.strOk x = true
theorem SOk.mem {x : Str} (h : SOk x) {k : Nat} (hk : k ∈ x.cps.toList) : k < 0x110000 := by
  have := h.sgn
  unfold PyData.strOk at this
  rw [← Array.all_toList, List.all_eq_true] at this
  exact of_decide_eq_true (this k hk)
theorem SOk.of {x : Str} (h : x.length ≤ sizeLine) (hk : ∀ k ∈ x.cps.toList, k < 0x110000) : SOk x := by
  refine ⟨h, ?_⟩
  unfold PyData.strOk
  rw [← Array.all_toList, List.all_eq_true]
  exact fun k hh => decide_eq_true (hk k hh)

/-- a list of the module's written part -/
def Kl (K : PySem.W.Frag) (a : Addr) (xs : List V) : Prop :=
  ∃ (o : Obj) (its : Array Value) (n : Nat), K.lookup a = some o ∧ o.cls = .type "list" ∧ o.dict = none ∧ o.data = .seq its n ∧ its.size ≤ sizeLine ∧ Vals xs its.toList

/-! ### sets of texts, raw -/
def txOf (e : Int × Value) : Str := match e.2 with | .str k _ => k | _ => Str.empty
def TxE (w : World) (e : Int × Value) : Prop := ∃ k tk, e.2 = Value.str k tk ∧ e.1 = hashStr w k
/-- the set at a: S its texts, n their number; it can be walked -/
def SetX (w : World) (h : Heap) (a : Addr) (S : Str → Bool) (n : Nat) : Prop :=
  ∃ o es ep t, h.get? a = some o ∧ o.ExactSet ∧ o.data = .set es ep t ∧ (∀ e ∈ es.toList, TxE w e) ∧ (es.toList.map txOf).Nodup ∧ (∀ k, S k = true ↔ k ∈ es.toList.map txOf) ∧
    es.size < scanBound ∧ t.fits es.size = true ∧ es.size = n ∧ Ris t.place.toList ∧ (w.params.followText "set-order" = true ∨ t.led = true)

/-! ### nested keys of dicts -/
mutual
/-- data as a key, up to == -/
def nk : D → NestedKey
  | .non => .none
  | .bl b => .num (if b = true then 1 else 0)
  | .int i => .num i
  | .str x => .text x
  | .tup ds => .tup (nks ds)
  | .ty _ => .none
  | .ptr _ => .none
  | .ilst _ => .none
  | .obj _ _ => .none
  | .flst _ => .none
  | .fdct _ => .none
  | .kdct _ => .none
  | .wds _ => .none
def nks : List D → List NestedKey
  | [] => []
  | d :: ds => nk d :: nks ds
end
mutual
/-- data that may be a key, or within one -/
def okN : D → Bool
  | .non => true
  | .bl _ => true
  | .int _ => true
  | .str _ => true
  | .tup ds => okNs ds
  | .ty _ => false
  | .ptr _ => false
  | .ilst _ => false
  | .obj _ _ => false
  | .flst _ => false
  | .fdct _ => false
  | .kdct _ => false
  | .wds _ => false
def okNs : List D → Bool
  | [] => true
  | d :: ds => okN d && okNs ds
end
/-- a dict whose keys are such tuples, by its entries -/
def ndO (P : Program) (w : World) (a : Addr) (xs : List (NestedKey × Addr × Value)) : HO := .ext fun h => xs.length ≤ sizeLine ∧ (a == sysModules) = false ∧ ∃ o es ep, h.get? a = some o ∧ o.ExactDict ∧ o.data = .dict es ep ∧ es.toList = xs.map (entryOfKey (nestedKind P w)) ∧ (xs.map (·.1)).Nodup
/-! ### the store: mutable objects by address -/
inductive MO where
  | lst (ds : List D)
  | dct (kds : List (List Key × D))
  | ins (C : Addr) (fs : List (Option D))
  | set (S : Key → Bool) (n : Nat)
  | txs (S : Str → Bool) (n : Nat)
  | kd (kds : List (Key × D))
  /-- a dict whose keys are nested tuples -/
  | nd (kds : List (D × D))
abbrev Lp := Addr → Option MO
def put (L : Lp) (a : Addr) (o : MO) : Lp := fun b => if b = a then some o else L b
theorem put_same {L : Lp} {a : Addr} {o : MO} : put L a o a = some o := if_pos rfl
theorem put_ne {L : Lp} {a b : Addr} {o : MO} (h : b ≠ a) : put L a o b = L b := if_neg h
theorem put_put {L : Lp} {a : Addr} {o u : MO} : put (put L a o) a u = put L a u := by
  funext b
  unfold put
  split <;> rfl
theorem put_comm {L : Lp} {a b : Addr} {o u : MO} (h : a ≠ b) : put (put L a o) b u = put (put L b u) a o := by
  funext c
  unfold put
  by_cases h1 : c = b
  · rw [if_pos h1, if_neg (fun e => h (e.symm.trans h1)), if_pos h1]
  · rw [if_neg h1, if_neg h1]
theorem put_self {L : Lp} {a : Addr} {o : MO} (h : L a = some o) : put L a o = L := by
  funext b
  unfold put
  by_cases e : b = a
  · rw [if_pos e, e, h]
  · rw [if_neg e]
theorem ne_of_free {L : Lp} {a b : Addr} {o : MO} (h : L a = some o) (h' : L b = none) : a ≠ b := fun e => by
  rw [e, h'] at h
  cases h

/-- a key of real texts -/
structure KOk (k : List Key) : Prop where
  len : k.length ≤ sizeLine
  txt : ∀ x, Sum.inr x ∈ k → SOk x
/-- what nobody writes any more -/
abbrev Fz := Addr → Prop
inductive Rep (K : PySem.W.Frag) (F : Fz) (H : Hp) : V → D → Prop where
  | non : Rep K F H .non .non
  | bl (b : Bool) : Rep K F H (.bl b) (.bl b)
  | int (i : Int) : Rep K F H (.int i) (.int i)
  | str (x : Str) (h : SOk x) : Rep K F H (.str x) (.str x)
  | ty (n : String) : Rep K F H (.ty n) (.ty n)
  | ptr (a : Addr) : Rep K F H (.ref a) (.ptr a)
  | ilst {a : Addr} {ns : List Int} (h : (∃ o, H a = some (.frz o (.lst (ns.map V.int)))) ∨ Kl K a (ns.map V.int)) : Rep K F H (.ref a) (.ilst ns)
  | tup {a : Addr} {vs : List V} {ds : List D} (h : H a = some (.tup vs)) (hz : vs.length ≤ sizeLine) (hl : vs.length = ds.length) (hi : ∀ (i : Nat) (v : V) (d : D), vs[i]? = some v → ds[i]? = some d → Rep K F H v d) : Rep K F H (.ref a) (.tup ds)
  | obj {a C dx : Addr} {us : List (Option V)} {vs : List V} {ds : List D} (hl : F a) (h : H a = some (SlX.SlO a C dx us)) (hx : H dx = some (.xd [])) (hu : ∀ (i : Nat) (v : V), vs[i]? = some v → us[i]? = some (some v)) (hn : vs.length = ds.length) (hi : ∀ (i : Nat) (v : V) (d : D), vs[i]? = some v → ds[i]? = some d → Rep K F H v d) : Rep K F H (.ref a) (.obj C ds)
  | flst {a : Addr} {vs : List V} {ds : List D} (hl : F a) (h : H a = some (.lst vs)) (hz : vs.length ≤ sizeLine) (hn : vs.length = ds.length) (hi : ∀ (i : Nat) (v : V) (d : D), vs[i]? = some v → ds[i]? = some d → Rep K F H v d) : Rep K F H (.ref a) (.flst ds)
  | fdct {a : Addr} {kvs : List (List Key × V)} {kds : List (List Key × D)} {o : Obj} (hl : F a) (h : H a = some (.frz o (.dT kvs))) (hk : ∀ q ∈ kds, KOk q.1) (hn : kvs.length = kds.length) (he : ∀ (i : Nat) (v : List Key × V) (d : List Key × D), kvs[i]? = some v → kds[i]? = some d → v.1 = d.1) (hi : ∀ (i : Nat) (v : List Key × V) (d : List Key × D), kvs[i]? = some v → kds[i]? = some d → Rep K F H v.2 d.2) : Rep K F H (.ref a) (.fdct kds)
  | kdct {a : Addr} {kvs : List (Key × V)} {kds : List (Key × D)} {o : Obj} (hl : F a) (h : H a = some (.frz o (.dK kvs))) (hn : kvs.length = kds.length) (he : ∀ (i : Nat) (v : Key × V) (d : Key × D), kvs[i]? = some v → kds[i]? = some d → v.1 = d.1) (hi : ∀ (i : Nat) (v : Key × V) (d : Key × D), kvs[i]? = some v → kds[i]? = some d → Rep K F H v.2 d.2) : Rep K F H (.ref a) (.kdct kds)
  | wds {a : Addr} {ys : List Str} {o : Obj} (hl : F a) (h : H a = some (.frz o (.tup (ys.map V.str)))) (ho : o.dict = none) (hz : ys.length ≤ sizeLine) (hs : ∀ y ∈ ys, SOk y) : Rep K F H (.ref a) (.wds ys)

/-- tuples and known things stay -/
structure Stay (H H' : Hp) : Prop where
  tup : ∀ a vs, H a = some (.tup vs) → H' a = some (.tup vs)
  frz : ∀ a o xs, H a = some (.frz o (.lst xs)) → H' a = some (.frz o (.lst xs))
  xd : ∀ a, H a = some (.xd []) → H' a = some (.xd [])
theorem Stay.refl (H : Hp) : Stay H H := ⟨fun _ _ h => h, fun _ _ _ h => h, fun _ h => h⟩
theorem Stay.trans {H H1 H2 : Hp} (a : Stay H H1) (b : Stay H1 H2) : Stay H H2 := ⟨fun c v h => b.tup c v (a.tup c v h), fun c o u h => b.frz c o u (a.frz c o u h), fun c h => b.xd c (a.xd c h)⟩

/-- from (L, F, H) to (L', F', H') -/
structure Fr (L : Lp) (F : Fz) (H : Hp) (L' : Lp) (F' : Fz) (H' : Hp) : Prop where
  keep : ∀ a o, H a = some o → (∀ y, o ≠ .own y) → L a = none → H' a = some o
  live : ∀ a, H a ≠ none → H' a ≠ none
  stay : Stay H H'
  dom : ∀ a, L' a ≠ none → L a ≠ none ∨ H a = none
  fz : ∀ a, F a → F' a
  fk : ∀ a o, F a → H a = some o → H' a = some o
  off : ∀ a, F' a → F a ∨ L a ≠ none ∨ H a = none
theorem Fr.refl (L : Lp) {F : Fz} (H : Hp) : Fr L F H L F H := ⟨fun _ _ h _ _ => h, fun _ h => h, .refl H, fun _ h => .inl h, fun _ h => h, fun _ _ _ h => h, fun _ h => .inl h⟩
theorem Fr.trans {L L1 L2 : Lp} {F F1 F2 : Fz} {H H1 H2 : Hp} (a : Fr L F H L1 F1 H1) (b : Fr L1 F1 H1 L2 F2 H2) : Fr L F H L2 F2 H2 := by
  have dn : ∀ c, H1 c = none → H c = none := fun c z => by
    cases e : H c with
    | none => rfl
    | some o => exact absurd z (a.live c (by rw [e]; simp))
  refine ⟨fun c o h q n => ?_, fun c h => b.live c (a.live c h), a.stay.trans b.stay, fun c h => ?_, fun c h => b.fz c (a.fz c h), fun c o h e => b.fk c o (a.fz c h) (a.fk c o h e), fun c h => ?_⟩
  · refine b.keep c o (a.keep c o h q n) q ?_
    cases e : L1 c with
    | none => rfl
    | some u =>
      rcases a.dom c (by rw [e]; simp) with z | z
      · exact absurd n z
      · rw [h] at z
        cases z
  · rcases b.dom c h with z | z
    · exact a.dom c z
    · exact .inr (dn c z)
  · rcases b.off c h with z | z | z
    · exact a.off c z
    · exact .inr (a.dom c z)
    · exact .inr (.inr (dn c z))
theorem upd_live {H : Hp} {p a : Addr} {o : HO} (h : H a ≠ none) : upd H p o a ≠ none := by
  by_cases e : a = p
  · rw [e, upd_same]; simp
  · rw [upd_ne e]; exact h
/-- forgetting -/
def Le (L L' : Lp) : Prop := ∀ a o, L a = some o → L' a = some o
theorem Le.refl (L : Lp) : Le L L := fun _ _ h => h
theorem Le.trans {L L1 L2 : Lp} (a : Le L L1) (b : Le L1 L2) : Le L L2 := fun x o h => b x o (a x o h)
theorem Le.ne {L L' : Lp} (h : Le L L') {a : Addr} (n : L a ≠ none) : L' a ≠ none := by
  cases e : L a with
  | none => exact absurd e n
  | some o =>
    rw [h a o e]
    simp
theorem Le.none {L L' : Lp} (h : Le L L') {a : Addr} (n : L' a = none) : L a = none := by
  cases e : L a with
  | none => rfl
  | some o =>
    rw [h a o e] at n
    cases n
theorem le_put {L : Lp} {a : Addr} {o : MO} (h : L a = none) : Le L (put L a o) := fun b u e => by
  rw [put_ne (ne_of_free e h)]
  exact e
/-- what data need -/
structure Mv (F : Fz) (H : Hp) (F' : Fz) (H' : Hp) : Prop where
  stay : Stay H H'
  fz : ∀ a, F a → F' a
  fk : ∀ a o, F a → H a = some o → H' a = some o
theorem Fr.mv {L L' : Lp} {F F' : Fz} {H H' : Hp} (f : Fr L F H L' F' H') : Mv F H F' H' := ⟨f.stay, f.fz, f.fk⟩
instance frMv {L L' : Lp} {F F' : Fz} {H H' : Hp} : CoeOut (Fr L F H L' F' H') (Mv F H F' H') := ⟨Fr.mv⟩
theorem Rep.mono {K : PySem.W.Frag} {F F' : Fz} {H H' : Hp} (s : Mv F H F' H') {v : V} {d : D} (r : Rep K F H v d) : Rep K F' H' v d := by
  induction r with
  | non => exact .non
  | bl b => exact .bl b
  | int i => exact .int i
  | str x h => exact .str x h
  | ty n => exact .ty n
  | ptr a => exact .ptr a
  | ilst h =>
    refine .ilst ?_
    rcases h with ⟨o, h⟩ | h
    · exact .inl ⟨o, s.stay.frz _ _ _ h⟩
    · exact .inr h
  | tup h hz hl hi ih => exact .tup (s.stay.tup _ _ h) hz hl ih
  | obj hl h hx hu hn hi ih => exact .obj (s.fz _ hl) (s.fk _ _ hl h) (s.stay.xd _ hx) hu hn ih
  | flst hl h hz hn hi ih => exact .flst (s.fz _ hl) (s.fk _ _ hl h) hz hn ih
  | fdct hl h hk hn he hi ih => exact .fdct (s.fz _ hl) (s.fk _ _ hl h) hk hn he ih
  | kdct hl h hn he hi ih => exact .kdct (s.fz _ hl) (s.fk _ _ hl h) hn he ih
  | wds hl h ho hz hs => exact .wds (s.fz _ hl) (s.fk _ _ hl h) ho hz hs
abbrev Reps (K : PySem.W.Frag) (F : Fz) (H : Hp) : List V → List D → Prop := Paired (Rep K F H)
theorem Reps.mono {K : PySem.W.Frag} {F F' : Fz} {H H' : Hp} (s : Mv F H F' H') : ∀ {vs : List V} {ds : List D}, Reps K F H vs ds → Reps K F' H' vs ds
  | _, _, .nil => .nil
  | _, _, .cons r t => .cons (r.mono s) (Reps.mono s t)
theorem Reps.length {K : PySem.W.Frag} {F : Fz} {H : Hp} {vs : List V} {ds : List D} (r : Reps K F H vs ds) : vs.length = ds.length := Paired.length r
theorem Reps.get : ∀ {K : PySem.W.Frag} {F : Fz} {H : Hp} {vs : List V} {ds : List D} {i : Nat} {d : D}, Reps K F H vs ds → ds[i]? = some d → ∃ v, vs[i]? = some v ∧ Rep K F H v d
  | _, _, _, _, _, _, _, .nil, e => by simp at e
  | _, _, _, _, _, 0, _, .cons r _, e => by simp at e; subst e; exact ⟨_, rfl, r⟩
  | K, _, H, _, _, i + 1, d, .cons _ t, e => by
    obtain ⟨v, h1, h2⟩ := Reps.get (i := i) (d := d) t (by simpa using e)
    exact ⟨v, by simpa using h1, h2⟩
theorem Reps.getV : ∀ {K : PySem.W.Frag} {F : Fz} {H : Hp} {vs : List V} {ds : List D} {i : Nat} {v : V}, Reps K F H vs ds → vs[i]? = some v → ∃ d, ds[i]? = some d ∧ Rep K F H v d
  | _, _, _, _, _, _, _, .nil, e => by simp at e
  | _, _, _, _, _, 0, _, .cons r _, e => by simp at e; subst e; exact ⟨_, rfl, r⟩
  | K, _, H, _, _, i + 1, v, .cons _ t, e => by
    obtain ⟨d, h1, h2⟩ := Reps.getV (i := i) (v := v) t (by simpa using e)
    exact ⟨d, by simpa using h1, h2⟩
theorem Reps.of_get : ∀ {K : PySem.W.Frag} {F : Fz} {H : Hp} {vs : List V} {ds : List D}, vs.length = ds.length → (∀ (i : Nat) (v : V) (d : D), vs[i]? = some v → ds[i]? = some d → Rep K F H v d) → Reps K F H vs ds
  | _, _, _, [], [], _, _ => .nil
  | _, _, _, [], _ :: _, h, _ => by simp at h
  | _, _, _, _ :: _, [], h, _ => by simp at h
  | K, _, H, v :: vs, d :: ds, h, hi => .cons (hi 0 v d rfl rfl) (Reps.of_get (by simpa using h) fun i x y h1 h2 => hi (i + 1) x y (by simpa using h1) (by simpa using h2))
theorem Reps.append : ∀ {K : PySem.W.Frag} {F : Fz} {H : Hp} {vs ws : List V} {ds es : List D}, Reps K F H vs ds → Reps K F H ws es → Reps K F H (vs ++ ws) (ds ++ es)
  | _, _, _, _, _, _, _, .nil, s => s
  | _, _, _, _, _, _, _, .cons r t, s => .cons r (Reps.append t s)
theorem Reps.take : ∀ {K : PySem.W.Frag} {F : Fz} {H : Hp} {vs : List V} {ds : List D} (n : Nat), Reps K F H vs ds → Reps K F H (vs.take n) (ds.take n)
  | _, _, _, _, _, 0, _ => .nil
  | _, _, _, _, _, _ + 1, .nil => .nil
  | _, _, _, _, _, n + 1, .cons r t => .cons r (Reps.take n t)
theorem Reps.drop : ∀ {K : PySem.W.Frag} {F : Fz} {H : Hp} {vs : List V} {ds : List D} (n : Nat), Reps K F H vs ds → Reps K F H (vs.drop n) (ds.drop n)
  | _, _, _, _, _, 0, r => r
  | _, _, _, _, _, _ + 1, .nil => .nil
  | _, _, _, _, _, n + 1, .cons _ t => Reps.drop n t
theorem Reps.set {K : PySem.W.Frag} {F : Fz} {H : Hp} {v : V} {d : D} (r : Rep K F H v d) : ∀ {vs : List V} {ds : List D} (i : Nat), Reps K F H vs ds → Reps K F H (vs.set i v) (ds.set i d)
  | _, _, _, .nil => .nil
  | _, _, 0, .cons _ t => .cons r t
  | _, _, i + 1, .cons q t => .cons q (Reps.set r i t)
theorem Rep.tupI {K : PySem.W.Frag} {F : Fz} {H : Hp} {a : Addr} {vs : List V} {ds : List D} (h : H a = some (.tup vs)) (r : Reps K F H vs ds) (hz : ds.length ≤ sizeLine) : Rep K F H (.ref a) (.tup ds) :=
  .tup h (by rw [r.length]; exact hz) r.length fun i v d h1 h2 => by
    obtain ⟨d', e, q⟩ := r.getV h1
    rw [h2] at e
    cases e
    exact q
theorem Rep.tupE {K : PySem.W.Frag} {F : Fz} {H : Hp} {v : V} {ds : List D} (r : Rep K F H v (.tup ds)) : ∃ a vs, v = .ref a ∧ H a = some (.tup vs) ∧ Reps K F H vs ds := by
  cases r with
  | tup h hz hl hi => exact ⟨_, _, rfl, h, Reps.of_get hl hi⟩
/-- sizes -/
def Bnd : D → Prop
  | .str x => SOk x
  | .tup ds => ds.length ≤ sizeLine
  | _ => True
theorem Rep.bnd {K : PySem.W.Frag} {F : Fz} {H : Hp} {v : V} {d : D} (r : Rep K F H v d) : Bnd d := by
  cases r with
  | str x h => exact h
  | tup h hz hl hi =>
    show _ ≤ _
    rw [← hl]
    exact hz
  | _ => exact True.intro
theorem Rep.intE {K : PySem.W.Frag} {F : Fz} {H : Hp} {v : V} {i : Int} (r : Rep K F H v (.int i)) : v = .int i := by cases r; rfl
theorem Rep.blE {K : PySem.W.Frag} {F : Fz} {H : Hp} {v : V} {b : Bool} (r : Rep K F H v (.bl b)) : v = .bl b := by cases r; rfl
theorem Rep.strE {K : PySem.W.Frag} {F : Fz} {H : Hp} {v : V} {x : Str} (r : Rep K F H v (.str x)) : v = .str x := by cases r; rfl
theorem Rep.nonE {K : PySem.W.Frag} {F : Fz} {H : Hp} {v : V} (r : Rep K F H v .non) : v = .non := by cases r; rfl
theorem Rep.ptrE {K : PySem.W.Frag} {F : Fz} {H : Hp} {v : V} {a : Addr} (r : Rep K F H v (.ptr a)) : v = .ref a := by cases r; rfl
theorem Rep.tyE {K : PySem.W.Frag} {F : Fz} {H : Hp} {v : V} {n : String} (r : Rep K F H v (.ty n)) : v = .ty n := by cases r; rfl
theorem Rep.ilstE {K : PySem.W.Frag} {F : Fz} {H : Hp} {v : V} {ns : List Int} (r : Rep K F H v (.ilst ns)) : ∃ a, v = .ref a ∧ SqL K H a (ns.map V.int) := by
  cases r with
  | ilst h =>
    refine ⟨_, rfl, ?_⟩
    rcases h with ⟨o, h⟩ | h
    · exact .inl (.inr ⟨o, h⟩)
    · exact .inr h

def SlotR (K : PySem.W.Frag) (F : Fz) (H : Hp) (vs : List (Option V)) (fs : List (Option D)) : Prop := ∀ (i : Nat) (d : D), fs[i]? = some (some d) → ∃ v, vs[i]? = some (some v) ∧ Rep K F H v d
/-- what stands at a -/
def At (P : Program) (w : World) (K : PySem.W.Frag) (F : Fz) (H : Hp) (a : Addr) : MO → Prop
  | .lst ds => ∃ vs, H a = some (.lst vs) ∧ Reps K F H vs ds ∧ ds.length ≤ sizeLine
  | .dct kds => ∃ kvs, H a = some (.dT kvs) ∧ Paired (fun (p : List Key × V) (q : List Key × D) => p.1 = q.1 ∧ Rep K F H p.2 q.2) kvs kds ∧ ∀ q ∈ kds, KOk q.1
  | .ins C fs => ∃ dx vs, SlX.Slt H a C dx vs ∧ SlotR K F H vs fs
  | .set S n => H a = some (.ext fun h => h.SetOf (mixKind P w) a S n)
  | .txs S n => H a = some (.ext fun h => SetX w h a S n) ∧ ∀ k, S k = true → SOk k
  | .kd kds => ∃ kvs, H a = some (.dK kvs) ∧ Paired (fun (p : Key × V) (q : Key × D) => p.1 = q.1 ∧ Rep K F H p.2 q.2) kvs kds
  | .nd kds => ∃ xs : List (NestedKey × Addr × Value), H a = some (ndO P w a xs) ∧ Paired (fun (x : NestedKey × Addr × Value) (q : D × D) => x.1 = nk q.1 ∧ okN q.1 = true ∧ (nk q.1).depth ≤ 8 ∧ Rep K F H (.ref x.2.1) q.1 ∧ ∃ v, RelV v x.2.2 ∧ Rep K F H v q.2) xs kds
theorem Paired.mono {α β : Type} {F G : α → β → Prop} : ∀ {l1 : List α} {l2 : List β}, Paired F l1 l2 → (∀ a b, F a b → G a b) → Paired G l1 l2
  | _, _, .nil, _ => .nil
  | _, _, .cons r t, f => .cons (f _ _ r) (Paired.mono t f)
theorem SlotR.mono {K : PySem.W.Frag} {F F' : Fz} {H H' : Hp} {vs : List (Option V)} {fs : List (Option D)} (s : Mv F H F' H') (r : SlotR K F H vs fs) : SlotR K F' H' vs fs := fun i d e => by
  obtain ⟨v, h1, h2⟩ := r i d e
  exact ⟨v, h1, h2.mono s⟩
theorem At.mono {P : Program} {w : World} {K : PySem.W.Frag} {F F' : Fz} {H H' : Hp} {a : Addr} {o : MO} (x : At P w K F H a o) (s : Mv F H F' H') (e : H' a = H a) : At P w K F' H' a o := by
  cases o with
  | lst ds =>
    obtain ⟨vs, h, r, z⟩ := x
    exact ⟨vs, e.trans h, r.mono s, z⟩
  | dct kds =>
    obtain ⟨kvs, h, r, z⟩ := x
    exact ⟨kvs, e.trans h, Paired.mono r fun p q z => ⟨z.1, z.2.mono s⟩, z⟩
  | ins C fs =>
    obtain ⟨dx, vs, h, r⟩ := x
    refine ⟨dx, vs, ?_, r.mono s⟩
    rcases h with ⟨h, h2⟩ | ⟨h, hd⟩
    · exact .inl ⟨e.trans h, h2⟩
    · exact .inr ⟨e.trans h, s.stay.xd _ hd⟩
  | set S n => exact e.trans x
  | txs S n => exact ⟨e.trans x.1, x.2⟩
  | kd kds =>
    obtain ⟨kvs, h, r⟩ := x
    exact ⟨kvs, e.trans h, Paired.mono r fun p q z => ⟨z.1, z.2.mono s⟩⟩
  | nd kds =>
    obtain ⟨xs, h, r⟩ := x
    exact ⟨xs, e.trans h, Paired.mono r fun p q ⟨z1, z2, z3, z4, v, z5, z6⟩ => ⟨z1, z2, z3, z4.mono s, v, z5, z6.mono s⟩⟩
theorem At.some {P : Program} {w : World} {K : PySem.W.Frag} {F : Fz} {H : Hp} {a : Addr} {o : MO} (x : At P w K F H a o) : ∃ u, H a = some u ∧ (∀ vs, u ≠ .tup vs) ∧ (∀ z y, u ≠ .frz z y) ∧ u ≠ .xd [] := by
  cases o with
  | lst ds =>
    obtain ⟨vs, h, r, z⟩ := x
    exact ⟨_, h, fun _ z => (nomatch z), fun _ _ z => (nomatch z), fun z => (nomatch z)⟩
  | dct kds =>
    obtain ⟨kvs, h, r, z⟩ := x
    exact ⟨_, h, fun _ z => (nomatch z), fun _ _ z => (nomatch z), fun z => (nomatch z)⟩
  | ins C fs =>
    obtain ⟨dx, vs, h, r⟩ := x
    rcases h with ⟨h, h2⟩ | ⟨h, hd⟩
    · exact ⟨_, h, fun _ z => (nomatch z), fun _ _ z => (nomatch z), fun z => (nomatch z)⟩
    · refine ⟨_, h, fun _ z => ?_, fun _ _ z => ?_, fun z => ?_⟩ <;> (unfold SlX.SlO at z; cases z)
  | set S n => exact ⟨_, x, fun _ z => (nomatch z), fun _ _ z => (nomatch z), fun z => (nomatch z)⟩
  | txs S n => exact ⟨_, x.1, fun _ z => (nomatch z), fun _ _ z => (nomatch z), fun z => (nomatch z)⟩
  | kd kds =>
    obtain ⟨kvs, h, r⟩ := x
    exact ⟨_, h, fun _ z => (nomatch z), fun _ _ z => (nomatch z), fun z => (nomatch z)⟩
  | nd kds =>
    obtain ⟨xs, h, r⟩ := x
    refine ⟨_, h, fun _ z => ?_, fun _ _ z => ?_, fun z => ?_⟩ <;> (unfold ndO at z; cases z)

/-- the store is held; what is frozen stands apart -/
structure Con (P : Program) (w : World) (K : PySem.W.Frag) (L : Lp) (F : Fz) (H : Hp) : Prop where
  at_ : ∀ a o, L a = some o → At P w K F H a o
  fz : ∀ a, F a → L a = none ∧ ∃ o, H a = some o ∧ (∀ y, o ≠ .own y) ∧ o ≠ .xd []
section
variable {P : Program} {w : World} {K : PySem.W.Frag} {L L' : Lp} {F F' : Fz} {H : Hp} {p : Addr} {o : HO} {mo mo' : MO}
theorem Con.free (c : Con P w K L F H) {a : Addr} (h : H a = none) : L a = none := by
  cases e : L a with
  | none => rfl
  | some o =>
    obtain ⟨u, q, _⟩ := (c.at_ a o e).some
    rw [h] at q
    cases q
theorem Con.nf (c : Con P w K L F H) (h : H p = none) : ¬ F p := fun z => by
  obtain ⟨_, o, e, _⟩ := c.fz p z
  rw [h] at e
  cases e
theorem Con.nw (c : Con P w K L F H) (h : L p = some mo) : ¬ F p := fun z => by
  rw [(c.fz p z).1] at h
  cases h
theorem Con.le (c : Con P w K L' F H) (h : Le L L') : Con P w K L F H := ⟨fun a o e => c.at_ a o (h a o e), fun a z => ⟨h.none (c.fz a z).1, (c.fz a z).2⟩⟩
theorem Fr.leR {L L1 L2 : Lp} {F F1 : Fz} {H H1 : Hp} (f : Fr L F H L1 F1 H1) (h : Le L2 L1) : Fr L F H L2 F1 H1 := ⟨f.keep, f.live, f.stay, fun a n => f.dom a (h.ne n), f.fz, f.fk, f.off⟩
theorem Fr.leL {L L1 L2 : Lp} {F F1 : Fz} {H H1 : Hp} (f : Fr L F H L1 F1 H1) (h : Le L L2) : Fr L2 F H L1 F1 H1 := ⟨fun a o e q n => f.keep a o e q (h.none n), f.live, f.stay, fun a n => (f.dom a n).imp (fun z => h.ne z) id, f.fz, f.fk, fun a z => (f.off a z).imp id (Or.imp (fun z => h.ne z) id)⟩

/-- a new object laid: a tuple (not in the store) -/
theorem Stay.new {H : Hp} {p : Addr} {o : HO} (h : H p = none) : Stay H (upd H p o) :=
  ⟨fun a vs e => by rw [upd_ne (ne_of_none e h)]; exact e, fun a ob u e => by rw [upd_ne (ne_of_none e h)]; exact e, fun a e => by rw [upd_ne (ne_of_none e h)]; exact e⟩
theorem Fr.new (h : H p = none) : Fr L F H L F (upd H p o) :=
  ⟨fun a u e _ _ => by rw [upd_ne (ne_of_none e h)]; exact e, fun a z => upd_live z, .new h, fun _ z => .inl z, fun _ z => z, fun a u _ e => by rw [upd_ne (ne_of_none e h)]; exact e, fun _ z => .inl z⟩
theorem Mv.new (h : H p = none) : Mv F H F (upd H p o) := ⟨.new h, fun _ z => z, fun a u _ e => by rw [upd_ne (ne_of_none e h)]; exact e⟩
theorem Con.new (c : Con P w K L F H) (h : H p = none) : Con P w K L F (upd H p o) := ⟨fun a u e => by
  obtain ⟨x, q, _⟩ := (c.at_ a u e).some
  exact (c.at_ a u e).mono (Mv.new h) (upd_ne (ne_of_none q h)), fun a z => by
  obtain ⟨n, u, e, q⟩ := c.fz a z
  exact ⟨n, u, by rw [upd_ne (ne_of_none e h)]; exact e, q⟩⟩
/-- .. one that goes into the store -/
theorem Fr.newL (h : H p = none) : Fr L F H (put L p mo) F (upd H p o) :=
  ⟨fun a u e _ _ => by rw [upd_ne (ne_of_none e h)]; exact e, fun a z => upd_live z, .new h, fun a z => by
    by_cases e : a = p
    · exact .inr (by rw [e]; exact h)
    · rw [put_ne e] at z
      exact .inl z, fun _ z => z, fun a u _ e => by rw [upd_ne (ne_of_none e h)]; exact e, fun _ z => .inl z⟩
theorem Con.newL (c : Con P w K L F H) (h : H p = none) (x : At P w K F (upd H p o) p mo) : Con P w K (put L p mo) F (upd H p o) := ⟨fun a u e => by
  by_cases ep : a = p
  · subst ep
    rw [put_same] at e
    cases e
    exact x
  · rw [put_ne ep] at e
    exact (c.new h).at_ a u e, fun a z => by
  have ep : a ≠ p := fun e => c.nf h (e ▸ z)
  rw [put_ne ep]
  exact (c.new h).fz a z⟩
/-- an object of the store is written -/
theorem Stay.write (x : At P w K F H p mo) : Stay H (upd H p o) := by
  obtain ⟨u, h, n1, n2, n3⟩ := x.some
  refine ⟨fun a vs e => ?_, fun a ob z e => ?_, fun a e => ?_⟩
  · rw [upd_ne (fun q => by rw [q, h] at e; exact n1 vs (Option.some.inj e))]; exact e
  · rw [upd_ne (fun q => by rw [q, h] at e; exact n2 _ _ (Option.some.inj e))]; exact e
  · rw [upd_ne (fun q => by rw [q, h] at e; exact n3 (Option.some.inj e))]; exact e
theorem Mv.write (c : Con P w K L F H) (h : L p = some mo) : Mv F H F (upd H p o) := ⟨.write (c.at_ p mo h), fun _ z => z, fun a u z e => by
  have ea : a ≠ p := fun q => c.nw h (q ▸ z)
  rw [upd_ne ea]; exact e⟩
theorem Mv.trans {F F1 F2 : Fz} {H H1 H2 : Hp} (a : Mv F H F1 H1) (b : Mv F1 H1 F2 H2) : Mv F H F2 H2 := ⟨a.stay.trans b.stay, fun c h => b.fz c (a.fz c h), fun c o h e => b.fk c o (a.fz c h) (a.fk c o h e)⟩
theorem Fr.write (c : Con P w K L F H) (h : L p = some mo) : Fr L F H (put L p mo') F (upd H p o) :=
  ⟨fun a u e _ n => by rw [upd_ne (fun q => by rw [q, h] at n; cases n)]; exact e, fun a z => upd_live z, .write (c.at_ p mo h), fun a z => by
    by_cases e : a = p
    · exact .inl (by rw [e, h]; simp)
    · rw [put_ne e] at z
      exact .inl z, fun _ z => z, fun a u z e => by
    have ea : a ≠ p := fun q => c.nw h (q ▸ z)
    rw [upd_ne ea]; exact e, fun _ z => .inl z⟩
theorem Con.write (c : Con P w K L F H) (h : L p = some mo) (x : At P w K F (upd H p o) p mo') : Con P w K (put L p mo') F (upd H p o) := ⟨fun a u e => by
  by_cases ep : a = p
  · subst ep
    rw [put_same] at e
    cases e
    exact x
  · rw [put_ne ep] at e
    exact (c.at_ a u e).mono (Mv.write c h) (upd_ne ep), fun a z => by
  have ep : a ≠ p := fun e => c.nw h (e ▸ z)
  rw [put_ne ep, upd_ne ep]
  exact c.fz a z⟩
end

/-! ### slots -/
abbrev Gm := List (Option D)
structure Sl (K : PySem.W.Frag) (F : Fz) (H : Hp) (σ : L2.St) (Γ : Gm) : Prop where
  len : σ.length = Γ.length
  get : ∀ (i : Nat) (d : D), Γ[i]? = some (some d) → ∃ v, σ[i]? = some (some v) ∧ Rep K F H v d
theorem Sl.mono {K : PySem.W.Frag} {F F' : Fz} {H H' : Hp} {σ : L2.St} {Γ : Gm} (x : Sl K F H σ Γ) (s : Mv F H F' H') : Sl K F' H' σ Γ := ⟨x.len, fun i d e => by
  obtain ⟨v, h, r⟩ := x.get i d e
  exact ⟨v, h, r.mono s⟩⟩
theorem Sl.set {K : PySem.W.Frag} {F : Fz} {H : Hp} {σ : L2.St} {Γ : Gm} (x : Sl K F H σ Γ) (i : Nat) {v : V} {d : D} (r : Rep K F H v d) : Sl K F H (σ.set i (some v)) (Γ.set i (some d)) := by
  refine ⟨by simpa using x.len, fun j d' e => ?_⟩
  by_cases h : j = i
  · subst h
    by_cases hl : j < Γ.length
    · rw [List.getElem?_set_self hl] at e
      cases e
      exact ⟨v, List.getElem?_set_self (by rw [x.len]; exact hl), r⟩
    · rw [List.getElem?_eq_none (by simp; omega)] at e
      cases e
  · rw [List.getElem?_set_ne (Ne.symm h)] at e
    rw [List.getElem?_set_ne (Ne.symm h)]
    exact x.get j d' e
theorem Sl.forget {K : PySem.W.Frag} {F : Fz} {H : Hp} {σ : L2.St} {Γ Γ' : Gm} (x : Sl K F H σ Γ) (hl : Γ'.length = Γ.length) (h : ∀ (i : Nat) (d : D), Γ'[i]? = some (some d) → Γ[i]? = some (some d)) : Sl K F H σ Γ' :=
  ⟨x.len.trans hl.symm, fun i d e => x.get i d (h i d e)⟩
end DL
namespace DL
open PySem PySem.Spec PyProof.Rows L2

/-! ### the meanings themselves as readings -/
section
variable {X : Cx} {σ : L2.St} {H : Hp}
structure WE (X : Cx) (e : Expr) (σ : L2.St) (H : Hp) (Q : VK) : Prop where
  run : ∀ (pins : List (Addr × Obj)) (s : Shared), Inv X pins σ H s → wpAny (model X.prog X.w) X.A (eval e X.env) (EP X pins σ Q) X.xe s
structure WT (X : Cx) (e : Expr) (σ : L2.St) (H : Hp) (Q : Bool → Hp → Prop) : Prop where
  run : ∀ (pins : List (Addr × Obj)) (s : Shared), Inv X pins σ H s → wpAny (model X.prog X.w) X.A (isTrue e X.env (eval e X.env)) (TP X pins σ Q) X.xe s
structure WA (X : Cx) (es : List Expr) (σ : L2.St) (H : Hp) (Q : List V → Hp → Prop) : Prop where
  run : ∀ (pos : Pos) (pins : List (Addr × Obj)) (s : Shared), Inv X pins σ H s → wpAny (model X.prog X.w) X.A (spliced (backTo pos (starEach es X.env))) (AP X pins σ Q) X.xe s
structure WSs (X : Cx) (st : List Stmt) (D : Ends) (σ : L2.St) (H : Hp) : Prop where
  run : ∀ (pins : List (Addr × Obj)) (s : Shared), Inv X pins σ H s → wpAny (model X.prog X.w) X.A (execs st X.env) (SP X pins D) X.xe s
structure WS (X : Cx) (st : Stmt) (D : Ends) (σ : L2.St) (H : Hp) : Prop where
  run : ∀ (pins : List (Addr × Obj)) (s : Shared), Inv X pins σ H s → wpAny (model X.prog X.w) X.A (exec st X.env) (SP X pins D) X.xe s
theorem pe_we {e : Expr} : PE X e (WE X e) := ⟨fun pins s σ H Q I h => h.run pins s I⟩
theorem pt_we {e : Expr} : PT X e (WT X e) := ⟨fun pins s σ H Q I h => h.run pins s I⟩
theorem pa_we {es : List Expr} : PA X es (WA X es) := ⟨fun pos pins s σ H Q I h => h.run pos pins s I⟩
theorem ps_we {st : Stmt} : PS X st (WS X st) := ⟨fun pins s σ H D I h => h.run pins s I⟩
theorem pss_we {st : List Stmt} : PSs X st (WSs X st) := ⟨fun pins s σ H D I h => h.run pins s I⟩
theorem we_of {e : Expr} {t : TE} {Q : VK} (h : PE X e t) (q : t σ H Q) : WE X e σ H Q := ⟨fun pins s I => h.run pins s σ H Q I q⟩
theorem wt_of {e : Expr} {t : TT} {Q : Bool → Hp → Prop} (h : PT X e t) (q : t σ H Q) : WT X e σ H Q := ⟨fun pins s I => h.run pins s σ H Q I q⟩
theorem wa_of {es : List Expr} {t : TA} {Q : List V → Hp → Prop} (h : PA X es t) (q : t σ H Q) : WA X es σ H Q := ⟨fun pos pins s I => h.run pos pins s σ H Q I q⟩
theorem ws_of {st : Stmt} {t : TS} {D : Ends} (h : PS X st t) (q : t D σ H) : WS X st D σ H := ⟨fun pins s I => h.run pins s σ H D I q⟩
theorem wss_of {st : List Stmt} {t : TS} {D : Ends} (h : PSs X st t) (q : t D σ H) : WSs X st D σ H := ⟨fun pins s I => h.run pins s σ H D I q⟩
end

/-! ### the context, and what is known -/
structure Ctx where
  X : Cx
  W : WX
  R : Gm → Value → List (Str × D) → Lp → Prop
  tk : Takes X W
  po : PassesOwn (model X.prog X.w) X.A X.env X.xe
  calm : X.calm = true
  nd : X.N.Nodup
abbrev Ctx.Con (C : Ctx) (L : Lp) (F : Fz) (H : Hp) : Prop := DL.Con C.X.prog C.X.w C.X.K L F H
/-- the exception's own dict -/
def XdAt (K : PySem.W.Frag) (F : Fz) (H : Hp) (d : Addr) (fs : List (Str × D)) : Prop := ∃ fvs, H d = some (.xd fvs) ∧ Paired (fun (p : Str × V) (q : Str × D) => p.1 = q.1 ∧ Rep K F H p.2 q.2) fvs fs
structure LinkR (C : Ctx) (L : Lp) (F : Fz) (H : Hp) : Prop where
  of : ∀ {F'} cls d σ' H' Γ' L' fs, Sl C.X.K F' H' σ' Γ' → C.Con L' F' H' → Fr L F H L' F' H' → XdAt C.X.K F' H' d fs → C.R Γ' cls fs L' → C.W cls (some d) σ' H'
structure Ok (C : Ctx) (Γ : Gm) (L : Lp) (F : Fz) (σ : L2.St) (H : Hp) : Prop where
  sl : Sl C.X.K F H σ Γ
  con : C.Con L F H
  lr : LinkR C L F H
theorem LinkR.step {C : Ctx} {L L' : Lp} {F F' : Fz} {H H' : Hp} (x : LinkR C L F H) (f : Fr L F H L' F' H') : LinkR C L' F' H' := ⟨fun cls d σ' H2 Γ' L2 fs s c f2 xd r => x.of cls d σ' H2 Γ' L2 fs s c (f.trans f2) xd r⟩
theorem Ok.step {C : Ctx} {Γ : Gm} {L L' : Lp} {σ : L2.St} {F F' : Fz} {H H' : Hp} (x : Ok C Γ L F σ H) (c : C.Con L' F' H') (f : Fr L F H L' F' H') : Ok C Γ L' F' σ H' := ⟨x.sl.mono f.mv, c, x.lr.step f⟩
theorem Ok.le {C : Ctx} {Γ : Gm} {L L' : Lp} {σ : L2.St} {F : Fz} {H : Hp} (x : Ok C Γ L F σ H) (h : Le L' L) : Ok C Γ L' F σ H := ⟨x.sl, x.con.le h, ⟨fun cls d σ' H2 Γ' L2 fs s c f2 xd r => x.lr.of cls d σ' H2 Γ' L2 fs s c (f2.leL h) xd r⟩⟩

def Go (C : Ctx) (L : Lp) (F : Fz) (H : Hp) (Q : D → Lp → Prop) (QV : VK) : Prop := ∀ {F'} v d H' L', Rep C.X.K F' H' v d → C.Con L' F' H' → Fr L F H L' F' H' → Q d L' → QV v H'
def GoT (C : Ctx) (L : Lp) (F : Fz) (H : Hp) (Q : Bool → Lp → Prop) (QV : Bool → Hp → Prop) : Prop := ∀ {F'} b H' L', C.Con L' F' H' → Fr L F H L' F' H' → Q b L' → QV b H'
def GoA (C : Ctx) (L : Lp) (F : Fz) (H : Hp) (Q : List D → Lp → Prop) (QV : List V → Hp → Prop) : Prop := ∀ {F'} vs ds H' L', Reps C.X.K F' H' vs ds → C.Con L' F' H' → Fr L F H L' F' H' → Q ds L' → QV vs H'
theorem Go.after {C : Ctx} {L L' : Lp} {F F' : Fz} {H H' : Hp} {Q : D → Lp → Prop} {QV : VK} (g : Go C L F H Q QV) (f : Fr L F H L' F' H') : Go C L' F' H' Q QV := fun v d H2 L2 r c f2 q => g v d H2 L2 r c (f.trans f2) q
theorem GoT.after {C : Ctx} {L L' : Lp} {F F' : Fz} {H H' : Hp} {Q : Bool → Lp → Prop} {QV : Bool → Hp → Prop} (g : GoT C L F H Q QV) (f : Fr L F H L' F' H') : GoT C L' F' H' Q QV := fun v H2 L2 c f2 q => g v H2 L2 c (f.trans f2) q
theorem GoA.after {C : Ctx} {L L' : Lp} {F F' : Fz} {H H' : Hp} {Q : List D → Lp → Prop} {QV : List V → Hp → Prop} (g : GoA C L F H Q QV) (f : Fr L F H L' F' H') : GoA C L' F' H' Q QV := fun v d H2 L2 r c f2 q => g v d H2 L2 r c (f.trans f2) q

structure AEnds where
  nx : Gm → Lp → Prop
  rt : D → Lp → Prop
  bk : Gm → Lp → Prop := fun _ _ => False
  ct : Gm → Lp → Prop := fun _ _ => False
structure GoS (C : Ctx) (L : Lp) (F : Fz) (H : Hp) (E : AEnds) (DD : Ends) : Prop where
  nx : ∀ {F'} σ' H' Γ' L', Ok C Γ' L' F' σ' H' → Fr L F H L' F' H' → E.nx Γ' L' → DD.nx σ' H'
  rt : ∀ {F'} v d H' L', Rep C.X.K F' H' v d → C.Con L' F' H' → Fr L F H L' F' H' → E.rt d L' → DD.rt v H'
  bk : ∀ {F'} σ' H' Γ' L', Ok C Γ' L' F' σ' H' → Fr L F H L' F' H' → E.bk Γ' L' → DD.bk σ' H'
  ct : ∀ {F'} σ' H' Γ' L', Ok C Γ' L' F' σ' H' → Fr L F H L' F' H' → E.ct Γ' L' → DD.ct σ' H'
theorem GoS.after {C : Ctx} {L L' : Lp} {F F' : Fz} {H H' : Hp} {E : AEnds} {DD : Ends} (g : GoS C L F H E DD) (f : Fr L F H L' F' H') : GoS C L' F' H' E DD :=
  ⟨fun s H2 Γ L2 o f2 q => g.nx s H2 Γ L2 o (f.trans f2) q, fun v d H2 L2 r c f2 q => g.rt v d H2 L2 r c (f.trans f2) q, fun s H2 Γ L2 o f2 q => g.bk s H2 Γ L2 o (f.trans f2) q, fun s H2 Γ L2 o f2 q => g.ct s H2 Γ L2 o (f.trans f2) q⟩

/-! ### the judgements over data -/
def AE (C : Ctx) (e : Expr) (Γ : Gm) (L : Lp) (Q : D → Lp → Prop) : Prop := ∀ F σ H, Ok C Γ L F σ H → ∀ QV, Go C L F H Q QV → WE C.X e σ H QV
def AT (C : Ctx) (e : Expr) (Γ : Gm) (L : Lp) (Q : Bool → Lp → Prop) : Prop := ∀ F σ H, Ok C Γ L F σ H → ∀ QV, GoT C L F H Q QV → WT C.X e σ H QV
def AA (C : Ctx) (es : List Expr) (Γ : Gm) (L : Lp) (Q : List D → Lp → Prop) : Prop := ∀ F σ H, Ok C Γ L F σ H → ∀ QV, GoA C L F H Q QV → WA C.X es σ H QV
def AS (C : Ctx) (st : Stmt) (Γ : Gm) (L : Lp) (E : AEnds) : Prop := ∀ F σ H, Ok C Γ L F σ H → ∀ DD, GoS C L F H E DD → WS C.X st DD σ H
def ASs (C : Ctx) (st : List Stmt) (Γ : Gm) (L : Lp) (E : AEnds) : Prop := ∀ F σ H, Ok C Γ L F σ H → ∀ DD, GoS C L F H E DD → WSs C.X st DD σ H

section
variable {C : Ctx} {Γ : Gm} {L : Lp} {e a b c : Expr} {es : List Expr} {pos : Pos} {st : Stmt} {sts : List Stmt} {E : AEnds} {Q : D → Lp → Prop}
theorem AE.mono {Q' : D → Lp → Prop} (h : AE C e Γ L Q) (m : ∀ d L', Q d L' → Q' d L') : AE C e Γ L Q' := fun F σ H ok QV go => h _ σ H ok QV fun v d H' L' r c f q => go v d H' L' r c f (m d L' q)
theorem AT.mono {Q Q' : Bool → Lp → Prop} (h : AT C e Γ L Q) (m : ∀ d L', Q d L' → Q' d L') : AT C e Γ L Q' := fun F σ H ok QV go => h _ σ H ok QV fun d H' L' c f q => go d H' L' c f (m d L' q)
theorem AA.mono {Q Q' : List D → Lp → Prop} (h : AA C es Γ L Q) (m : ∀ d L', Q d L' → Q' d L') : AA C es Γ L Q' := fun F σ H ok QV go => h _ σ H ok QV fun v d H' L' r c f q => go v d H' L' r c f (m d L' q)
/-- forgetting a part of the store: ahead, behind -/
theorem AE.forget {L' : Lp} (le : Le L' L) (h : AE C e Γ L' Q) : AE C e Γ L Q := fun F σ H ok QV go => h _ σ H (ok.le le) QV fun v d H' L2 r c f q => go v d H' L2 r c (f.leL le) q
theorem AE.drop (h : AE C e Γ L fun d L' => ∃ L2, Le L2 L' ∧ Q d L2) : AE C e Γ L Q := fun F σ H ok QV go => h _ σ H ok QV fun v d H' L' r c f ⟨L2, le, q⟩ => go v d H' L2 r (c.le le) (f.leR le) q
theorem ASs.forget {L' : Lp} (le : Le L' L) (h : ASs C sts Γ L' E) : ASs C sts Γ L E := fun F σ H ok DD go => h _ σ H (ok.le le) DD
  ⟨fun s H2 Γ L2 o f2 q => go.nx s H2 Γ L2 o (f2.leL le) q, fun v d H2 L2 r c f2 q => go.rt v d H2 L2 r c (f2.leL le) q, fun s H2 Γ L2 o f2 q => go.bk s H2 Γ L2 o (f2.leL le) q, fun s H2 Γ L2 o f2 q => go.ct s H2 Γ L2 o (f2.leL le) q⟩
theorem ASs.mono {E' : AEnds} (h : ASs C sts Γ L E) (m1 : ∀ Γ L, E.nx Γ L → E'.nx Γ L) (m2 : ∀ d L, E.rt d L → E'.rt d L) (m3 : ∀ Γ L, E.bk Γ L → E'.bk Γ L) (m4 : ∀ Γ L, E.ct Γ L → E'.ct Γ L) : ASs C sts Γ L E' := fun F σ H ok DD go => h _ σ H ok DD
  ⟨fun s H2 Γ L2 o f2 q => go.nx s H2 Γ L2 o f2 (m1 _ _ q), fun v d H2 L2 r c f2 q => go.rt v d H2 L2 r c f2 (m2 _ _ q), fun s H2 Γ L2 o f2 q => go.bk s H2 Γ L2 o f2 (m3 _ _ q), fun s H2 Γ L2 o f2 q => go.ct s H2 Γ L2 o f2 (m4 _ _ q)⟩

theorem AE.bnd (h : AE C e Γ L fun d L' => Bnd d → Q d L') : AE C e Γ L Q := fun F σ H ok QV go => h _ σ H ok QV fun v d H' L' r c f q => go v d H' L' r c f (q r.bnd)
theorem AA.bnd {Q : List D → Lp → Prop} (h : AA C es Γ L fun ds L' => (∀ d ∈ ds, Bnd d) → Q ds L') : AA C es Γ L Q := fun F σ H ok QV go => h _ σ H ok QV fun vs ds H' L' r c f q => go vs ds H' L' r c f (q fun d hd => by
  obtain ⟨i, hi⟩ := List.getElem?_of_mem hd
  obtain ⟨v, _, rv⟩ := r.get hi
  exact rv.bnd)
theorem ASs.slot {i : Nat} {d : D} (hg : Γ[i]? = some (some d)) (h : Bnd d → ASs C sts Γ L E) : ASs C sts Γ L E := fun F σ H ok DD go => by
  obtain ⟨v, _, r⟩ := ok.sl.get i d hg
  exact h r.bnd _ σ H ok DD go
theorem ASs.list {p : Addr} {ds : List D} (hp : L p = some (.lst ds)) (h : ds.length ≤ sizeLine → ASs C sts Γ L E) : ASs C sts Γ L E := fun F σ H ok DD go => by
  obtain ⟨vs, _, _, z⟩ := ok.con.at_ p _ hp
  exact h z _ σ H ok DD go
theorem AE.list {p : Addr} {ds : List D} (hp : L p = some (.lst ds)) (h : ds.length ≤ sizeLine → AE C e Γ L Q) : AE C e Γ L Q := fun F σ H ok DD go => by
  obtain ⟨vs, _, _, z⟩ := ok.con.at_ p _ hp
  exact h z _ σ H ok DD go

/-! ### names and constants -/
theorem ae_name (i : Nat) {x : Str} {d : D} (hg : Γ[i]? = some (some d)) (q : Q d L) (hN : C.X.N[i]? = some x := by rfl) (hv : Vis C.X.env.scope x := by first | exact Or.inl rfl | exact Or.inr (Or.inl rfl) | exact Or.inr (Or.inr rfl))
    (hd : (x == ("__debug__" : Str)) = false := by decide) (hcd : (x == ("__classdict__" : Str)) = false := by decide) : AE C (.Name x pos) Γ L Q := fun F σ H ok QV go => by
  obtain ⟨v, e, r⟩ := ok.sl.get i d hg
  exact we_of (pe_var hN hv hd hcd) ⟨v, e, go v d H L r ok.con (.refl L H) q⟩
theorem ae_int {i : Int} {j : Nat} (q : Q (.int i) L) : AE C (.Constant (.int i) j pos) Γ L Q := fun F σ H ok QV go => we_of pe_int (go _ _ H L (.int i) ok.con (.refl L H) q)
theorem ae_bl {b : Bool} {j : Nat} (q : Q (.bl b) L) : AE C (.Constant (.bool b) j pos) Γ L Q := fun F σ H ok QV go => we_of pe_bl (go _ _ H L (.bl b) ok.con (.refl L H) q)
theorem ae_non {j : Nat} (q : Q .non L) : AE C (.Constant .none j pos) Γ L Q := fun F σ H ok QV go => we_of pe_non (go _ _ H L .non ok.con (.refl L H) q)
theorem ae_str {x : Str} {j : Nat} (q : Q (.str x) L) (hz : SOk x := by exact ⟨by decide +kernel, by decide +kernel⟩) : AE C (.Constant (.str x) j pos) Γ L Q := fun F σ H ok QV go => we_of pe_str (go _ _ H L (.str x hz) ok.con (.refl L H) q)
/-- a constant of the module -/
theorem ae_glob {x : Str} {v : V} {u : Value} {d : D} (hm : C.X.mg x = some u) (r : RelV v u) (rd : ∀ {F} H, Rep C.X.K F H v d) (q : Q d L) (hg : Gl C.X x := by rfl) (hd : (x == ("__debug__" : Str)) = false := by decide) : AE C (.Name x pos) Γ L Q := fun F σ H ok QV go =>
  we_of (pe_glob hg hm r hd) (go _ _ H L (rd H) ok.con (.refl L H) q)
theorem ae_globI {x : Str} {i : Int} {t : Tok} (hm : C.X.mg x = some (.int i t)) (q : Q (.int i) L) (hg : Gl C.X x := by rfl) (hd : (x == ("__debug__" : Str)) = false := by decide) : AE C (.Name x pos) Γ L Q := ae_glob (v := .int i) hm ⟨t, rfl⟩ (fun _ => .int i) q hg hd
theorem ae_globS {x y : Str} {t : Tok} (hm : C.X.mg x = some (.str y t)) (q : Q (.str y) L) (hz : SOk y := by exact ⟨by decide +kernel, by decide +kernel⟩) (hg : Gl C.X x := by rfl) (hd : (x == ("__debug__" : Str)) = false := by decide) : AE C (.Name x pos) Γ L Q := ae_glob (v := .str y) hm ⟨t, rfl⟩ (fun _ => .str y hz) q hg hd
theorem ae_bltn {x : Str} {T : String} (hm : C.X.mg x = none) (hv : bootBuiltins x = some (.type T)) (q : Q (.ty T) L) (hg : Gl C.X x := by rfl) (hn : x ≠ "__name__" := by decide) (hd : (x == ("__debug__" : Str)) = false := by decide) : AE C (.Name x pos) Γ L Q := fun F σ H ok QV go =>
  we_of (pe_bltn hg hm hv (v := .ty T) rfl hn hd) (go _ _ H L (.ty T) ok.con (.refl L H) q)

/-! ### operators by their rules -/
/-- r, on values, does what Q wants of the data x, y -/
def L2R (C : Ctx) (r : R2) (x y : D) (L : Lp) (Q : D → Lp → Prop) : Prop := ∀ F vx vy H, C.Con L F H → Rep C.X.K F H vx x → Rep C.X.K F H vy y → ∀ QV, Go C L F H Q QV → r vx vy H QV
theorem ae_two {t : Expr} {r : R2} (hp : PE C.X t (tOp r (WE C.X a) (WE C.X b))) (h : AE C a Γ L fun x L1 => AE C b Γ L1 fun y L2 => L2R C r x y L2 Q) : AE C t Γ L Q := fun F σ H ok QV go =>
  we_of hp (h _ σ H ok _ fun vx x H1 L1 rx c1 f1 q1 => q1 _ σ H1 (ok.step c1 f1) _ fun vy y H2 L2 ry c2 f2 q2 => q2 _ vx vy H2 c2 (rx.mono f2.mv) ry QV (go.after (f1.trans f2)))
theorem ae_bin {op : Operator} {r : R2} (ho : OpR C.X (binaryOp op) r) (h : AE C a Γ L fun x L1 => AE C b Γ L1 fun y L2 => L2R C r x y L2 Q) : AE C (.BinOp a op b pos) Γ L Q := ae_two (pe_op ho pe_we pe_we) h
theorem ae_cmp {op : CmpOp} {r : R2} (ho : OpR C.X (compareOp op) r) (hm : behindInMarks op b = false) (h : AE C a Γ L fun x L1 => AE C b Γ L1 fun y L2 => L2R C r x y L2 Q) : AE C (.Compare a [op] [b] pos) Γ L Q := ae_two (pe_cmpR ho pe_we pe_we hm) h
theorem at_cmp {op : CmpOp} {r : R2} {Q : Bool → Lp → Prop} (ho : OpR C.X (compareOp op) r) (hm : behindInMarks op b = false) (h : AE C a Γ L fun x L1 => AE C b Γ L1 fun y L2 => L2R C r x y L2 fun d L3 => ∃ k, d = .bl k ∧ Q k L3) : AT C (.Compare a [op] [b] pos) Γ L Q := fun F σ H ok QV go =>
  wt_of (pt_cmpR ho pe_we pe_we hm) (h _ σ H ok _ fun vx x H1 L1 rx c1 f1 q1 => q1 _ σ H1 (ok.step c1 f1) _ fun vy y H2 L2 ry c2 f2 q2 => q2 _ vx vy H2 c2 (rx.mono f2.mv) ry _ fun v d H3 L3 r3 c3 f3 ⟨k, e, q3⟩ => by
    subst e
    exact ⟨k, r3.blE, go k H3 L3 c3 ((f1.trans f2).trans f3) q3⟩)
theorem ae_ix {r : R2} (hr : IxR C.X r) (h : AE C a Γ L fun x L1 => AE C b Γ L1 fun y L2 => L2R C r x y L2 Q) (hs : PlainIx b := by exact fun _ _ => rfl) : AE C (.Subscript a b pos) Γ L Q := ae_two (pe_ix hr pe_we pe_we hs) h
theorem r_I0 {g : Int → Int → V} {g' : Int → Int → D} {i j : Int} (hg : ∀ {F} H, Rep C.X.K F H (g i j) (g' i j)) (q : Q (g' i j) L) : L2R C (rI0 g) (.int i) (.int j) L Q := fun F vx vy H c rx ry QV go => ⟨i, j, rx.intE, ry.intE, go _ _ H L (hg H) c (.refl L H) q⟩
theorem r_I {Cd : Int → Int → Prop} {g : Int → Int → V} {g' : Int → Int → D} {i j : Int} (hc : Cd i j) (hg : ∀ {F} H, Rep C.X.K F H (g i j) (g' i j)) (q : Q (g' i j) L) : L2R C (rI Cd g) (.int i) (.int j) L Q := fun F vx vy H c rx ry QV go => ⟨i, j, rx.intE, ry.intE, hc, go _ _ H L (hg H) c (.refl L H) q⟩
end
end DL
namespace DL
open PySem PySem.Spec PyProof.Rows L2

section
variable {C : Ctx} {Γ : Gm} {L : Lp} {e a b c : Expr} {es : List Expr} {pos : Pos} {st : Stmt} {sts : List Stmt} {E : AEnds} {Q : D → Lp → Prop}

/-! ### ints -/
theorem r_add {i j : Int} (q : Q (.int (i + j)) L) : L2R C (rI0 fun i j => .int (i + j)) (.int i) (.int j) L Q := r_I0 (g' := fun i j => .int (i + j)) (fun _ => .int _) q
theorem r_sub {i j : Int} (q : Q (.int (i - j)) L) : L2R C (rI0 fun i j => .int (i - j)) (.int i) (.int j) L Q := r_I0 (g' := fun i j => .int (i - j)) (fun _ => .int _) q
theorem r_mul {i j : Int} (h : CMul i j) (q : Q (.int (i * j)) L) : L2R C (rI CMul fun i j => .int (i * j)) (.int i) (.int j) L Q := r_I (g' := fun i j => .int (i * j)) h (fun _ => .int _) q
theorem r_mod {i j : Int} (h : 0 < j) (q : Q (.int (i % j)) L) : L2R C (rI (fun _ j => 0 < j) fun i j => .int (i % j)) (.int i) (.int j) L Q := r_I (Cd := fun _ j => 0 < j) (g := fun i j => .int (i % j)) (g' := fun i j => .int (i % j)) h (fun _ => .int _) q
theorem r_fdiv {i j : Int} (h : CDiv i j) (q : Q (.int (i / j)) L) : L2R C (rI CDiv fun i j => .int (i / j)) (.int i) (.int j) L Q := r_I (g' := fun i j => .int (i / j)) h (fun _ => .int _) q
theorem r_pow {i j : Int} (h : CPow i j) (q : Q (.int (i ^ j.toNat)) L) : L2R C (rI CPow fun i j => .int (i ^ j.toNat)) (.int i) (.int j) L Q := r_I (g' := fun i j => .int (i ^ j.toNat)) h (fun _ => .int _) q
theorem r_lt {i j : Int} (q : Q (.bl (decide (i < j))) L) : L2R C (rI0 fun i j => .bl (decide (i < j))) (.int i) (.int j) L Q := r_I0 (g' := fun i j => .bl (decide (i < j))) (fun _ => .bl _) q
theorem r_le {i j : Int} (q : Q (.bl (decide (i ≤ j))) L) : L2R C (rI0 fun i j => .bl (decide (i ≤ j))) (.int i) (.int j) L Q := r_I0 (g' := fun i j => .bl (decide (i ≤ j))) (fun _ => .bl _) q
theorem r_gt {i j : Int} (q : Q (.bl (decide (j < i))) L) : L2R C (rI0 fun i j => .bl (decide (j < i))) (.int i) (.int j) L Q := r_I0 (g' := fun i j => .bl (decide (j < i))) (fun _ => .bl _) q
theorem r_ge {i j : Int} (q : Q (.bl (decide (j ≤ i))) L) : L2R C (rI0 fun i j => .bl (decide (j ≤ i))) (.int i) (.int j) L Q := r_I0 (g' := fun i j => .bl (decide (j ≤ i))) (fun _ => .bl _) q
theorem vint_dec (i j : Int) : decide (V.int i = V.int j) = decide (i = j) := by
  by_cases h : i = j
  · subst h; simp
  · rw [decide_eq_false h, decide_eq_false (fun q => h (V.int.inj q))]
theorem vstr_dec (i j : Str) : decide (V.str i = V.str j) = decide (i = j) := by
  by_cases h : i = j
  · subst h; simp
  · rw [decide_eq_false h, decide_eq_false (fun q => h (V.str.inj q))]
theorem r_eqI {i j : Int} (q : Q (.bl (decide (i = j))) L) : L2R C rEq (.int i) (.int j) L Q := fun F vx vy H c rx ry QV go => by
  rw [rx.intE, ry.intE]
  refine ⟨rfl, ?_⟩
  rw [vint_dec]
  exact go _ _ H L (.bl _) c (.refl L H) q
theorem r_neI {i j : Int} (q : Q (.bl (!decide (i = j))) L) : L2R C rNe (.int i) (.int j) L Q := fun F vx vy H c rx ry QV go => by
  rw [rx.intE, ry.intE]
  refine ⟨rfl, ?_⟩
  rw [vint_dec]
  exact go _ _ H L (.bl _) c (.refl L H) q
theorem r_eqS {i j : Str} (q : Q (.bl (decide (i = j))) L) : L2R C rEq (.str i) (.str j) L Q := fun F vx vy H c rx ry QV go => by
  rw [rx.strE, ry.strE]
  refine ⟨rfl, ?_⟩
  rw [vstr_dec]
  exact go _ _ H L (.bl _) c (.refl L H) q
theorem r_neS {i j : Str} (q : Q (.bl (!decide (i = j))) L) : L2R C rNe (.str i) (.str j) L Q := fun F vx vy H c rx ry QV go => by
  rw [rx.strE, ry.strE]
  refine ⟨rfl, ?_⟩
  rw [vstr_dec]
  exact go _ _ H L (.bl _) c (.refl L H) q

/-! ### texts -/
theorem str_len_app (i j : Str) : (i ++ j).length = i.length + j.length := by
  show (i.cps ++ j.cps).size = _
  rw [Array.size_append]
  rfl
theorem SOk.app {i j : Str} (hi : SOk i) (hj : SOk j) (h : i.length + j.length ≤ sizeLine) : SOk (i ++ j) := .of (by rw [str_len_app]; exact h) fun k hk => by
  have e : (i ++ j).cps.toList = i.cps.toList ++ j.cps.toList := by
    show (i.cps ++ j.cps).toList = _
    simp
  rw [e] at hk
  rcases List.mem_append.mp hk with z | z
  · exact hi.mem z
  · exact hj.mem z
theorem SOk.one {k : Nat} (h : k < 0x110000) : SOk ⟨#[k]⟩ := .of (by show 1 ≤ sizeLine; decide) fun j hj => by
  have e : j = k := by simpa using hj
  rw [e]
  exact h
theorem atI_mem {α : Type} {xs : List α} {i : Int} {d : α} (h : atI xs i = some d) : d ∈ xs := by
  unfold atI at h
  cases e : ixN xs.length i with
  | none =>
    rw [e] at h
    cases h
  | some j =>
    rw [e] at h
    exact List.mem_of_getElem? (show xs[j]? = some d from h)
abbrev rAddS : R2 := fun x y H Q => ∃ i j, x = .str i ∧ y = .str j ∧ i.length + j.length ≤ sizeLine ∧ Q (.str (i ++ j)) H
theorem r_addS {i j : Str} (h : i.length + j.length ≤ sizeLine) (q : Q (.str (i ++ j)) L) : L2R C rAddS (.str i) (.str j) L Q := fun F vx vy H c rx ry QV go => ⟨i, j, rx.strE, ry.strE, h, go _ _ H L (.str _ (SOk.app rx.bnd ry.bnd h)) c (.refl L H) q⟩
abbrev rLtS : R2 := fun x y H Q => ∃ i j, x = .str i ∧ y = .str j ∧ Q (.bl (decide (i.cps.toList < j.cps.toList))) H
theorem r_ltS {i j : Str} (q : Q (.bl (decide (i.cps.toList < j.cps.toList))) L) : L2R C rLtS (.str i) (.str j) L Q := fun F vx vy H c rx ry QV go => ⟨i, j, rx.strE, ry.strE, go _ _ H L (.bl _) c (.refl L H) q⟩
theorem r_ixS {z : Str} {i : Int} {k : Nat} (h : atI z.cps.toList i = some k) (q : Q (.str ⟨#[k]⟩) L) : L2R C rIxS (.str z) (.int i) L Q := fun F vx vy H c rx ry QV go => ⟨z, i, k, rx.strE, ry.intE, rx.bnd.len, h, go _ _ H L (.str _ (.one (SOk.mem rx.bnd (atI_mem h)))) c (.refl L H) q⟩

/-! ### tuples, lists -/
theorem Reps.nil_iff {K : PySem.W.Frag} {F : Fz} {H : Hp} {vs : List V} {ds : List D} (r : Reps K F H vs ds) : vs = [] ↔ ds = [] := by
  cases r with
  | nil => simp
  | cons _ _ => simp
theorem r_catT {xs ys : List D} (hz : xs.length + ys.length ≤ sizeLine) (q : Q (.tup (xs ++ ys)) L) : L2R C (rCatA C.X.K) (.tup xs) (.tup ys) L Q := fun F vx vy H c rx ry QV go => by
  obtain ⟨a, vs, rfl, ha, ra⟩ := rx.tupE
  obtain ⟨b, ws, rfl, hb, rb⟩ := ry.tupE
  refine ⟨a, b, vs, ws, rfl, rfl, SqT.of ha, SqT.of hb, by rw [ra.length, rb.length]; exact hz, fun h => ?_, fun h1 h2 => ?_, fun h1 h2 p hp => ?_⟩
  · have e := ra.nil_iff.mp h
    subst e
    exact go _ _ H L ry c (.refl L H) q
  · have e := rb.nil_iff.mp h2
    subst e
    rw [List.append_nil] at q
    exact go _ _ H L rx c (.refl L H) q
  · exact go _ _ _ L (Rep.tupI upd_same ((ra.append rb).mono (.new hp)) (by rw [List.length_append]; exact hz)) (c.new hp) (.new hp) q
theorem atI_reps {K : PySem.W.Frag} {F : Fz} {H : Hp} {vs : List V} {ds : List D} {i : Int} {d : D} (r : Reps K F H vs ds) (h : atI ds i = some d) : ∃ v, atI vs i = some v ∧ Rep K F H v d := by
  unfold atI at h ⊢
  rw [r.length]
  cases e : ixN ds.length i with
  | none =>
    rw [e] at h
    cases h
  | some j =>
    rw [e] at h
    obtain ⟨v, h1, h2⟩ := r.get (show ds[j]? = some d from h)
    exact ⟨v, h1, h2⟩
theorem r_ixT {xs : List D} {i : Int} {d : D} (h : atI xs i = some d) (q : Q d L) : L2R C (rIxT C.X.K) (.tup xs) (.int i) L Q := fun F vx vy H c rx ry QV go => by
  obtain ⟨a, vs, rfl, ha, ra⟩ := rx.tupE
  obtain ⟨v, h1, h2⟩ := atI_reps ra h
  exact ⟨a, vs, i, v, rfl, ry.intE, SqT.of ha, h1, go _ _ H L h2 c (.refl L H) q⟩
theorem r_ixL {p : Addr} {xs : List D} {i : Int} {d : D} (hp : L p = some (.lst xs)) (h : atI xs i = some d) (q : Q d L) : L2R C (rIxL C.X.K) (.ptr p) (.int i) L Q := fun F vx vy H c rx ry QV go => by
  obtain ⟨vs, ha, ra, hz⟩ := c.at_ p _ hp
  obtain ⟨v, h1, h2⟩ := atI_reps ra h
  exact ⟨p, vs, i, v, rx.ptrE, ry.intE, SqL.of ha, h1, go _ _ H L h2 c (.refl L H) q⟩
theorem r_ixN {ns : List Int} {i k : Int} (h : atI ns i = some k) (q : Q (.int k) L) : L2R C (rIxL C.X.K) (.ilst ns) (.int i) L Q := fun F vx vy H c rx ry QV go => by
  obtain ⟨a, rfl, ha⟩ := rx.ilstE
  refine ⟨a, _, i, .int k, rfl, ry.intE, ha, ?_, go _ _ H L (.int k) c (.refl L H) q⟩
  unfold atI at h ⊢
  rw [List.length_map]
  cases e : ixN ns.length i with
  | none =>
    rw [e] at h
    cases h
  | some j =>
    rw [e] at h
    show (ns.map V.int)[j]? = _
    rw [List.getElem?_map, show ns[j]? = some k from h]
    rfl

/-! ### and, or, not; tests -/
theorem at_val {Q : Bool → Lp → Prop} (h : AE C e Γ L fun d L' => ∃ k, d = .bl k ∧ Q k L') (he : ∀ whole, isTrue e C.X.env whole = (do let v ← whole; standAt e.pos; holding [v] (truthy v)) := by intro _; rfl) : AT C e Γ L Q := fun F σ H ok QV go =>
  wt_of (pt_val pe_we he) (h _ σ H ok _ fun v d H1 L1 r c f ⟨k, ek, q⟩ => by
    subst ek
    exact ⟨k, r.blE, go k H1 L1 c f q⟩)
theorem at_not {Q : Bool → Lp → Prop} (h : AT C e Γ L fun k L' => Q (!k) L') : AT C (.UnaryOp .Not e pos) Γ L Q := fun F σ H ok QV go =>
  wt_of (pt_not pt_we) (h _ σ H ok _ fun k H1 L1 c f q => go (!k) H1 L1 c f q)
/-- a chain of and, or as a test, whatever its whole is -/
def AW (C : Ctx) (e : Expr) (Γ : Gm) (L : Lp) (Q : Bool → Lp → Prop) : Prop := ∀ F σ H, Ok C Γ L F σ H → ∀ QV, GoT C L F H Q QV → ∃ t, PW C.X e t ∧ t σ H QV
structure WW (X : Cx) (e : Expr) (σ : L2.St) (H : Hp) (Q : Bool → Hp → Prop) : Prop where
  run : ∀ (whole : Sem Value) (pins : List (Addr × Obj)) (s : Shared), Inv X pins σ H s → wpAny (model X.prog X.w) X.A (isTrue e X.env whole) (TP X pins σ Q) X.xe s
theorem pw_ww {X : Cx} {e : Expr} : PW X e (WW X e) := ⟨fun wh pins s σ H Q I h => h.run wh pins s I⟩
theorem AW.ww {Q : Bool → Lp → Prop} (h : AW C e Γ L Q) {σ : L2.St} {F : Fz} {H : Hp} (ok : Ok C Γ L F σ H) {QV : Bool → Hp → Prop} (go : GoT C L F H Q QV) : WW C.X e σ H QV := by
  obtain ⟨t, p, q⟩ := h _ σ H ok QV go
  exact ⟨fun wh pins s I => p.run wh pins s σ H QV I q⟩
theorem at_w {Q : Bool → Lp → Prop} (h : AW C e Γ L Q) : AT C e Γ L Q := fun F σ H ok QV go => wt_of pw_ww.pt (h.ww ok go)
theorem aw_and1 {Q : Bool → Lp → Prop} (h : AT C a Γ L Q) : AW C (.BoolOp .And [a] pos) Γ L Q := fun F σ H ok QV go => ⟨_, pw_and1 pt_we, h _ σ H ok QV go⟩
theorem aw_or1 {Q : Bool → Lp → Prop} (h : AT C a Γ L Q) : AW C (.BoolOp .Or [a] pos) Γ L Q := fun F σ H ok QV go => ⟨_, pw_or1 pt_we, h _ σ H ok QV go⟩
theorem aw_and {Q : Bool → Lp → Prop} (h : AT C a Γ L fun k L1 => (k = true → AW C (.BoolOp .And (b :: es) pos) Γ L1 Q) ∧ (k = false → Q false L1)) : AW C (.BoolOp .And (a :: b :: es) pos) Γ L Q := fun F σ H ok QV go =>
  ⟨_, pw_and pt_we pw_ww, h _ σ H ok _ fun k H1 L1 c f q => by
    cases k with
    | true => exact AW.ww (q.1 rfl) (ok.step c f) (go.after f)
    | false => exact go false H1 L1 c f (q.2 rfl)⟩
theorem aw_or {Q : Bool → Lp → Prop} (h : AT C a Γ L fun k L1 => (k = true → Q true L1) ∧ (k = false → AW C (.BoolOp .Or (b :: es) pos) Γ L1 Q)) : AW C (.BoolOp .Or (a :: b :: es) pos) Γ L Q := fun F σ H ok QV go =>
  ⟨_, pw_or pt_we pw_ww, h _ σ H ok _ fun k H1 L1 c f q => by
    cases k with
    | true => exact go true H1 L1 c f (q.1 rfl)
    | false => exact AW.ww (q.2 rfl) (ok.step c f) (go.after f)⟩
/-- as values (all but the last bools) -/
theorem ae_one {op : BoolOp} (h : AE C a Γ L Q) : AE C (.BoolOp op [a] pos) Γ L Q := fun F σ H ok QV go => we_of (pe_one pe_we) (h _ σ H ok QV go)
theorem ae_and (h : AE C a Γ L fun d L1 => ∃ k, d = .bl k ∧ (k = true → AE C (.BoolOp .And (b :: es) pos) Γ L1 Q) ∧ (k = false → Q (.bl false) L1)) : AE C (.BoolOp .And (a :: b :: es) pos) Γ L Q := fun F σ H ok QV go =>
  we_of (pe_and pe_we pe_we) (h _ σ H ok _ fun v d H1 L1 r c f ⟨k, ek, q1, q2⟩ => by
    subst ek
    refine ⟨k, r.blE, ?_⟩
    cases k with
    | true => exact (q1 rfl) _ σ H1 (ok.step c f) _ (go.after f)
    | false => exact go _ _ H1 L1 (.bl false) c f (q2 rfl))
theorem ae_or (h : AE C a Γ L fun d L1 => ∃ k, d = .bl k ∧ (k = true → Q (.bl true) L1) ∧ (k = false → AE C (.BoolOp .Or (b :: es) pos) Γ L1 Q)) : AE C (.BoolOp .Or (a :: b :: es) pos) Γ L Q := fun F σ H ok QV go =>
  we_of (pe_or pe_we pe_we) (h _ σ H ok _ fun v d H1 L1 r c f ⟨k, ek, q1, q2⟩ => by
    subst ek
    refine ⟨k, r.blE, ?_⟩
    cases k with
    | true => exact go _ _ H1 L1 (.bl true) c f (q1 rfl)
    | false => exact (q2 rfl) _ σ H1 (ok.step c f) _ (go.after f))
theorem ae_not (h : AE C a Γ L fun d L1 => ∃ k, d = .bl k ∧ Q (.bl (!k)) L1) : AE C (.UnaryOp .Not a pos) Γ L Q := fun F σ H ok QV go =>
  we_of (pe_not pe_we) (h _ σ H ok _ fun v d H1 L1 r c f ⟨k, ek, q⟩ => by
    subst ek
    exact ⟨k, r.blE, go _ _ H1 L1 (.bl _) c f q⟩)
theorem ae_ifExp (h : AT C c Γ L fun k L1 => (k = true → AE C a Γ L1 Q) ∧ (k = false → AE C b Γ L1 Q)) : AE C (.IfExp c a b pos) Γ L Q := fun F σ H ok QV go =>
  we_of (pe_ifExp pt_we pe_we pe_we) (h _ σ H ok _ fun k H1 L1 c f q => by
    cases k with
    | true => exact (q.1 rfl) _ σ H1 (ok.step c f) _ (go.after f)
    | false => exact (q.2 rfl) _ σ H1 (ok.step c f) _ (go.after f))
/-- a < b < c -/
theorem ae_chain {op op' : CmpOp} {r r' : R2} (ho : OpR C.X (compareOp op) r) (ho' : OpR C.X (compareOp op') r')
    (h : AE C a Γ L fun x L1 => AE C b Γ L1 fun y L2 => L2R C r x y L2 fun d L3 => ∃ k, d = .bl k ∧ (k = true → AE C c Γ L3 fun z L4 => L2R C r' y z L4 Q) ∧ (k = false → Q (.bl false) L3))
    (hp : PE C.X (.Compare a [op, op'] [b, c] pos) (tChain r r' (WE C.X a) (WE C.X b) (WE C.X c))) : AE C (.Compare a [op, op'] [b, c] pos) Γ L Q := fun F σ H ok QV go =>
  we_of hp (h _ σ H ok _ fun vx x H1 L1 rx c1 f1 q1 => q1 _ σ H1 (ok.step c1 f1) _ fun vy y H2 L2 ry c2 f2 q2 => q2 _ vx vy H2 c2 (rx.mono f2.mv) ry _ fun v d H3 L3 r3 c3 f3 ⟨k, ek, k1, k2⟩ => by
    subst ek
    refine ⟨k, r3.blE, ?_⟩
    cases k with
    | true =>
      have o3 := ok.step c3 ((f1.trans f2).trans f3)
      exact (k1 rfl) _ σ H3 o3 _ fun vz z H4 L4 rz c4 f4 q4 => q4 _ vy vz H4 c4 ((ry.mono f3.mv).mono f4.mv) rz QV (go.after (((f1.trans f2).trans f3).trans f4))
    | false => exact go _ _ H3 L3 (.bl false) c3 ((f1.trans f2).trans f3) (k2 rfl))
end
end DL
namespace DL
open PySem PySem.Spec PyProof.Rows L2

section
variable {C : Ctx} {Γ : Gm} {L : Lp} {e a b c o : Expr} {es : List Expr} {pos : Pos} {st : Stmt} {sts : List Stmt} {E : AEnds} {Q : D → Lp → Prop}

/-! ### arguments, displays -/
theorem aa_nil {Q : List D → Lp → Prop} (q : Q [] L) : AA C [] Γ L Q := fun F σ H ok QV go => wa_of pa_nil (go [] [] H L .nil ok.con (.refl L H) q)
theorem aa_cons {Q : List D → Lp → Prop} (h : AE C e Γ L fun d L1 => AA C es Γ L1 fun ds L2 => Q (d :: ds) L2) (hs : starEach (e :: es) C.X.env = (false, eval e C.X.env) :: starEach es C.X.env := by rfl) : AA C (e :: es) Γ L Q := fun F σ H ok QV go =>
  wa_of (pa_cons pe_we pa_we hs) (h _ σ H ok _ fun v d H1 L1 r c f q => q _ σ H1 (ok.step c f) _ fun vs ds H2 L2 r2 c2 f2 q2 => go (v :: vs) (d :: ds) H2 L2 (.cons (r.mono f2.mv) r2) c2 (f.trans f2) q2)
theorem ae_tup {x1 : Nat} (h : AA C es Γ L fun ds L1 => ds.length ≤ sizeLine ∧ Q (.tup ds) L1) : AE C (.Tuple es x1 pos) Γ L Q := fun F σ H ok QV go =>
  we_of (pe_tup pa_we) (h _ σ H ok _ fun vs ds H1 L1 r c f ⟨hz, q⟩ => ⟨by rw [r.length]; exact hz, fun p hp => go _ _ _ L1 (Rep.tupI upd_same (r.mono (.new hp)) hz) (c.new hp) (f.trans (.new hp)) q⟩)
theorem ae_lst (h : AA C es Γ L fun ds L1 => ds.length ≤ sizeLine ∧ ∀ p, L1 p = none → Q (.ptr p) (put L1 p (.lst ds))) : AE C (.List es pos) Γ L Q := fun F σ H ok QV go =>
  we_of (pe_lst pa_we) (h _ σ H ok _ fun vs ds H1 L1 r c f ⟨hz, q⟩ => ⟨by rw [r.length]; exact hz, fun p hp => go _ _ _ (put L1 p (.lst ds)) (.ptr p) (c.newL hp ⟨vs, upd_same, r.mono (.new hp), hz⟩) (f.trans (.newL hp)) (q p (c.free hp))⟩)

/-! ### slices -/
structure WO (X : Cx) (e : Option Expr) (σ : L2.St) (H : Hp) (Q : Option Int → Hp → Prop) : Prop where
  run : ∀ (pins : List (Addr × Obj)) (s : Shared), Inv X pins σ H s → wpAny (model X.prog X.w) X.A (evalPart e X.env) (fun u s' => ∃ o H', Inv X pins σ H' s' ∧ IsPart u o ∧ Q o H') X.xe s
theorem po_wo {X : Cx} {e : Option Expr} : PO X e (WO X e) := ⟨fun pins s σ H Q I h => h.run pins s I⟩
def AO (C : Ctx) (e : Option Expr) (Γ : Gm) (L : Lp) (Q : Option Int → Lp → Prop) : Prop := ∀ F σ H, Ok C Γ L F σ H → ∀ QV : Option Int → Hp → Prop, (∀ {F'} i H' L', C.Con L' F' H' → Fr L F H L' F' H' → Q i L' → QV i H') → WO C.X e σ H QV
theorem ao_none {Q : Option Int → Lp → Prop} (q : Q none L) : AO C none Γ L Q := fun F σ H ok QV go => ⟨fun pins s I => po_none.run pins s σ H QV I (go none H L ok.con (.refl L H) q)⟩
theorem ao_some {Q : Option Int → Lp → Prop} (h : AE C e Γ L fun d L1 => ∃ i, d = .int i ∧ Q (some i) L1) : AO C (some e) Γ L Q := fun F σ H ok QV go => ⟨fun pins s I => (po_some pe_we).run pins s σ H QV I (h _ σ H ok _ fun v d H1 L1 r c f ⟨i, e, q⟩ => by
  subst e
  exact ⟨i, r.intE, go (some i) H1 L1 c f q⟩)⟩
def LsR (C : Ctx) (r : V → Option Int → Option Int → Hp → VK → Prop) (x : D) (lo hi : Option Int) (L : Lp) (Q : D → Lp → Prop) : Prop := ∀ F v H, C.Con L F H → Rep C.X.K F H v x → ∀ QV, Go C L F H Q QV → r v lo hi H QV
theorem ae_slice {r : V → Option Int → Option Int → Hp → VK → Prop} {lo hi : Option Expr} {p2 : Pos} (hr : SlR C.X r) (h : AE C e Γ L fun x L1 => AO C lo Γ L1 fun l L2 => AO C hi Γ L2 fun u L3 => LsR C r x l u L3 Q) : AE C (.Subscript e (.Slice lo hi none p2) pos) Γ L Q := fun F σ H ok QV go =>
  we_of (pe_slice hr pe_we po_wo po_wo) (h _ σ H ok _ fun v x H1 L1 r1 c1 f1 q1 => q1 _ σ H1 (ok.step c1 f1) _ fun l H2 L2 c2 f2 q2 => q2 _ σ H2 (ok.step c2 (f1.trans f2)) _ fun u H3 L3 c3 f3 q3 =>
    q3 _ v H3 c3 ((r1.mono f2.mv).mono f3.mv) QV (go.after ((f1.trans f2).trans f3)))
/-- what a slice takes -/
def cut {α : Type} (xs : List α) (lo hi : Option Int) : List α := (xs.drop (HT.sIx xs.length 0 lo)).take (HT.sIx xs.length xs.length hi - HT.sIx xs.length 0 lo)
theorem Reps.cut {K : PySem.W.Frag} {F : Fz} {H : Hp} {vs : List V} {ds : List D} (r : Reps K F H vs ds) (lo hi : Option Int) : Reps K F H (cutV vs lo hi) (DL.cut ds lo hi) := by
  unfold cutV DL.cut
  rw [r.length]
  exact (r.drop _).take _
theorem cut_len {α : Type} (xs : List α) (lo hi : Option Int) : (cut xs lo hi).length ≤ xs.length := by
  unfold cut
  rw [List.length_take, List.length_drop]
  omega
theorem cut_whole {α : Type} {xs : List α} {lo hi : Option Int} (h : HT.sIx xs.length 0 lo = 0 ∧ HT.sIx xs.length xs.length hi = xs.length) : cut xs lo hi = xs := by
  unfold cut
  rw [h.1, h.2]
  simp
theorem s_tup {xs : List D} {lo hi : Option Int} (q : Q (.tup (cut xs lo hi)) L) : LsR C (rSlA C.X.K) (.tup xs) lo hi L Q := fun F v H c r QV go => by
  obtain ⟨a, vs, rfl, ha, ra⟩ := r.tupE
  refine ⟨a, vs, rfl, SqT.of ha, fun h => ?_, fun _ p hp => ?_⟩
  · rw [ra.length] at h
    rw [cut_whole h] at q
    exact go _ _ H L r c (.refl L H) q
  · exact go _ _ _ L (Rep.tupI upd_same ((ra.cut lo hi).mono (.new hp)) (Nat.le_trans (cut_len xs lo hi) r.bnd)) (c.new hp) (.new hp) q
theorem s_lst {p : Addr} {xs : List D} {lo hi : Option Int} (hp : L p = some (.lst xs)) (q : ∀ l, L l = none → Q (.ptr l) (put L l (.lst (cut xs lo hi)))) : LsR C (rSlL C.X.K) (.ptr p) lo hi L Q := fun F v H c r QV go => by
  obtain ⟨vs, ha, ra, hz⟩ := c.at_ p _ hp
  refine ⟨p, vs, r.ptrE, SqL.of ha, fun l hl => ?_⟩
  exact go _ _ _ (put L l (.lst (cut xs lo hi))) (.ptr l) (c.newL hl ⟨_, upd_same, (ra.cut lo hi).mono (.new hl), Nat.le_trans (cut_len xs lo hi) hz⟩) (.newL hl) (q l (c.free hl))

/-! ### built-ins by their names -/
def LcR (C : Ctx) (r : List V → Hp → VK → Prop) (xs : List D) (L : Lp) (Q : D → Lp → Prop) : Prop := ∀ F vs H, C.Con L F H → Reps C.X.K F H vs xs → ∀ QV, Go C L F H Q QV → r vs H QV
theorem ae_callB {x : Str} {id : String} {r : List V → Hp → VK → Prop} {p : Pos} (hc : CallR C.X (.builtin id) r) (hm : C.X.mg x = none) (h : AA C (e :: es) Γ L fun ds L1 => LcR C r ds L1 Q) (hv : bootBuiltins x = some (.builtin id) := by decide +kernel) (hg : Gl C.X x := by rfl) (hn : x ≠ "__name__" := by decide) (hdb : (x == ("__debug__" : Str)) = false := by decide)
    (he : starEach (e :: es) C.X.env = (false, eval e C.X.env) :: starEach es C.X.env := by rfl) (hpl : (backTo pos (starEach es C.X.env)).any (·.1) = false := by rfl) : AE C (.Call (.Name x p) (e :: es) [] pos) Γ L Q := fun F σ H ok QV go =>
  we_of (pe_callB hc hg hm hv pa_we hn hdb he hpl) (h _ σ H ok _ fun vs ds H1 L1 r1 c1 f1 q1 => q1 _ vs H1 c1 r1 QV (go.after f1))
theorem ae_callT {x : Str} {T : String} {r : List V → Hp → VK → Prop} {p : Pos} (hc : CallR C.X (.type T) r) (hm : C.X.mg x = none) (h : AA C (e :: es) Γ L fun ds L1 => LcR C r ds L1 Q) (hv : bootBuiltins x = some (.type T) := by decide +kernel) (hg : Gl C.X x := by rfl) (hn : x ≠ "__name__" := by decide) (hdb : (x == ("__debug__" : Str)) = false := by decide)
    (he : starEach (e :: es) C.X.env = (false, eval e C.X.env) :: starEach es C.X.env := by rfl) (hpl : (backTo pos (starEach es C.X.env)).any (·.1) = false := by rfl) : AE C (.Call (.Name x p) (e :: es) [] pos) Γ L Q := fun F σ H ok QV go =>
  we_of (pe_callTy hc hg hm hv pa_we hn hdb he hpl) (h _ σ H ok _ fun vs ds H1 L1 r1 c1 f1 q1 => q1 _ vs H1 c1 r1 QV (go.after f1))
theorem ae_callT0 {x : Str} {T : String} {r : List V → Hp → VK → Prop} {p : Pos} (hc : CallR C.X (.type T) r) (hm : C.X.mg x = none) (h : LcR C r [] L Q) (hv : bootBuiltins x = some (.type T) := by decide +kernel) (hg : Gl C.X x := by rfl) (hn : x ≠ "__name__" := by decide) (hdb : (x == ("__debug__" : Str)) = false := by decide) :
    AE C (.Call (.Name x p) [] [] pos) Γ L Q := fun F σ H ok QV go =>
  we_of (pe_callTy0 hc hg hm hv hn hdb) (h _ [] H ok.con .nil QV go)
theorem Reps.oneE {K : PySem.W.Frag} {F : Fz} {H : Hp} {vs : List V} {d : D} (r : Reps K F H vs [d]) : ∃ v, vs = [v] ∧ Rep K F H v d := by
  cases r with
  | cons r t =>
    cases t
    exact ⟨_, rfl, r⟩
theorem Reps.twoE {K : PySem.W.Frag} {F : Fz} {H : Hp} {vs : List V} {d d2 : D} (r : Reps K F H vs [d, d2]) : ∃ v w, vs = [v, w] ∧ Rep K F H v d ∧ Rep K F H w d2 := by
  cases r with
  | cons r t =>
    obtain ⟨w, rfl, r2⟩ := Reps.oneE t
    exact ⟨_, w, rfl, r, r2⟩
abbrev rLenQ (K : PySem.W.Frag) : List V → Hp → VK → Prop := fun xs H Q => ∃ p ys, xs = [.ref p] ∧ (SqL K H p ys ∨ SqT K H p ys) ∧ Q (.int ys.length) H
theorem c_lenT {xs : List D} (q : Q (.int xs.length) L) : LcR C (rLenQ C.X.K) [.tup xs] L Q := fun F vs H c r0 QV go => by
  obtain ⟨v, rfl, r⟩ := r0.oneE
  obtain ⟨a, ws, rfl, ha, ra⟩ := r.tupE
  refine ⟨a, ws, rfl, .inr (SqT.of ha), ?_⟩
  rw [ra.length]
  exact go _ _ H L (.int _) c (.refl L H) q
theorem c_lenL {p : Addr} {xs : List D} (hp : L p = some (.lst xs)) (q : Q (.int xs.length) L) : LcR C (rLenQ C.X.K) [.ptr p] L Q := fun F vs H c r0 QV go => by
  obtain ⟨v, rfl, r⟩ := r0.oneE
  obtain ⟨ws, ha, ra, hzz⟩ := c.at_ p _ hp
  refine ⟨p, ws, by rw [r.ptrE], .inl (SqL.of ha), ?_⟩
  rw [ra.length]
  exact go _ _ H L (.int _) c (.refl L H) q
theorem c_lenN {ns : List Int} (q : Q (.int ns.length) L) : LcR C (rLenQ C.X.K) [.ilst ns] L Q := fun F vs H c r0 QV go => by
  obtain ⟨v, rfl, r⟩ := r0.oneE
  obtain ⟨a, rfl, ha⟩ := r.ilstE
  refine ⟨a, _, rfl, .inl ha, ?_⟩
  rw [List.length_map]
  exact go _ _ H L (.int _) c (.refl L H) q
abbrev rLenSt : List V → Hp → VK → Prop := fun xs H Q => ∃ z, xs = [.str z] ∧ z.length ≤ sizeLine ∧ Q (.int z.length) H
theorem c_lenS {z : Str} (q : Q (.int z.length) L) : LcR C rLenSt [.str z] L Q := fun F vs H c r0 QV go => by
  obtain ⟨v, rfl, r⟩ := r0.oneE
  exact ⟨z, by rw [r.strE], r.bnd.len, go _ _ H L (.int _) c (.refl L H) q⟩
abbrev rAbs : List V → Hp → VK → Prop := fun xs H Q => ∃ i, xs = [.int i] ∧ Q (.int (if i < 0 then -i else i)) H
theorem c_abs {i : Int} (q : Q (.int (if i < 0 then -i else i)) L) : LcR C rAbs [.int i] L Q := fun F vs H c r0 QV go => by
  obtain ⟨v, rfl, r⟩ := r0.oneE
  exact ⟨i, by rw [r.intE], go _ _ H L (.int _) c (.refl L H) q⟩
abbrev rInt1 : List V → Hp → VK → Prop := fun xs H Q => (∃ i, xs = [.int i] ∧ Q (.int i) H) ∨ ∃ k, xs = [.bl k] ∧ Q (.int (if k then 1 else 0)) H
theorem c_intI {i : Int} (q : Q (.int i) L) : LcR C rInt1 [.int i] L Q := fun F vs H c r0 QV go => by
  obtain ⟨v, rfl, r⟩ := r0.oneE
  exact .inl ⟨i, by rw [r.intE], go _ _ H L (.int _) c (.refl L H) q⟩
theorem c_intB {k : Bool} (q : Q (.int (if k then 1 else 0)) L) : LcR C rInt1 [.bl k] L Q := fun F vs H c r0 QV go => by
  obtain ⟨v, rfl, r⟩ := r0.oneE
  exact .inr ⟨k, by rw [r.blE], go _ _ H L (.int _) c (.refl L H) q⟩
abbrev rMx : List V → Hp → VK → Prop := fun xs H Q => ∃ i j, xs = [.int i, .int j] ∧ Q (.int (if j > i then j else i)) H
abbrev rMn : List V → Hp → VK → Prop := fun xs H Q => ∃ i j, xs = [.int i, .int j] ∧ Q (.int (if j < i then j else i)) H
theorem c_max {i j : Int} (q : Q (.int (if j > i then j else i)) L) : LcR C rMx [.int i, .int j] L Q := fun F vs H c r QV go => by
  obtain ⟨v, w, rfl, r1, r2⟩ := r.twoE
  exact ⟨i, j, by rw [r1.intE, r2.intE], go _ _ H L (.int _) c (.refl L H) q⟩
theorem c_min {i j : Int} (q : Q (.int (if j < i then j else i)) L) : LcR C rMn [.int i, .int j] L Q := fun F vs H c r QV go => by
  obtain ⟨v, w, rfl, r1, r2⟩ := r.twoE
  exact ⟨i, j, by rw [r1.intE, r2.intE], go _ _ H L (.int _) c (.refl L H) q⟩
abbrev rTupOf (K : PySem.W.Frag) : List V → Hp → VK → Prop := fun xs H Q => ∃ p ys, xs = [.ref p] ∧ ((SqL K H p ys ∧ ∀ l, H l = none → Q (.ref l) (upd H l (.tup ys))) ∨ (SqT K H p ys ∧ Q (.ref p) H))
theorem c_tupL {p : Addr} {xs : List D} (hp : L p = some (.lst xs)) (q : Q (.tup xs) L) : LcR C (rTupOf C.X.K) [.ptr p] L Q := fun F vs H c r0 QV go => by
  obtain ⟨v, rfl, r⟩ := r0.oneE
  obtain ⟨ws, ha, ra, hzz⟩ := c.at_ p _ hp
  exact ⟨p, ws, by rw [r.ptrE], .inl ⟨SqL.of ha, fun l hl => go _ _ _ L (Rep.tupI upd_same (ra.mono (.new hl)) hzz) (c.new hl) (.new hl) q⟩⟩
theorem c_tupT {xs : List D} (q : Q (.tup xs) L) : LcR C (rTupOf C.X.K) [.tup xs] L Q := fun F vs H c r0 QV go => by
  obtain ⟨v, rfl, r⟩ := r0.oneE
  obtain ⟨a, ws, rfl, ha, ra⟩ := r.tupE
  exact ⟨a, ws, rfl, .inr ⟨SqT.of ha, go _ _ H L r c (.refl L H) q⟩⟩
abbrev rLstOf (K : PySem.W.Frag) : List V → Hp → VK → Prop := fun xs H Q => ∃ p ys, xs = [.ref p] ∧ (SqL K H p ys ∨ SqT K H p ys) ∧ ∀ l, H l = none → Q (.ref l) (upd H l (.lst ys))
theorem c_lstT {xs : List D} (q : ∀ l, L l = none → Q (.ptr l) (put L l (.lst xs))) : LcR C (rLstOf C.X.K) [.tup xs] L Q := fun F vs H c r0 QV go => by
  obtain ⟨v, rfl, r⟩ := r0.oneE
  obtain ⟨a, ws, rfl, ha, ra⟩ := r.tupE
  exact ⟨a, ws, rfl, .inr (SqT.of ha), fun l hl => go _ _ _ (put L l (.lst xs)) (.ptr l) (c.newL hl ⟨ws, upd_same, ra.mono (.new hl), r.bnd⟩) (.newL hl) (q l (c.free hl))⟩
theorem c_lstL {p : Addr} {xs : List D} (hp : L p = some (.lst xs)) (q : ∀ l, L l = none → Q (.ptr l) (put L l (.lst xs))) : LcR C (rLstOf C.X.K) [.ptr p] L Q := fun F vs H c r0 QV go => by
  obtain ⟨v, rfl, r⟩ := r0.oneE
  obtain ⟨ws, ha, ra, hzz⟩ := c.at_ p _ hp
  exact ⟨p, ws, by rw [r.ptrE], .inl (SqL.of ha), fun l hl => go _ _ _ (put L l (.lst xs)) (.ptr l) (c.newL hl ⟨ws, upd_same, ra.mono (.new hl), hzz⟩) (.newL hl) (q l (c.free hl))⟩
theorem reps_bls {K : PySem.W.Frag} {F : Fz} {H : Hp} : ∀ {vs : List V} {bs : List Bool}, Reps K F H vs (bs.map D.bl) → vs = bs.map V.bl
  | _, [], .nil => rfl
  | _, b :: bs, .cons r t => by rw [r.blE, reps_bls t]; rfl
theorem reps_ints {K : PySem.W.Frag} {F : Fz} {H : Hp} : ∀ {vs : List V} {bs : List Int}, Reps K F H vs (bs.map D.int) → vs = bs.map V.int
  | _, [], .nil => rfl
  | _, b :: bs, .cons r t => by rw [r.intE, reps_ints t]; rfl
theorem reps_strs {K : PySem.W.Frag} {F : Fz} {H : Hp} : ∀ {vs : List V} {bs : List Str}, Reps K F H vs (bs.map D.str) → vs = bs.map V.str
  | _, [], .nil => rfl
  | _, b :: bs, .cons r t => by rw [r.strE, reps_strs t]; rfl
theorem c_all {p : Addr} {bs : List Bool} (hp : L p = some (.lst (bs.map D.bl))) (q : Q (.bl (bs.all id)) L) : LcR C (rAll C.X.K) [.ptr p] L Q := fun F vs H c r0 QV go => by
  obtain ⟨v, rfl, r⟩ := r0.oneE
  obtain ⟨ws, ha, ra, hzz⟩ := c.at_ p _ hp
  have e := reps_bls ra
  subst e
  exact ⟨p, bs, by rw [r.ptrE], SqL.of ha, go _ _ H L (.bl _) c (.refl L H) q⟩
theorem c_any {p : Addr} {bs : List Bool} (hp : L p = some (.lst (bs.map D.bl))) (q : Q (.bl (bs.any id)) L) : LcR C (rAny C.X.K) [.ptr p] L Q := fun F vs H c r0 QV go => by
  obtain ⟨v, rfl, r⟩ := r0.oneE
  obtain ⟨ws, ha, ra, hzz⟩ := c.at_ p _ hp
  have e := reps_bls ra
  subst e
  exact ⟨p, bs, by rw [r.ptrE], SqL.of ha, go _ _ H L (.bl _) c (.refl L H) q⟩
theorem c_sum {p : Addr} {ns : List Int} (hp : L p = some (.lst (ns.map D.int))) (q : Q (.int ns.sum) L) : LcR C (rSum C.X.K) [.ptr p] L Q := fun F vs H c r0 QV go => by
  obtain ⟨v, rfl, r⟩ := r0.oneE
  obtain ⟨ws, ha, ra, hzz⟩ := c.at_ p _ hp
  have e := reps_ints ra
  subst e
  exact ⟨p, ns, by rw [r.ptrE], SqL.of ha, go _ _ H L (.int _) c (.refl L H) q⟩
/-- isinstance(x, T), T a built-in type -/
def tyD : D → String
  | .non => "NoneType" | .bl _ => "bool" | .int _ => "int" | .str _ => "str" | .ty _ => "type" | .ptr _ => "list" | .ilst _ => "list" | .tup _ => "tuple" | .obj _ _ => "object" | .flst _ => "list" | .fdct _ => "dict" | .kdct _ => "dict" | .wds _ => "tuple"
theorem c_isi {x : D} {T : String} {k : Bool} (hx : match x with | .non => True | .bl _ => True | .int _ => True | .str _ => True | .tup _ => True | _ => False) (hk : kitB (tyD x) T = some k) (q : Q (.bl k) L) : LcR C (rIsi C.X.K) [x, .ty T] L Q := fun F vs H c r QV go => by
  obtain ⟨v, w, rfl, r1, r2⟩ := r.twoE
  rw [r2.tyE]
  refine ⟨v, .ty T, .type (tyD x), .type T, k, rfl, .ty T, ?_, kit_ty hk, go _ _ H L (.bl _) c (.refl L H) q⟩
  cases x with
  | non => rw [r1.nonE]; exact .base .non
  | bl b => rw [r1.blE]; exact .base (.bl b)
  | int i => rw [r1.intE]; exact .base (.int i)
  | str z => rw [r1.strE]; exact .base (.str z)
  | tup ds =>
    obtain ⟨a, ws, rfl, ha, _⟩ := r1.tupE
    exact .base (.tup ha)
  | ty n => exact hx.elim
  | ptr p => exact hx.elim
  | ilst ns => exact hx.elim
  | obj _ _ => exact hx.elim
  | flst _ => exact hx.elim
  | fdct _ => exact hx.elim
  | kdct _ => exact hx.elim
  | wds _ => exact hx.elim

/-! ### methods of built-in types -/
def LmR (C : Ctx) (r : V → List V → Hp → VK → Prop) (x : D) (xs : List D) (L : Lp) (Q : D → Lp → Prop) : Prop := ∀ F v vs H, C.Con L F H → Rep C.X.K F H v x → Reps C.X.K F H vs xs → ∀ QV, Go C L F H Q QV → r v vs H QV
/-- it is of the type T -/
def IsTy (T : String) (x : D) (L : Lp) : Prop := match x with
  | .str _ => T = "str"
  | .int _ => T = "int"
  | .ptr p => (T = "list" ∧ ∃ ds, L p = some (.lst ds)) ∨ (T = "dict" ∧ ∃ kds, L p = some (.dct kds))
  | _ => False
theorem isTy_tyV {T : String} {x : D} {F : Fz} {H : Hp} {v : V} (c : C.Con L F H) (r : Rep C.X.K F H v x) (h : IsTy T x L) : tyV C.X.K T v H := by
  cases x with
  | str z => rw [r.strE]; exact h
  | int i => rw [r.intE]; exact h
  | ptr p =>
    rw [r.ptrE]
    rcases h with ⟨rfl, ds, h⟩ | ⟨rfl, kds, h⟩
    · obtain ⟨vs, ha, _⟩ := c.at_ p _ h
      exact .inl ⟨rfl, vs, SqL.of ha⟩
    · obtain ⟨vs, ha, _⟩ := c.at_ p _ h
      exact .inr (.inr (.inl ⟨rfl, .inr ⟨vs, ha⟩⟩))
  | _ => exact h.elim
theorem ae_bm {name : Str} {T id : String} {r : V → List V → Hp → VK → Prop} {apos : Pos} (hp : PE C.X (.Call (.Attribute o name apos) (e :: es) [] pos) (tBM C.X.K T r (WE C.X o) (WA C.X (e :: es))))
    (h : AE C o Γ L fun x L1 => IsTy T x L1 ∧ AA C (e :: es) Γ L1 fun ds L2 => LmR C r x ds L2 Q) : AE C (.Call (.Attribute o name apos) (e :: es) [] pos) Γ L Q := fun F σ H ok QV go =>
  we_of hp (h _ σ H ok _ fun v x H1 L1 r1 c1 f1 ⟨ty, q1⟩ => ⟨isTy_tyV c1 r1 ty, q1 _ σ H1 (ok.step c1 f1) _ fun vs ds H2 L2 r2 c2 f2 q2 => q2 _ v vs H2 c2 (r1.mono f2.mv) r2 QV (go.after (f1.trans f2))⟩)
theorem ae_bm0 {name : Str} {T id : String} {r : V → List V → Hp → VK → Prop} {apos : Pos} (hp : PE C.X (.Call (.Attribute o name apos) [] [] pos) (tBM0 C.X.K T r (WE C.X o)))
    (h : AE C o Γ L fun x L1 => IsTy T x L1 ∧ LmR C r x [] L1 Q) : AE C (.Call (.Attribute o name apos) [] [] pos) Γ L Q := fun F σ H ok QV go =>
  we_of hp (h _ σ H ok _ fun v x H1 L1 r1 c1 f1 ⟨ty, q1⟩ => ⟨isTy_tyV c1 r1 ty, q1 _ v [] H1 c1 r1 .nil QV (go.after f1)⟩)
theorem m_append {p : Addr} {xs : List D} {y : D} (hp : L p = some (.lst xs)) (hz : xs.length < sizeLine) (q : Q .non (put L p (.lst (xs ++ [y])))) : LmR C rAppend (.ptr p) [y] L Q := fun F v vs H c r1 r2 QV go => by
  obtain ⟨w, rfl, r⟩ := r2.oneE
  obtain ⟨ws, ha, ra, hzz⟩ := c.at_ p _ hp
  have s := Mv.write (o := .lst (ws ++ [w])) c hp
  exact ⟨p, ws, w, r1.ptrE, rfl, ha, by rw [ra.length]; exact hz, go _ _ _ (put L p (.lst (xs ++ [y]))) .non (c.write hp ⟨_, upd_same, (ra.append (.cons r .nil)).mono s, by rw [List.length_append]; exact hz⟩) (.write c hp) q⟩
theorem m_extendL {p z : Addr} {xs ys : List D} (hp : L p = some (.lst xs)) (hz : L z = some (.lst ys)) (hl : xs.length + ys.length ≤ sizeLine) (q : Q .non (put L p (.lst (xs ++ ys)))) : LmR C rExtend (.ptr p) [.ptr z] L Q := fun F v vs H c r1 r2 QV go => by
  obtain ⟨w, rfl, r⟩ := r2.oneE
  obtain ⟨ws, ha, ra, hzz⟩ := c.at_ p _ hp
  obtain ⟨us, hb, rb, hzy⟩ := c.at_ z _ hz
  have s := Mv.write (o := .lst (ws ++ us)) c hp
  exact ⟨p, z, ws, us, r1.ptrE, by rw [r.ptrE], ha, hb, by rw [ra.length, rb.length]; exact hl, go _ _ _ (put L p (.lst (xs ++ ys))) .non (c.write hp ⟨_, upd_same, (ra.append rb).mono s, by rw [List.length_append]; exact hl⟩) (.write c hp) q⟩
end
end DL
namespace DL
open PySem PySem.Spec PyProof.Rows L2

/-! ### targets -/
structure WG (X : Cx) (tg : Expr) (v : V) (σ : L2.St) (H : Hp) (Q : L2.St → Hp → Prop) : Prop where
  run : ∀ (pins : List (Addr × Obj)) (s : Shared) (u : Value), Inv X pins σ H s → RelV v u → wpAny (model X.prog X.w) X.A (assign tg X.env u) (fun _ s' => ∃ σ' H', Inv X pins σ' H' s' ∧ Q σ' H') X.xe s
structure WGs (X : Cx) (ts : List Expr) (vs : List V) (σ : L2.St) (H : Hp) (Q : L2.St → Hp → Prop) : Prop where
  run : ∀ (pins : List (Addr × Obj)) (s : Shared) (us : List Value), Inv X pins σ H s → Vals vs us → wpAny (model X.prog X.w) X.A (assignInOrder ((assignEach ts X.env).map (·.2)) us) (fun _ s' => ∃ σ' H', Inv X pins σ' H' s' ∧ Q σ' H') X.xe s
theorem pg_wg {X : Cx} {tg : Expr} : PG X tg (WG X tg) := ⟨fun pins s σ H v u Q I r h => h.run pins s u I r⟩
theorem pgs_wgs {X : Cx} {ts : List Expr} : PGs X ts (WGs X ts) := ⟨fun pins s σ H vs us Q I r h => h.run pins s us I r⟩
theorem wg_of {X : Cx} {tg : Expr} {g : TG} {v : V} {σ : L2.St} {H : Hp} {Q : L2.St → Hp → Prop} (h : PG X tg g) (q : g v σ H Q) : WG X tg v σ H Q := ⟨fun pins s u I r => h.run pins s σ H v u Q I r q⟩
theorem wgs_of {X : Cx} {ts : List Expr} {g : TGs} {vs : List V} {σ : L2.St} {H : Hp} {Q : L2.St → Hp → Prop} (h : PGs X ts g) (q : g vs σ H Q) : WGs X ts vs σ H Q := ⟨fun pins s us I r => h.run pins s σ H vs us Q I r q⟩
/-- σ' is σ but for the slots ws -/
structure But (ws : List Nat) (σ σ' : L2.St) : Prop where
  len : σ'.length = σ.length
  at_ : ∀ j, j ∉ ws → σ'[j]? = σ[j]?
theorem But.refl (ws : List Nat) (σ : L2.St) : But ws σ σ := ⟨rfl, fun _ _ => rfl⟩
theorem But.trans {ws zs : List Nat} {σ σ1 σ2 : L2.St} (a : But ws σ σ1) (b : But zs σ1 σ2) : But (ws ++ zs) σ σ2 := ⟨b.len.trans a.len, fun j h => (b.at_ j fun z => h (List.mem_append_right _ z)).trans (a.at_ j fun z => h (List.mem_append_left _ z))⟩
def AG (C : Ctx) (tg : Expr) (d : D) (Γ Γ' : Gm) (ws : List Nat) : Prop := ∀ F σ H v, Sl C.X.K F H σ Γ → Rep C.X.K F H v d → ∀ Q : L2.St → Hp → Prop, (∀ σ', Sl C.X.K F H σ' Γ' → But ws σ σ' → Q σ' H) → WG C.X tg v σ H Q
def AGs (C : Ctx) (ts : List Expr) (ds : List D) (Γ Γ' : Gm) (ws : List Nat) : Prop := ∀ F σ H vs, Sl C.X.K F H σ Γ → Reps C.X.K F H vs ds → ∀ Q : L2.St → Hp → Prop, (∀ σ', Sl C.X.K F H σ' Γ' → But ws σ σ' → Q σ' H) → WGs C.X ts vs σ H Q
section
variable {C : Ctx} {Γ Γ1 Γ2 : Gm} {L : Lp} {e a b c o tg : Expr} {es ts : List Expr} {pos p1 p2 : Pos} {st : Stmt} {sts : List Stmt} {E : AEnds} {Q : D → Lp → Prop} {d : D} {ds : List D} {ws zs : List Nat}
theorem ag_name (i : Nat) {x : Str} (hi : C.X.N[i]? = some x := by rfl) (hx : Loc C.X.env.scope x := by first | exact Or.inl rfl | exact Or.inr rfl) (hf : C.X.fn x = true ∨ C.X.env.scope.names.lookup x = some .local := by first | exact .inl rfl | exact .inr rfl) : AG C (.Name x pos) d Γ (Γ.set i (some d)) [i] := fun F σ H v sl r Q q =>
  wg_of (pg_name C.nd hi hx hf) (q _ (sl.set i r) ⟨by simp, fun j h => by rw [List.getElem?_set_ne (fun z => h (by simp [z]))]⟩)
theorem ags_nil : AGs C [] [] Γ Γ [] := fun F σ H vs sl r Q q => by
  cases r
  exact wgs_of pgs_nil ⟨rfl, q σ sl (.refl _ _)⟩
theorem ags_cons (h1 : AG C tg d Γ Γ1 ws) (h2 : AGs C ts ds Γ1 Γ2 zs) (hs : (assignEach (tg :: ts) C.X.env).map (·.2) = assign tg C.X.env :: (assignEach ts C.X.env).map (·.2) := by rfl) : AGs C (tg :: ts) (d :: ds) Γ Γ2 (ws ++ zs) := fun F σ H vs sl r Q q => by
  cases r with
  | cons r rr => exact wgs_of (pgs_cons pg_wg pgs_wgs hs) ⟨_, _, rfl, h1 _ σ H _ sl r _ fun σ1 sl1 b1 => h2 _ σ1 H _ sl1 rr _ fun σ2 sl2 b2 => q σ2 sl2 (b1.trans b2)⟩
theorem ag_tup {k : Nat} (h : AGs C ts ds Γ Γ1 ws) (hn : (assignEach ts C.X.env).length = ds.length := by rfl) (hst : (assignEach ts C.X.env).findIdx? (·.1) = none := by rfl) : AG C (.Tuple ts k pos) (.tup ds) Γ Γ1 ws := fun F σ H v sl r Q q => by
  obtain ⟨a, vs, rfl, ha, ra⟩ := r.tupE
  exact wg_of (pg_tup C.calm pgs_wgs hn hst) ⟨a, vs, rfl, SqT.of ha, ra.length, h _ σ H vs sl ra Q q⟩

/-! ### statements -/
theorem as_nil (q : E.nx Γ L) : ASs C [] Γ L E := fun F σ H ok DD go => wss_of pss_nil (go.nx σ H Γ L ok (.refl L H) q)
theorem as_cons (h : AS C st Γ L { E with nx := fun Γ' L' => ASs C sts Γ' L' E }) : ASs C (st :: sts) Γ L E := fun F σ H ok DD go =>
  wss_of (pss_cons ps_we pss_we) (h _ σ H ok _ ⟨fun s H2 Γ2 L2 o f q => q _ s H2 o DD (go.after f), go.rt, go.bk, go.ct⟩)
theorem as_one (h : AS C st Γ L E) : ASs C [st] Γ L E := fun F σ H ok DD go => wss_of (pss_one ps_we) (h _ σ H ok DD go)
theorem as_set (i : Nat) {x : Str} (h : AE C e Γ L fun d L1 => E.nx (Γ.set i (some d)) L1) (hi : C.X.N[i]? = some x := by rfl) (hx : Loc C.X.env.scope x := by first | exact Or.inl rfl | exact Or.inr rfl) (hs : swapsWith e (some (.Name x p1)) pos.line C.X.env = pure false := by rfl)
    (hf : C.X.fn x = true ∨ C.X.env.scope.names.lookup x = some .local := by first | exact .inl rfl | exact .inr rfl) : AS C (.Assign [.Name x p1] e pos) Γ L E := fun F σ H ok DD go =>
  ws_of (ps_set C.nd hi hx pe_we hs hf) (h _ σ H ok _ fun v d H1 L1 r c f q => go.nx _ H1 _ L1 ⟨(ok.sl.mono f.mv).set i r, c, ok.lr.step f⟩ f q)
theorem as_asg (h : AE C e Γ L fun d L1 => ∃ Γ1 ws, AG C tg d Γ Γ1 ws ∧ E.nx Γ1 L1) (hs : swapsWithSole [tg] e pos.line C.X.env = pure false := by rfl) (hw : swappedStores [tg] e C.X.env = pure none := by rfl)
    (h1 : (assignEach [tg] C.X.env).map (·.2) = [assign tg C.X.env] := by rfl) : AS C (.Assign [tg] e pos) Γ L E := fun F σ H ok DD go =>
  ws_of (ps_asg pe_we pg_wg hs hw h1) (h _ σ H ok _ fun v d H1 L1 r c f ⟨Γ1, ws, g, q⟩ => g _ σ H1 v (ok.sl.mono f.mv) r _ fun σ' sl' _ => go.nx σ' H1 Γ1 L1 ⟨sl', c, ok.lr.step f⟩ f q)
theorem as_par (i j : Nat) {x y : Str} {px py pt pt2 : Pos} {kt k2 : Nat} (h : AA C [a, b] Γ L fun ds L1 => ∃ d1 d2, ds = [d1, d2] ∧ E.nx ((Γ.set i (some d1)).set j (some d2)) L1) (hi : C.X.N[i]? = some x := by rfl) (hj : C.X.N[j]? = some y := by rfl) (hij : i ≠ j := by decide)
    (hx : C.X.env.scope.names.lookup x = some .local := by rfl) (hy : C.X.env.scope.names.lookup y = some .local := by rfl)
    (hw : swappedStores [.Tuple [.Name x px, .Name y py] kt pt] (.Tuple [a, b] k2 pt2) C.X.env = pure (some [x, y]) := by rfl)
    (hs : swapsWithSole [.Tuple [.Name x px, .Name y py] kt pt] (.Tuple [a, b] k2 pt2) pos.line C.X.env = pure false := by rfl) : AS C (.Assign [.Tuple [.Name x px, .Name y py] kt pt] (.Tuple [a, b] k2 pt2) pos) Γ L E := fun F σ H ok DD go =>
  ws_of (ps_par C.calm C.nd hi hj hij hx hy pa_we hw hs) (h _ σ H ok _ fun vs ds H1 L1 r c f ⟨d1, d2, ed, q⟩ => by
    subst ed
    obtain ⟨v, w, rfl, r1, r2⟩ := r.twoE
    exact ⟨v, w, rfl, go.nx _ H1 _ L1 ⟨((ok.sl.mono f.mv).set i r1).set j r2, c, ok.lr.step f⟩ f q⟩)
theorem as_par3 (i j l : Nat) {x y z : Str} {px py pz pt pt2 : Pos} {kt k2 : Nat} (h : AA C [a, b, c] Γ L fun ds L1 => ∃ d1 d2 d3, ds = [d1, d2, d3] ∧ E.nx (((Γ.set i (some d1)).set j (some d2)).set l (some d3)) L1) (hi : C.X.N[i]? = some x := by rfl) (hj : C.X.N[j]? = some y := by rfl) (hl : C.X.N[l]? = some z := by rfl) (hij : i ≠ j := by decide) (hil : i ≠ l := by decide) (hjl : j ≠ l := by decide)
    (hx : C.X.env.scope.names.lookup x = some .local := by rfl) (hy : C.X.env.scope.names.lookup y = some .local := by rfl) (hz : C.X.env.scope.names.lookup z = some .local := by rfl)
    (hw : swappedStores [.Tuple [.Name x px, .Name y py, .Name z pz] kt pt] (.Tuple [a, b, c] k2 pt2) C.X.env = pure (some [x, y, z]) := by rfl)
    (hs : swapsWithSole [.Tuple [.Name x px, .Name y py, .Name z pz] kt pt] (.Tuple [a, b, c] k2 pt2) pos.line C.X.env = pure false := by rfl) : AS C (.Assign [.Tuple [.Name x px, .Name y py, .Name z pz] kt pt] (.Tuple [a, b, c] k2 pt2) pos) Γ L E := fun F σ H ok DD go =>
  ws_of (ps_par3 C.calm C.nd hi hj hl hij hil hjl hx hy hz pa_we hw hs) (h _ σ H ok _ fun vs ds H1 L1 r c f ⟨d1, d2, d3, ed, q⟩ => by
    subst ed
    cases r with
    | cons r1 rr =>
      obtain ⟨v, w, rfl, r2, r3⟩ := Reps.twoE rr
      exact ⟨_, v, w, rfl, go.nx _ H1 _ L1 ⟨(((ok.sl.mono f.mv).set i r1).set j r2).set l r3, c, ok.lr.step f⟩ f q⟩)
theorem as_aug (i : Nat) {x : Str} {op : Operator} {ti : TIp} {d : D} (ho : PIp C.X op ti) (hg : Γ[i]? = some (some d)) (h : AE C e Γ L fun y L1 => L2R C ti d y L1 fun z L2 => E.nx (Γ.set i (some z)) L2) (hi : C.X.N[i]? = some x := by rfl) (hx : Loc C.X.env.scope x := by first | exact Or.inl rfl | exact Or.inr rfl)
    (hf : C.X.fn x = true ∨ C.X.env.scope.names.lookup x = some .local := by first | exact .inl rfl | exact .inr rfl) : AS C (.AugAssign (.Name x p1) op e pos) Γ L E := fun F σ H ok DD go => by
  obtain ⟨v, ev, rv⟩ := ok.sl.get i d hg
  exact ws_of (ps_aug C.nd hi hx pe_we ho hf) ⟨v, ev, h _ σ H ok _ fun w y H1 L1 r c f q => q _ v w H1 c (rv.mono f.mv) r _ fun u z H2 L2 r2 c2 f2 q2 => go.nx _ H2 _ L2 ⟨((ok.sl.mono f.mv).mono f2.mv).set i r2, c2, ok.lr.step (f.trans f2)⟩ (f.trans f2) q2⟩
theorem r_ipI {f : Int → Int → Int} {i j : Int} (q : Q (.int (f i j)) L) : L2R C (ipI f) (.int i) (.int j) L Q := fun F vx vy H c rx ry QV go => ⟨i, j, rx.intE, ry.intE, go _ _ H L (.int _) c (.refl L H) q⟩
theorem as_expr (h : AE C e Γ L fun _ L1 => E.nx Γ L1) (hs : swapsWith e none pos.line C.X.env = pure false := by rfl) : AS C (.Expr e pos) Γ L E := fun F σ H ok DD go =>
  ws_of (ps_expr pe_we hs) (h _ σ H ok _ fun v d H1 L1 r c f q => go.nx σ H1 Γ L1 (ok.step c f) f q)
theorem as_ret (h : AE C e Γ L E.rt) : AS C (.Return (some e) pos) Γ L E := fun F σ H ok DD go => ws_of (ps_ret pe_we) (h _ σ H ok _ fun v d H1 L1 r c f q => go.rt v d H1 L1 r c f q)
theorem as_retN (q : E.rt .non L) : AS C (.Return none pos) Γ L E := fun F σ H ok DD go => ws_of ps_retN (go.rt _ _ H L .non ok.con (.refl L H) q)
theorem as_pass (q : E.nx Γ L) : AS C (.Pass pos) Γ L E := fun F σ H ok DD go => ws_of ps_pass (go.nx σ H Γ L ok (.refl L H) q)
theorem as_break (q : E.bk Γ L) : AS C (.Break pos) Γ L E := fun F σ H ok DD go => ws_of ps_break (go.bk σ H Γ L ok (.refl L H) q)
theorem as_continue (q : E.ct Γ L) : AS C (.Continue pos) Γ L E := fun F σ H ok DD go => ws_of ps_continue (go.ct σ H Γ L ok (.refl L H) q)
theorem as_if {A B : List Stmt} (h : AT C c Γ L fun k L1 => (k = true → ASs C A Γ L1 E) ∧ (k = false → ASs C B Γ L1 E)) : AS C (.If c A B pos) Γ L E := fun F σ H ok DD go =>
  ws_of (ps_if pt_we pss_we pss_we) (h _ σ H ok _ fun k H1 L1 c f q => by
    cases k with
    | true => exact (q.1 rfl) _ σ H1 (ok.step c f) DD (go.after f)
    | false => exact (q.2 rfl) _ σ H1 (ok.step c f) DD (go.after f))
theorem as_never (h : False) : AS C st Γ L E := h.elim
/-- o[i] = e, by a rule -/
def L3R (C : Ctx) (r : TSet) (o i v : D) (L : Lp) (Q : Lp → Prop) : Prop := ∀ F vo vi vv H, C.Con L F H → Rep C.X.K F H vo o → Rep C.X.K F H vi i → Rep C.X.K F H vv v → ∀ QV : Hp → Prop, (∀ {F'} H' L', C.Con L' F' H' → Fr L F H L' F' H' → Q L' → QV H') → r vo vi vv H QV
theorem as_sub {t : TSet} (hset : PSet C.X t) (h : AE C e Γ L fun v L1 => AE C o Γ L1 fun x L2 => AE C b Γ L2 fun i L3 => L3R C t x i v L3 fun L4 => E.nx Γ L4)
    (hs : swapsWithSole [.Subscript o b p1] e pos.line C.X.env = pure false := by rfl) (hw : swappedStores [.Subscript o b p1] e C.X.env = pure none := by rfl) (h1 : (assignEach [.Subscript o b p1] C.X.env).map (·.2) = [assign (.Subscript o b p1) C.X.env] := by rfl)
    (ha : ∀ v, assign (.Subscript o b p1) C.X.env v = (do
      let ov ← holding [v] (eval o C.X.env)
      let iv ← holding [v, ov] (eval b C.X.env)
      standAt p1
      holding [v, ov, iv] (setItem ov iv v)
      release [v, ov, iv] []) := by intro _; rfl) : AS C (.Assign [.Subscript o b p1] e pos) Γ L E := fun F σ H ok DD go =>
  ws_of (ps_asg pe_we (pg_sub pe_we pe_we hset ha) hs hw h1) (h _ σ H ok _ fun vv v H1 L1 r1 c1 f1 q1 => q1 _ σ H1 (ok.step c1 f1) _ fun vo x H2 L2 r2 c2 f2 q2 => q2 _ σ H2 (ok.step c2 (f1.trans f2)) _ fun vi i H3 L3 r3 c3 f3 q3 =>
    q3 _ vo vi vv H3 c3 (r2.mono f3.mv) r3 ((r1.mono f2.mv).mono f3.mv) _ fun H4 L4 c4 f4 q4 => go.nx σ H4 Γ L4 (ok.step c4 (((f1.trans f2).trans f3).trans f4)) (((f1.trans f2).trans f3).trans f4) q4)
theorem w_list {p : Addr} {xs : List D} {k : Int} {j : Nat} {v : D} {Q : Lp → Prop} (hp : L p = some (.lst xs)) (hj : ixN xs.length k = some j) (q : Q (put L p (.lst (xs.set j v)))) : L3R C rSetL (.ptr p) (.int k) v L Q := fun F vo vi vv H c ro ri rv QV go => by
  obtain ⟨ws, ha, ra, hz⟩ := c.at_ p _ hp
  have s := Mv.write (o := .lst (ws.set j vv)) c hp
  exact ⟨p, ws, k, j, ro.ptrE, ri.intE, ha, by rw [ra.length]; exact hj, go _ (put L p (.lst (xs.set j v))) (c.write hp ⟨_, upd_same, (Reps.set rv j ra).mono s, by rw [List.length_set]; exact hz⟩) (.write c hp) q⟩

/-! ### while -/
theorem as_while {body : List Stmt} (I : Nat → Gm → Lp → Prop) (m0 : Nat) (h0 : I m0 Γ L)
    (hs : ∀ m Γ1 L1, I m Γ1 L1 → AT C c Γ1 L1 fun k L2 => (k = true → ASs C body Γ1 L2 { E with nx := fun Γ' L' => ∃ m', m' < m ∧ I m' Γ' L', ct := fun Γ' L' => ∃ m', m' < m ∧ I m' Γ' L', bk := E.nx }) ∧ (k = false → E.nx Γ1 L2)) : AS C (.While c body [] pos) Γ L E := fun F σ H ok DD go => by
  refine ws_of (ps_while C.po pt_we pss_we) ⟨fun m σ1 H1 => ∃ Γ1 L1 F1, Ok C Γ1 L1 F1 σ1 H1 ∧ Fr L F H L1 F1 H1 ∧ I m Γ1 L1, ⟨m0, Γ, L, F, ok, .refl L H, h0⟩, ?_⟩
  rintro m σ1 H1 ⟨Γ1, L1, F1, ok1, f1, i1⟩
  refine hs m Γ1 L1 i1 _ σ1 H1 ok1 _ fun k H2 L2 c2 f2 q => ?_
  cases k with
  | true =>
    refine ⟨fun σ' H' => ∃ m', m' < m ∧ ∃ Γ1 L1 F', Ok C Γ1 L1 F' σ' H' ∧ Fr L F H L1 F' H' ∧ I m' Γ1 L1, fun σ' H' h => h, ?_⟩
    refine (q.1 rfl) _ σ1 H2 (ok1.step c2 f2) _ ⟨fun s H3 Γ3 L3 o f3 ⟨m', hm, i3⟩ => ⟨m', hm, Γ3, L3, _, o, (f1.trans f2).trans f3, i3⟩, fun v d H3 L3 r3 c3 f3 q3 => go.rt v d H3 L3 r3 c3 ((f1.trans f2).trans f3) q3,
      fun s H3 Γ3 L3 o f3 q3 => go.nx s H3 Γ3 L3 o ((f1.trans f2).trans f3) q3, fun s H3 Γ3 L3 o f3 ⟨m', hm, i3⟩ => ⟨m', hm, Γ3, L3, _, o, (f1.trans f2).trans f3, i3⟩⟩
  | false => exact go.nx σ1 H2 Γ1 L2 (ok1.step c2 f2) (f1.trans f2) (q.2 rfl)

/-! ### what is walked -/
/-- J gives the items ds, wherever the store is as G says -/
def IsIt (C : Ctx) (J : It) (ds : List D) (G : Lp → Prop) (L0 : Lp) (F0 : Fz) (H0 : Hp) : Prop := ∀ {F} (i : Nat) (H : Hp) (L : Lp), Fr L0 F0 H0 L F H → C.Con L F H → G L →
  (i < ds.length → J.go i H) ∧ (i = ds.length → J.stop i H) ∧ ∀ x H', J.yld i H x H' → i < ds.length → ∃ d, ds[i]? = some d ∧ Rep C.X.K F H' x d ∧ (H' = H ∨ ∃ T vs, H T = none ∧ H' = upd H T (.tup vs))
structure WI (X : Cx) (tg iter : Expr) (σ : L2.St) (H : Hp) (R : It → Hp → Prop) : Prop where
  run : ∀ (pins : List (Addr × Obj)) (s : Shared), Inv X pins σ H s → wpAny (model X.prog X.w) X.A (eval iter X.env) (fun v s1 => wpAny (model X.prog X.w) X.A (pyIter v) (PIE X pins σ tg R) X.xe s1) X.xe s
theorem pi_wi {X : Cx} {tg iter : Expr} : PI X tg iter (WI X tg iter) := ⟨fun pins s σ H R I h => h.run pins s I⟩
theorem wi_of {X : Cx} {tg iter : Expr} {w : TI} {σ : L2.St} {H : Hp} {R : It → Hp → Prop} (h : PI X tg iter w) (q : w σ H R) : WI X tg iter σ H R := ⟨fun pins s I => h.run pins s σ H R I q⟩
def AI (C : Ctx) (tg iter : Expr) (Γ : Gm) (L : Lp) (R : List D → (Lp → Prop) → Lp → Prop) : Prop := ∀ F σ H, Ok C Γ L F σ H → ∀ RV : It → Hp → Prop, (∀ {F'} J H' L' ds G, C.Con L' F' H' → Fr L F H L' F' H' → IsIt C J ds G L' F' H' → R ds G L' → RV J H') → WI C.X tg iter σ H RV
theorem ai_tup {R : List D → (Lp → Prop) → Lp → Prop} (h : AE C e Γ L fun d L1 => ∃ ds, d = .tup ds ∧ (ds.length ≤ sizeLine → R ds (fun _ => True) L1)) : AI C tg e Γ L R := fun F σ H ok RV go =>
  wi_of (pi_tup pe_we) (h _ σ H ok _ fun v d H1 L1 r c f ⟨ds, ed, q⟩ => by
    subst ed
    obtain ⟨a, vs, rfl, ha, ra⟩ := r.tupE
    refine ⟨a, rfl, ⟨vs, SqT.of ha⟩, go _ H1 L1 ds (fun _ => True) c f (fun i H2 L2 s2 c2 _ => ?_) (q r.bnd)⟩
    have hq : SqT C.X.K H2 a vs := SqT.of (s2.stay.tup _ _ ha)
    refine ⟨fun hi => ⟨vs, vs[i]'(by rw [ra.length]; exact hi), hq, List.getElem?_eq_getElem _⟩, fun hi => ⟨vs, hq, by rw [ra.length, hi]; exact Nat.le_refl _⟩, fun x H' y hi => ?_⟩
    obtain ⟨e1, y⟩ := y
    subst e1
    obtain ⟨d, hd, rd⟩ := ra.getV (y vs hq)
    exact ⟨d, hd, rd.mono s2.mv, .inl rfl⟩)
theorem ai_lst {R : List D → (Lp → Prop) → Lp → Prop} (h : AE C e Γ L fun d L1 => ∃ p ds, d = .ptr p ∧ L1 p = some (.lst ds) ∧ (ds.length ≤ sizeLine → R ds (fun L => L p = some (.lst ds)) L1)) : AI C tg e Γ L R := fun F σ H ok RV go =>
  wi_of (pi_list pe_we) (h _ σ H ok _ fun v d H1 L1 r c f ⟨p, ds, ed, hp, q⟩ => by
    subst ed
    obtain ⟨vs, ha, ra, hz⟩ := c.at_ p _ hp
    refine ⟨p, r.ptrE, ⟨vs, SqL.of ha⟩, go _ H1 L1 ds _ c f (fun i H2 L2 s2 c2 g2 => ?_) (q hz)⟩
    obtain ⟨us, hb, rb, _⟩ := c2.at_ p _ g2
    have hq : SqL C.X.K H2 p us := SqL.of hb
    refine ⟨fun hi => ⟨us, us[i]'(by rw [rb.length]; exact hi), hq, List.getElem?_eq_getElem _⟩, fun hi => ⟨us, hq, by rw [rb.length, hi]; exact Nat.le_refl _⟩, fun x H' y hi => ?_⟩
    obtain ⟨e1, y⟩ := y
    subst e1
    obtain ⟨d, hd, rd⟩ := rb.getV (y us hq)
    exact ⟨d, hd, rd, .inl rfl⟩)
def rangeD (lo : Int) (n : Nat) : List D := (List.range n).map fun k => .int (lo + (k : Nat))
theorem rangeD_len (lo : Int) (n : Nat) : (rangeD lo n).length = n := by unfold rangeD; simp
theorem rangeD_get {lo : Int} {n i : Nat} (h : i < n) : (rangeD lo n)[i]? = some (.int (lo + i)) := by unfold rangeD; simp [h]
theorem rangeD_inv {lo : Int} {n i : Nat} {d : D} (h : (rangeD lo n)[i]? = some d) : i < n ∧ d = .int (lo + i) := by
  have hi : i < n := by
    have := (List.getElem?_eq_some_iff.mp h).1
    rwa [rangeD_len] at this
  rw [rangeD_get hi] at h
  exact ⟨hi, (Option.some.inj h).symm⟩
theorem itr_is {J : It} {lo : Int} {n : Nat} {L0 : Lp} {F0 : Fz} {H0 : Hp} (hJ : J = Itr lo n) : IsIt C J (rangeD lo n) (fun _ => True) L0 F0 H0 := by
  subst hJ
  intro F i H L s c g
  rw [rangeD_len]
  refine ⟨fun h => h, fun h => Nat.le_of_eq h.symm, fun x H' y hi => ?_⟩
  obtain ⟨e1, e2⟩ := y
  subst e1 e2
  exact ⟨_, rangeD_get hi, .int _, .inl rfl⟩
theorem ai_range1 {p : Pos} {R : List D → (Lp → Prop) → Lp → Prop} (hm : C.X.mg "range" = none) (h : AE C e Γ L fun d L1 => ∃ j : Int, d = .int j ∧ -(2 ^ 62) ≤ j ∧ j < 2 ^ 62 ∧ R (rangeD 0 j.toNat) (fun _ => True) L1) (hg : Gl C.X "range" := by rfl) (hs : starEach [e] C.X.env = [(false, eval e C.X.env)] := by rfl) :
    AI C tg (.Call (.Name "range" p) [e] [] pos) Γ L R := fun F σ H ok RV go =>
  wi_of (pi_range1 hg hm (pa_cons pe_we pa_nil hs) hs) (h _ σ H ok _ fun v d H1 L1 r c f ⟨j, ed, h1, h2, q⟩ => by
    subst ed
    exact ⟨j, by rw [r.intE], h1, h2, go _ H1 L1 _ _ c f (itr_is rfl) q⟩)

/-! ### for -/
theorem as_for {iter : Expr} {body : List Stmt} (h : AI C tg iter Γ L fun ds G L1 => ∃ I : Nat → Gm → Lp → Prop, I 0 Γ L1 ∧ (∀ i Γ2 L2, I i Γ2 L2 → G L2) ∧
      (∀ i d Γ2 L2, ds[i]? = some d → I i Γ2 L2 → ∃ Γ3 ws, AG C tg d Γ2 Γ3 ws ∧ ASs C body Γ3 L2 { E with nx := I (i + 1), ct := I (i + 1), bk := E.nx }) ∧ ∀ Γ2 L2, I ds.length Γ2 L2 → E.nx Γ2 L2)
    (hs : ∀ x, foldedSetIterable iter C.X.env x = pure x := by intro _; rfl) : AS C (.For tg iter body [] pos) Γ L E := fun F σ H ok DD go => by
  refine ws_of (ps_for C.po C.calm pi_wi pg_wg pss_we hs) (h _ σ H ok _ fun {F1} J H1 L1 ds G c1 f1 it ⟨I, i0, hG, hb, hd⟩ => ?_)
  refine ⟨fun i m σ2 H2 => m = ds.length - i ∧ i ≤ ds.length ∧ ∃ Γ2 L2 F2, Ok C Γ2 L2 F2 σ2 H2 ∧ Fr L1 F1 H1 L2 F2 H2 ∧ I i Γ2 L2, ⟨ds.length, by simp, Nat.zero_le _, Γ, L1, F1, ok.step c1 f1, .refl L1 H1, i0⟩, ?_⟩
  rintro i m σ2 H2 ⟨rfl, hi, Γ2, L2, F2, ok2, f2, i2⟩
  obtain ⟨k1, k2, k3⟩ := it i H2 L2 f2 ok2.con (hG i Γ2 L2 i2)
  by_cases hlt : i < ds.length
  · refine .inr ⟨k1 hlt, fun σ' H' => ∃ Γ3 L3 F', Ok C Γ3 L3 F' σ' H' ∧ Fr L1 F1 H1 L3 F' H' ∧ I (i + 1) Γ3 L3, fun σ' H' hN => ⟨ds.length - (i + 1), by omega, rfl, hlt, hN⟩, fun x H' y => ?_⟩
    obtain ⟨d, hd2, rd, hH⟩ := k3 x H' y hlt
    obtain ⟨Γ3, ws, ag, bd⟩ := hb i d Γ2 L2 hd2 i2
    have fH : Fr L2 F2 H2 L2 F2 H' := by
      rcases hH with e | ⟨T, vs, nT, e⟩
      · rw [e]; exact .refl L2 H2
      · rw [e]; exact .new nT
    have cH : C.Con L2 F2 H' := by
      rcases hH with e | ⟨T, vs, nT, e⟩
      · rw [e]; exact ok2.con
      · rw [e]; exact ok2.con.new nT
    refine ag _ σ2 H' x (ok2.sl.mono fH.mv) rd _ fun σ3 sl3 _ => ?_
    refine bd _ σ3 H' ⟨sl3, cH, ok2.lr.step fH⟩ _ ⟨fun s H4 Γ4 L4 o f4 q4 => ⟨Γ4, L4, _, o, (f2.trans fH).trans f4, q4⟩, fun v d4 H4 L4 r4 c4 f4 q4 => go.rt v d4 H4 L4 r4 c4 (f1.trans ((f2.trans fH).trans f4)) q4,
      fun s H4 Γ4 L4 o f4 q4 => go.nx s H4 Γ4 L4 o (f1.trans ((f2.trans fH).trans f4)) q4, fun s H4 Γ4 L4 o f4 q4 => ⟨Γ4, L4, _, o, (f2.trans fH).trans f4, q4⟩⟩
  · have e : i = ds.length := by omega
    exact .inl ⟨k2 e, go.nx σ2 H2 Γ2 L2 ok2 (f1.trans f2) (hd Γ2 L2 (by rw [← e]; exact i2))⟩
end
end DL
namespace DL
open PySem PySem.Spec PyProof.Rows L2

def fctx (P : Program) (w : World) (K : PySem.W.Frag) (mg : Str → Option Value) (base : Heap) (N : List Str) (qual : Str) (scope : Scope) (f : Addr) (cdv : Value) (A : Around) (outer : List Env) (s : Shared) (H : Hp) (E : XK) (nd : N.Nodup) (R : Value → List (Str × D) → Lp → Prop) : Ctx where
  X := cxOf (L2.CX P w) P w K mg base N qual scope f cdv A outer s H E
  W := fun cls d _ H => E cls d H
  R := fun _ => R
  tk := takes_of rfl rfl rfl rfl
  po := passes_of rfl
  calm := rfl
  nd := nd

/-! ### comprehensions -/
/-- the context of a comprehension's block -/
def bctx (C : Ctx) (scope : Scope) (s : Shared) (H : Hp) (Cc : Addr) (cl : List (Str × Addr)) (fp : List Addr) : Ctx where
  X := C.X.blk s H scope (compEnvC scope cl Cc C.X.env) fp
  W := fun _ _ _ _ => False
  R := fun _ _ _ _ => False
  tk := takes0
  po := PassesOwn.never
  calm := C.calm
  nd := C.nd
structure WTs (X : Cx) (ifs : List Expr) (σ : L2.St) (H : Hp) (Q : Bool → Hp → Prop) : Prop where
  run : ∀ (pins : List (Addr × Obj)) (s : Shared), Inv X pins σ H s →
  wpAny (model X.prog X.w) X.A (forIn ifs true fun c r => if r = true then do let ok ← isTrue c X.env (eval c X.env); pure (ForInStep.yield ok) else pure (ForInStep.yield r)) (TP X pins σ Q) X.xe s
def ATs (C : Ctx) (ifs : List Expr) (Γ : Gm) (L : Lp) (Q : Bool → Lp → Prop) : Prop := ∀ F σ H, Ok C Γ L F σ H → ∀ QV, GoT C L F H Q QV → WTs C.X ifs σ H QV
section
variable {C : Ctx} {Γ Γ1 Γ2 : Gm} {L : Lp} {e a b c o tg : Expr} {es ts : List Expr} {pos p1 p2 : Pos} {st : Stmt} {sts : List Stmt} {E : AEnds} {Q : D → Lp → Prop} {d : D} {ds : List D} {ws zs : List Nat}
theorem ats_nil {Q : Bool → Lp → Prop} (q : Q true L) : ATs C [] Γ L Q := fun F σ H ok QV go => ⟨fun pins s I => pts_nil.run pins s σ H QV I (go true H L ok.con (.refl L H) q)⟩
theorem ats_one {Q : Bool → Lp → Prop} (h : AT C c Γ L Q) : ATs C [c] Γ L Q := fun F σ H ok QV go => ⟨fun pins s I => (pts_one pt_we).run pins s σ H QV I (h _ σ H ok QV go)⟩

def wipeG (Γ : Gm) : List Nat → Gm
  | [] => Γ
  | v :: vs => (wipeG Γ vs).set v none
theorem wipeG_len (Γ : Gm) : ∀ vs : List Nat, (wipeG Γ vs).length = Γ.length
  | [] => rfl
  | v :: vs => by unfold wipeG; rw [List.length_set, wipeG_len Γ vs]
theorem wipe_at (σ : L2.St) (j : Nat) : ∀ vs : List Nat, (wipe σ vs)[j]? = if j ∈ vs then (if j < σ.length then some none else none) else σ[j]?
  | [] => by simp [wipe]
  | v :: vs => by
    unfold wipe
    by_cases h : j = v
    · subst h
      by_cases hl : j < σ.length
      · rw [List.getElem?_set_self (by rw [wipe_length]; exact hl)]
        simp [hl]
      · rw [List.getElem?_eq_none (by simp [wipe_length]; omega)]
        simp [hl]
    · rw [List.getElem?_set_ne (Ne.symm h), wipe_at σ j vs]
      simp [h]
theorem wipeG_at (Γ : Gm) (j : Nat) : ∀ vs : List Nat, (wipeG Γ vs)[j]? = if j ∈ vs then (if j < Γ.length then some none else none) else Γ[j]?
  | [] => by simp [wipeG]
  | v :: vs => by
    unfold wipeG
    by_cases h : j = v
    · subst h
      by_cases hl : j < Γ.length
      · rw [List.getElem?_set_self (by rw [wipeG_len]; exact hl)]
        simp [hl]
      · rw [List.getElem?_eq_none (by simp [wipeG_len]; omega)]
        simp [hl]
    · rw [List.getElem?_set_ne (Ne.symm h), wipeG_at Γ j vs]
      simp [h]
theorem Sl.wipe {K : PySem.W.Frag} {F : Fz} {H : Hp} {σ : L2.St} (x : Sl K F H σ Γ) (vs : List Nat) : Sl K F H (wipe σ vs) (wipeG Γ vs) := by
  refine ⟨by rw [wipe_length, wipeG_len]; exact x.len, fun i d e => ?_⟩
  rw [wipeG_at] at e
  rw [wipe_at]
  by_cases h : i ∈ vs
  · rw [if_pos h] at e
    split at e <;> cases e
  · rw [if_neg h] at e ⊢
    exact x.get i d e
theorem But.wiped {vs ws : List Nat} {σ σ' : L2.St} (b : But ws (wipe σ vs) σ') (h : ∀ j ∈ ws, j ∈ vs) : wipe σ' vs = wipe σ vs := by
  apply List.ext_getElem?
  intro j
  have hl : σ'.length = σ.length := by rw [b.len, wipe_length]
  rw [wipe_at, wipe_at, hl]
  by_cases hj : j ∈ vs
  · rw [if_pos hj, if_pos hj]
  · rw [if_neg hj, if_neg hj, b.at_ j (fun z => hj (h j z)), wipe_at, if_neg hj]
theorem Stay.lst {H : Hp} {p : Addr} {xs : List V} {o : HO} (h : H p = some (.lst xs)) : Stay H (upd H p o) :=
  ⟨fun a vs e => by rw [upd_ne (fun q => by rw [q, h] at e; cases e)]; exact e, fun a ob u e => by rw [upd_ne (fun q => by rw [q, h] at e; cases e)]; exact e, fun a e => by rw [upd_ne (fun q => by rw [q, h] at e; cases e)]; exact e⟩

abbrev gB (C : Ctx) (scope : Scope) (tg : Expr) : TG := fun v σ H Q => ∀ s H0 Cc cl fp, WG (bctx C scope s H0 Cc cl fp).X tg v σ H Q
abbrev ttB (C : Ctx) (scope : Scope) (ifs : List Expr) : TT := fun σ H Q => ∀ s H0 Cc cl fp, WTs (bctx C scope s H0 Cc cl fp).X ifs σ H Q
abbrev teB (C : Ctx) (scope : Scope) (elt : Expr) : TE := fun σ H Q => ∀ s H0 Cc cl fp, WE (bctx C scope s H0 Cc cl fp).X elt σ H Q
/-! an object that no one else knows: neither in the store nor frozen -/
theorem Fr.hid {L L' : Lp} {F F' : Fz} {H H' : Hp} {D : Addr} {o : HO} (f : Fr L F H L' F' H') (h : H D = some o) (ho : ∀ y, o ≠ .own y) (lD : L D = none) (fD : ¬ F D) : L' D = none ∧ ¬ F' D ∧ H' D = some o := by
  refine ⟨?_, fun z => ?_, f.keep D o h ho lD⟩
  · cases e : L' D with
    | none => rfl
    | some u =>
      rcases f.dom D (by rw [e]; simp) with z | z
      · exact absurd lD z
      · rw [h] at z
        cases z
  · rcases f.off D z with z | z | z
    · exact fD z
    · exact z lD
    · rw [h] at z
      cases z
theorem Mv.hid {F : Fz} {H : Hp} {D : Addr} {o : HO} (st : Stay H (upd H D o)) (fD : ¬ F D) : Mv F H F (upd H D o) := ⟨st, fun _ z => z, fun a u z e => by
  have ea : a ≠ D := fun q => fD (q ▸ z)
  rw [upd_ne ea]
  exact e⟩
theorem Con.hid {P : Program} {w : World} {K : PySem.W.Frag} {L : Lp} {F : Fz} {H : Hp} {D : Addr} {o : HO} (c : Con P w K L F H) (st : Stay H (upd H D o)) (lD : L D = none) (fD : ¬ F D) : Con P w K L F (upd H D o) := ⟨fun a u e => (c.at_ a u e).mono (.hid st fD) (upd_ne (ne_of_free e lD)), fun a z => by
  have ea : a ≠ D := fun q => fD (q ▸ z)
  rw [upd_ne ea]
  exact c.fz a z⟩
theorem Fr.hidw {L L1 : Lp} {F F1 : Fz} {H H1 : Hp} {D : Addr} {o : HO} (f : Fr L1 F1 H1 L F H) (hD : H1 D = none) (f1D : ¬ F1 D) (st : Stay H (upd H D o)) : Fr L1 F1 H1 L F (upd H D o) :=
  ⟨fun a u ea qa na => by rw [upd_ne (ne_of_none ea hD)]; exact f.keep a u ea qa na, fun a h => upd_live (f.live a h), f.stay.trans st, f.dom, f.fz, fun a u z e => by rw [upd_ne (ne_of_none e hD)]; exact f.fk a u z e, f.off⟩
theorem Con.shw {P : Program} {w : World} {K : PySem.W.Frag} {L : Lp} {F : Fz} {H : Hp} {D : Addr} {mo : MO} (c : Con P w K L F H) (fD : ¬ F D) (x : At P w K F H D mo) : Con P w K (put L D mo) F H := ⟨fun a u ea => by
  by_cases ed : a = D
  · subst ed
    rw [put_same] at ea
    cases ea
    exact x
  · rw [put_ne ed] at ea
    exact c.at_ a u ea, fun a z => by
  have ea : a ≠ D := fun q => fD (q ▸ z)
  rw [put_ne ea]
  exact c.fz a z⟩
theorem Fr.shw {L L2 : Lp} {F F2 : Fz} {H H2 : Hp} {D : Addr} {mo : MO} (f : Fr L F H L2 F2 H2) (hD : H D = none) : Fr L F H (put L2 D mo) F2 H2 :=
  ⟨f.keep, f.live, f.stay, fun a z => by
    by_cases ea : a = D
    · exact .inr (by rw [ea]; exact hD)
    · rw [put_ne ea] at z
      exact f.dom a z, f.fz, f.fk, f.off⟩
theorem Fr.nul {L L' : Lp} {F F' : Fz} {H H' : Hp} (f : Fr L F H L' F' H') {a : Addr} (h : H' a = none) : H a = none := by
  cases e : H a with
  | none => rfl
  | some o => exact absurd h (f.live a (by rw [e]; simp))
def AIp (C : Ctx) (tg iter : Expr) (L : Lp) (F : Fz) (σ : L2.St) (H : Hp) (R : List D → (Lp → Prop) → Lp → Prop) : Prop := ∀ RV : It → Hp → Prop, (∀ {F'} J H' L' ds G, C.Con L' F' H' → Fr L F H L' F' H' → IsIt C J ds G L' F' H' → R ds G L' → RV J H') → WI C.X tg iter σ H RV
/-- [elt for tg in iter if ..]: I i acc L, what holds ahead of the i-th item, acc the list so far -/
theorem lc_read0 {own : List (Str × Nat)} {scope : Scope} {elt iter : Expr} {ifs : List Expr}
    {F : Fz} {σ : L2.St} {H : Hp} (okk : Ok C Γ L F σ H) {QV : VK} (go : Go C L F H Q QV) (h : AIp C tg iter L F σ H fun ds G L1 => ∃ I : Nat → List D → Lp → Prop, I 0 [] L1 ∧ (∀ i acc L2, I i acc L2 → G L2) ∧
      (∀ i d acc L2, ds[i]? = some d → I i acc L2 → ∃ Γ3 ws, (∀ j ∈ ws, j ∈ own.map (·.2)) ∧ ∀ s H Cc cl fp, AG (bctx C scope s H Cc cl fp) tg d (wipeG Γ (own.map (·.2))) Γ3 ws ∧
        ATs (bctx C scope s H Cc cl fp) ifs Γ3 L2 fun k L3 => (k = true → ∀ s H Cc cl fp, AE (bctx C scope s H Cc cl fp) elt Γ3 L3 fun y L4 => acc.length < sizeLine ∧ I (i + 1) (acc ++ [y]) L4) ∧ (k = false → I (i + 1) acc L3)) ∧
      ∀ acc L2, I ds.length acc L2 → ∀ p, L2 p = none → Q (.ptr p) (put L2 p (.lst acc))) : tLc (WI C.X tg iter) (gB C scope tg) (ttB C scope ifs) (teB C scope elt) (own.map (·.2)) σ H QV := by
  refine h _ fun {F1} J H1 L1 ds G c1 f1 it ⟨I, i0, hG, hb, hd⟩ => ?_
  intro D hD
  have f1D := c1.nf hD
  refine ⟨fun i m H2 => m = ds.length - i ∧ i ≤ ds.length ∧ ∃ L2 F2 acc vacc, acc.length ≤ sizeLine ∧ C.Con L2 F2 H2 ∧ Fr L1 F1 H1 L2 F2 H2 ∧ L2 D = none ∧ ¬ F2 D ∧ H2 D = some (.lst vacc) ∧ Reps C.X.K F2 H2 vacc acc ∧ I i acc L2, ⟨ds.length, by simp, Nat.zero_le _, L1, F1, [], [], Nat.zero_le _, c1.new hD, .new hD, c1.free hD, f1D, upd_same, .nil, i0⟩, ?_⟩
  rintro i m H2 ⟨rfl, hi, L2, F2, acc, vacc, hacc, c2, f2, lD, fD, hD2, ra, i2⟩
  obtain ⟨k1, k2, k3⟩ := it i H2 L2 f2 c2 (hG i acc L2 i2)
  by_cases hlt : i < ds.length
  · refine .inr ⟨k1 hlt, fun H3 => ∃ L2 F2 acc vacc, acc.length ≤ sizeLine ∧ C.Con L2 F2 H3 ∧ Fr L1 F1 H1 L2 F2 H3 ∧ L2 D = none ∧ ¬ F2 D ∧ H3 D = some (.lst vacc) ∧ Reps C.X.K F2 H3 vacc acc ∧ I (i + 1) acc L2, fun H3 hN => ⟨ds.length - (i + 1), by omega, rfl, hlt, hN⟩, fun x H' y => ?_⟩
    obtain ⟨d, hd2, rd, hH⟩ := k3 x H' y hlt
    have fH : Fr L2 F2 H2 L2 F2 H' := by
      rcases hH with e | ⟨T, vs, nT, e⟩
      · rw [e]; exact .refl L2 H2
      · rw [e]; exact .new nT
    have cH : C.Con L2 F2 H' := by
      rcases hH with e | ⟨T, vs, nT, e⟩
      · rw [e]; exact c2
      · rw [e]; exact c2.new nT
    obtain ⟨_, _, hD3⟩ := fH.hid hD2 (fun _ z => nomatch z) lD fD
    have slw : Sl C.X.K F2 H' (wipe σ (own.map (·.2))) (wipeG Γ (own.map (·.2))) := (okk.sl.mono ((f1.trans f2).trans fH).mv).wipe _
    obtain ⟨Γ3, ws, hws, hbody⟩ := hb i d acc L2 hd2 i2
    intro s0 H0 Cc cl fp
    refine (hbody s0 H0 Cc cl fp).1 _ _ H' x slw rd _ fun σ3 sl3 but => ⟨But.wiped but hws, ?_⟩
    intro s1 H01 Cc1 cl1 fp1
    refine (hbody s1 H01 Cc1 cl1 fp1).2 _ σ3 H' ⟨sl3, cH, ⟨fun _ _ _ _ _ _ _ _ _ _ _ z => z.elim⟩⟩ _ fun k H3 L3 c3 f3 q3 => ?_
    have fr3 := (f2.trans fH).trans f3
    obtain ⟨lD3, fD3, hD4⟩ := f3.hid hD3 (fun _ z => nomatch z) lD fD
    cases k with
    | false =>
      rw [if_neg Bool.false_ne_true]
      exact ⟨L3, _, acc, vacc, hacc, c3, fr3, lD3, fD3, hD4, (ra.mono fH.mv).mono f3.mv, q3.2 rfl⟩
    | true =>
      rw [if_pos rfl]
      intro s2 H02 Cc2 cl2 fp2
      refine q3.1 rfl s2 H02 Cc2 cl2 fp2 _ σ3 H3 ⟨sl3.mono f3.mv, c3, ⟨fun _ _ _ _ _ _ _ _ _ _ _ z => z.elim⟩⟩ _ fun yv y H4 L4 r4 c4 f4 ⟨hz, q4⟩ => ?_
      obtain ⟨lD4, fD4, hD5⟩ := f4.hid hD4 (fun _ z => nomatch z) lD3 fD3
      have ra4 := ((ra.mono fH.mv).mono f3.mv).mono f4.mv
      have st : Stay H4 (upd H4 D (.lst (vacc ++ [yv]))) := .lst hD5
      exact ⟨vacc, hD5, by rw [ra4.length]; exact hz, L4, _, acc ++ [y], vacc ++ [yv], by rw [List.length_append]; exact hz, c4.hid st lD4 fD4, (fr3.trans f4).hidw hD f1D st, lD4, fD4, upd_same, (ra4.append (.cons r4 .nil)).mono (.hid st fD4), q4⟩
  · have e : i = ds.length := by omega
    exact .inl ⟨k2 e, go _ _ H2 (put L2 D (.lst acc)) (.ptr D) (c2.shw fD ⟨vacc, hD2, ra, hacc⟩) ((f1.trans f2).shw (f1.nul hD)) (hd acc L2 (by rw [← e]; exact i2) D lD)⟩

theorem lc_read {own : List (Str × Nat)} {scope : Scope} {elt iter : Expr} {ifs : List Expr}
    (h : AI C tg iter Γ L fun ds G L1 => ∃ I : Nat → List D → Lp → Prop, I 0 [] L1 ∧ (∀ i acc L2, I i acc L2 → G L2) ∧
      (∀ i d acc L2, ds[i]? = some d → I i acc L2 → ∃ Γ3 ws, (∀ j ∈ ws, j ∈ own.map (·.2)) ∧ ∀ s H Cc cl fp, AG (bctx C scope s H Cc cl fp) tg d (wipeG Γ (own.map (·.2))) Γ3 ws ∧
        ATs (bctx C scope s H Cc cl fp) ifs Γ3 L2 fun k L3 => (k = true → ∀ s H Cc cl fp, AE (bctx C scope s H Cc cl fp) elt Γ3 L3 fun y L4 => acc.length < sizeLine ∧ I (i + 1) (acc ++ [y]) L4) ∧ (k = false → I (i + 1) acc L3)) ∧
      ∀ acc L2, I ds.length acc L2 → ∀ p, L2 p = none → Q (.ptr p) (put L2 p (.lst acc))) {F : Fz} {σ : L2.St} {H : Hp} (okk : Ok C Γ L F σ H) {QV : VK} (go : Go C L F H Q QV) : tLc (WI C.X tg iter) (gB C scope tg) (ttB C scope ifs) (teB C scope elt) (own.map (·.2)) σ H QV :=
  lc_read0 okk go fun RV g => h _ σ H okk RV g

theorem ae_lc (own : List (Str × Nat)) {scope : Scope} {elt iter : Expr} {ifs : List Expr}
    (h : AI C tg iter Γ L fun ds G L1 => ∃ I : Nat → List D → Lp → Prop, I 0 [] L1 ∧ (∀ i acc L2, I i acc L2 → G L2) ∧
      (∀ i d acc L2, ds[i]? = some d → I i acc L2 → ∃ Γ3 ws, (∀ j ∈ ws, j ∈ own.map (·.2)) ∧ ∀ s H Cc cl fp, AG (bctx C scope s H Cc cl fp) tg d (wipeG Γ (own.map (·.2))) Γ3 ws ∧
        ATs (bctx C scope s H Cc cl fp) ifs Γ3 L2 fun k L3 => (k = true → ∀ s H Cc cl fp, AE (bctx C scope s H Cc cl fp) elt Γ3 L3 fun y L4 => acc.length < sizeLine ∧ I (i + 1) (acc ++ [y]) L4) ∧ (k = false → I (i + 1) acc L3)) ∧
      ∀ acc L2, I ds.length acc L2 → ∀ p, L2 p = none → Q (.ptr p) (put L2 p (.lst acc)))
    (ok : BlkOk C.X.N C.X.env.scope scope own := by (dsimp only [fctx, bctx, cxOf, envOfC, compEnvC, Cx.blk]; exact blkOk_by (by decide +kernel))) (hs : ∀ x, foldedSetIterable iter C.X.env x = pure x := by intro _; rfl) : AE C (.ListComp elt [⟨tg, iter, ifs, 0⟩] scope pos) Γ L Q := fun F σ H okk QV go =>
  we_of (pe_lc C.calm C.nd pi_wi ok (fun s H0 Cc cl fp => ⟨fun pins s1 σ1 H1 v u Q1 I r q => (q s H0 Cc cl fp).run pins s1 u I r⟩) (fun s H0 Cc cl fp => ⟨fun pins s1 σ1 H1 Q1 I q => (q s H0 Cc cl fp).run pins s1 I⟩) (fun s H0 Cc cl fp => ⟨fun pins s1 σ1 H1 Q1 I q => (q s H0 Cc cl fp).run pins s1 I⟩) hs) (lc_read h okk go)
/-- y = [..] -/
theorem as_setLc (n : Nat) (own : List (Str × Nat)) {y : Str} {py spos : Pos} {scope : Scope} {elt iter : Expr} {ifs : List Expr}
    (h : AI C tg iter Γ L fun ds G L1 => ∃ I : Nat → List D → Lp → Prop, I 0 [] L1 ∧ (∀ i acc L2, I i acc L2 → G L2) ∧
      (∀ i d acc L2, ds[i]? = some d → I i acc L2 → ∃ Γ3 ws, (∀ j ∈ ws, j ∈ own.map (·.2)) ∧ ∀ s H Cc cl fp, AG (bctx C scope s H Cc cl fp) tg d (wipeG Γ (own.map (·.2))) Γ3 ws ∧
        ATs (bctx C scope s H Cc cl fp) ifs Γ3 L2 fun k L3 => (k = true → ∀ s H Cc cl fp, AE (bctx C scope s H Cc cl fp) elt Γ3 L3 fun y L4 => acc.length < sizeLine ∧ I (i + 1) (acc ++ [y]) L4) ∧ (k = false → I (i + 1) acc L3)) ∧
      ∀ acc L2, I ds.length acc L2 → ∀ p, L2 p = none → E.nx (Γ.set n (some (.ptr p))) (put L2 p (.lst acc)))
    (hy : C.X.N[n]? = some y := by rfl) (hyl : C.X.env.scope.names.lookup y = some .local := by rfl) (hsw : swapsWith (.ListComp elt [⟨tg, iter, ifs, 0⟩] scope pos) (some (.Name y py)) spos.line C.X.env = pure true := by exact sw_true rfl rfl rfl (by decide +kernel))
    (ok : BlkOk C.X.N C.X.env.scope scope own := by (dsimp only [fctx, bctx, cxOf, envOfC, compEnvC, Cx.blk]; exact blkOk_by (by decide +kernel))) (hs : ∀ x, foldedSetIterable iter C.X.env x = pure x := by intro _; rfl) : AS C (.Assign [.Name y py] (.ListComp elt [⟨tg, iter, ifs, 0⟩] scope pos) spos) Γ L E := fun F σ H okk DD go =>
  ws_of (ps_setLc C.calm C.nd hy hyl hsw pi_wi ok (fun s H0 Cc cl fp => ⟨fun pins s1 σ1 H1 v u Q1 I r q => (q s H0 Cc cl fp).run pins s1 u I r⟩) (fun s H0 Cc cl fp => ⟨fun pins s1 σ1 H1 Q1 I q => (q s H0 Cc cl fp).run pins s1 I⟩) (fun s H0 Cc cl fp => ⟨fun pins s1 σ1 H1 Q1 I q => (q s H0 Cc cl fp).run pins s1 I⟩) hs)
    (lc_read (Q := fun d L1 => E.nx (Γ.set n (some d)) L1) h okk fun v d H1 L1 r c f q => go.nx _ H1 _ L1 ⟨(okk.sl.mono f.mv).set n r, c, okk.lr.step f⟩ f q)
/-- it evaluates to d, and the store stays -/
def AV (C : Ctx) (e : Expr) (Γ : Gm) (L : Lp) (d : D) : Prop := ∀ Q : D → Lp → Prop, Q d L → AE C e Γ L Q
/-- the pure case: ds.map f -/
theorem lc_map {own : List (Str × Nat)} {scope : Scope} {elt : Expr} {ds : List D} {G : Lp → Prop} {L1 : Lp} {Z : Addr → List D → Lp → Prop} (f : D → D) (hG : G L1) (hz : ds.length ≤ sizeLine)
    (hf : ∀ (i : Nat) (d : D), ds[i]? = some d → ∃ Γ3 ws, (∀ j ∈ ws, j ∈ own.map (·.2)) ∧ ∀ s H Cc cl fp, AG (bctx C scope s H Cc cl fp) tg d (wipeG Γ (own.map (·.2))) Γ3 ws ∧ AV (bctx C scope s H Cc cl fp) elt Γ3 L1 (f d))
    (q : ∀ p, L1 p = none → Z p (ds.map f) L1) : ∃ I : Nat → List D → Lp → Prop, I 0 [] L1 ∧ (∀ i acc L2, I i acc L2 → G L2) ∧
      (∀ i d acc L2, ds[i]? = some d → I i acc L2 → ∃ Γ3 ws, (∀ j ∈ ws, j ∈ own.map (·.2)) ∧ ∀ s H Cc cl fp, AG (bctx C scope s H Cc cl fp) tg d (wipeG Γ (own.map (·.2))) Γ3 ws ∧
        ATs (bctx C scope s H Cc cl fp) [] Γ3 L2 fun k L3 => (k = true → ∀ s H Cc cl fp, AE (bctx C scope s H Cc cl fp) elt Γ3 L3 fun y L4 => acc.length < sizeLine ∧ I (i + 1) (acc ++ [y]) L4) ∧ (k = false → I (i + 1) acc L3)) ∧
      ∀ acc L2, I ds.length acc L2 → ∀ p, L2 p = none → Z p acc L2 := by
  refine ⟨fun i acc L2 => acc = (ds.take i).map f ∧ L2 = L1, ⟨rfl, rfl⟩, fun i acc L2 h => by rw [h.2]; exact hG, fun i d acc L2 hd ⟨ea, el⟩ => ?_, fun acc L2 ⟨ea, el⟩ p hp => ?_⟩
  · subst el
    obtain ⟨Γ3, ws, hw, hh⟩ := hf i d hd
    refine ⟨Γ3, ws, hw, fun s H Cc cl fp => ⟨(hh s H Cc cl fp).1, ats_nil ⟨fun _ s H Cc cl fp => (hh s H Cc cl fp).2 _ ⟨?_, ?_, rfl⟩, fun z => by cases z⟩⟩⟩
    · have hi := (List.getElem?_eq_some_iff.mp hd).1
      rw [ea, List.length_map, List.length_take]
      omega
    · rw [ea, List.take_add_one, hd]
      simp
  · subst el
    rw [ea, List.take_length]
    exact q p hp

end

/-! ### promises -/
abbrev SpA := List D → Lp → (D → Lp → Prop) → (Value → List (Str × D) → Lp → Prop) → Prop
def toSp (P : Program) (w : World) (K : PySem.W.Frag) (sp : SpA) : Sp := fun vs H Q E => ∃ ds L Z Q' R', Reps K Z H vs ds ∧ Con P w K L Z H ∧ sp ds L Q' R' ∧
  (∀ {Z'} d L', Q' d L' → ∀ v H', Rep K Z' H' v d → Con P w K L' Z' H' → Fr L Z H L' Z' H' → Q v H') ∧ (∀ {Z'} cls fs L', R' cls fs L' → ∀ d H', XdAt K Z' H' d fs → Con P w K L' Z' H' → Fr L Z H L' Z' H' → E cls (some d) H')
/-- the def at f keeps sp -/
abbrev FnA (P : Program) (w : World) (K : PySem.W.Frag) (mg : Str → Option Value) (base : Heap) (k : Nat) (f : Addr) (sp : SpA) : Prop := FnR P w K mg base (L2.CX P w) k f (toSp P w K sp)
/-- .. it is what the module's name x holds -/
structure Def (P : Program) (w : World) (K : PySem.W.Frag) (mg : Str → Option Value) (base : Heap) (x : Str) (k : Nat) (sp : SpA) : Prop where
  ex : ∃ f, mg x = some (.ref f) ∧ PySem.W.keepIn K (.ref f) = true ∧ FnA P w K mg base k f sp
theorem Def.mono {P : Program} {w : World} {K : PySem.W.Frag} {mg : Str → Option Value} {base : Heap} {x : Str} {j k : Nat} {sp : SpA} (F : Def P w K mg base x j sp) (h : j ≤ k) : Def P w K mg base x k sp := by
  obtain ⟨f, h1, h2, h3⟩ := F.ex
  exact ⟨f, h1, h2, h3.mono h⟩
theorem Def.imp {P : Program} {w : World} {K : PySem.W.Frag} {mg : Str → Option Value} {base : Heap} {x : Str} {k : Nat} {sp sp' : SpA} (F : Def P w K mg base x k sp) (h : ∀ ds L Q R, sp' ds L Q R → sp ds L Q R) : Def P w K mg base x k sp' := by
  obtain ⟨f, h1, h2, h3⟩ := F.ex
  exact ⟨f, h1, h2, h3.imp fun vs H Q E ⟨ds, L, Z, Q', R', a, b, c, d⟩ => ⟨ds, L, Z, Q', R', a, b, h _ _ _ _ c, d⟩⟩
section
variable {C : Ctx} {Γ : Gm} {L : Lp} {e : Expr} {es : List Expr} {pos p : Pos} {Q : D → Lp → Prop} {x : Str} {k : Nat} {sp : SpA}
/-- a callee runs: by its values -/
theorem run_fnA {f : Addr} {pins : List (Addr × Obj)} {σ : L2.St} {Z : Fz} {H : Hp} {s : Shared} {us : List Value} {vs : List V} {ds : List D} {QV : VK} (F : FnA C.X.prog C.X.w C.X.K C.X.mg C.X.base k f sp) (hr : Room k C.X.A) (I : Inv C.X pins σ H s) (ok : Ok C Γ L Z σ H) (r : Vals vs us) (rd : Reps C.X.K Z H vs ds)
    (h : sp ds L Q (C.R Γ)) (go : Go C L Z H Q QV) : codeAny (model C.X.prog C.X.w) C.X.A (.call (.ref f) ⟨us, []⟩) (fun r s' => match r with | .ok (.ret v) => EP C.X pins σ QV v s' | .ok _ => False | .error e => C.X.xe e s') s := by
  refine codeAny_mono (F C.X.A C.X.stack s H us vs QV (L2.WE C.W σ) hr I.env0 r ⟨ds, L, Z, Q, C.R Γ, rd, ok.con, h, fun d L' q v H' rv c f => go v d H' L' rv c f q, fun cls fs L' q d H' xd c f => ok.lr.of cls d σ H' Γ L' fs (ok.sl.mono f.mv) c f xd q⟩) fun r s' hq => ?_
  cases r with
  | error e => exact passAt C.tk σ pins H s e s' I hq
  | ok fl =>
    cases fl with
    | ret u => exact I.after hq
    | next => exact False.elim hq
    | brk => exact False.elim hq
    | cont => exact False.elim hq
theorem ae_call (F : Def C.X.prog C.X.w C.X.K C.X.mg C.X.base x k sp) (hr : Room k C.X.A) (h : AA C (e :: es) Γ L fun ds L1 => sp ds L1 Q (C.R Γ)) (hg : Gl C.X x := by rfl) (hdb : (x == ("__debug__" : Str)) = false := by decide)
    (he : starEach (e :: es) C.X.env = (false, eval e C.X.env) :: starEach es C.X.env := by rfl) (hpl : (backTo pos (starEach es C.X.env)).any (·.1) = false := by rfl) : AE C (.Call (.Name x p) (e :: es) [] pos) Γ L Q := fun Z σ H ok QV go => by
  refine ⟨fun pins s I => ?_⟩
  obtain ⟨f, hm, hk, G⟩ := F.ex
  refine wpAny_Call_Name_kw (ld_glob I hg hm ?_ hdb)
  refine PySem.W.callWith_K (h₀ := C.X.base) I.ok.mod.kin hk (thn ((h _ σ H ok (fun vs H1 => ∃ ds L1 Z1, Reps C.X.K Z1 H1 vs ds ∧ C.Con L1 Z1 H1 ∧ Fr L Z H L1 Z1 H1 ∧ sp ds L1 Q (C.R Γ)) (fun vs ds H1 L1 r c f q => ⟨ds, L1, _, r, c, f, q⟩)).run pos pins s I) fun us s1 ⟨vs, H1, I1, r, ds, L1, Z1, rd, c1, f1, q⟩ => ⟨I1.kIn, ?_⟩) he hpl
  exact wpAny_call (run_fnA G hr I1 (ok.step c1 f1) r rd q (go.after f1))
theorem ae_call0 (F : Def C.X.prog C.X.w C.X.K C.X.mg C.X.base x k sp) (hr : Room k C.X.A) (h : sp [] L Q (C.R Γ)) (hg : Gl C.X x := by rfl) (hdb : (x == ("__debug__" : Str)) = false := by decide) : AE C (.Call (.Name x p) [] [] pos) Γ L Q := fun Z σ H ok QV go => by
  refine ⟨fun pins s I => ?_⟩
  obtain ⟨f, hm, hk, G⟩ := F.ex
  refine wpAny_Call_Name_kw (ld_glob I hg hm ?_ hdb)
  exact PySem.W.callWith_K0 I.kIn hk (wpAny_call (run_fnA G hr I ok .nil .nil h go))
end

/-! ### a def's body -/
def startG (N : List Str) (ds : List D) : Gm := ds.map some ++ List.replicate (N.length - ds.length) none
theorem sl_start {K : PySem.W.Frag} {F : Fz} {H : Hp} {N : List Str} {vs : List V} {ds : List D} (r : Reps K F H vs ds) : Sl K F H (L2.start N vs) (startG N ds) := by
  unfold L2.start startG
  have hl := r.length
  refine ⟨by simp [hl], fun i d e => ?_⟩
  by_cases h : i < ds.length
  · rw [List.getElem?_append_left (by simpa using h), List.getElem?_map] at e
    cases q : ds[i]? with
    | none =>
      rw [q] at e
      cases e
    | some d' =>
      rw [q] at e
      cases e
      obtain ⟨v, h1, h2⟩ := r.get q
      exact ⟨v, by rw [List.getElem?_append_left (by simp; omega), List.getElem?_map, h1]; rfl, h2⟩
  · rw [List.getElem?_append_right (by simp; omega), List.getElem?_replicate] at e
    split at e <;> cases e
def endsOf (Q : D → Lp → Prop) : AEnds where
  nx := fun _ L' => ∃ L2, Le L2 L' ∧ Q .non L2
  rt := fun d L' => ∃ L2, Le L2 L' ∧ Q d L2
/-- THE RULE for a def -/
theorem fnA {P : Program} {w : World} {K : PySem.W.Frag} {mg : Str → Option Value} {base : Heap} {x qual : Str} {st : Stmt} {f : Addr} {fd : FuncData} {N ps : List Str} {k : Nat} {sp : SpA} (F : Fun K x qual st f fd) (S : FnScope N ps (defScope st)) (hb : Binds K fd ps [])
    (len : ∀ ds L Q R, sp ds L Q R → ds.length = ps.length)
    (hbody : ∀ (cdv : Value) (A : Around) (outer : List Env) (s : Shared) (H : Hp) (E : XK) (ds : List D) (L : Lp) (Q : D → Lp → Prop) (R : Value → List (Str × D) → Lp → Prop), Room k (A.deeper (envOfC qual (defScope st) s.heap.objs.size f cdv)) → sp ds L Q R →
      ASs (fctx P w K mg base N qual (defScope st) f cdv A outer s H E S.nd R) (defBody st) (startG N ds) L (endsOf Q)) : FnA P w K mg base (k + 1) f sp := by
  have G : FnOk P w K mg base (L2.CX P w) (k + 1) f fd ps (toSp P w K sp) := by
    refine F.okX S (fun vs H Q E ⟨ds, L, Z, Q', R', r, _, h, _⟩ => by rw [r.length]; exact len _ _ _ _ h) fun cdv A outer s H vs Q E hr ⟨ds, L, Z, Q', R', r, c, h, hq, he⟩ => ?_
    refine ⟨_, pss_we, hbody cdv A outer s H E ds L Q' R' hr h _ (L2.start N vs) H ⟨sl_start r, c, ⟨fun cls d σ' H' Γ' L' fs _ c' f' xd q => he cls fs L' q d H' xd c' f'⟩⟩ _ ⟨?_, ?_, ?_, ?_⟩⟩
    · rintro Z' σ' H' Γ' L' ok' f' ⟨L2, le, q⟩
      exact hq .non L2 q .non H' .non (ok'.con.le le) (f'.leR le)
    · rintro Z' v d H' L' rv c' f' ⟨L2, le, q⟩
      exact hq d L2 q v H' rv (c'.le le) (f'.leR le)
    · rintro _ _ _ _ _ _ _ z
      exact z.elim
    · rintro _ _ _ _ _ _ _ z
      exact z.elim
  exact (G.raw hb .nil).imp fun vs H Q E h => by rw [List.append_nil]; exact h
end DL
namespace DL
open PySem PySem.Spec PyProof.Rows L2

section
variable {C : Ctx} {Γ Γ1 Γ2 : Gm} {L : Lp} {e e2 a b c o tg : Expr} {es ts : List Expr} {pos p1 p2 : Pos} {st : Stmt} {sts : List Stmt} {E : AEnds} {Q : D → Lp → Prop} {d : D} {ds : List D} {ws zs : List Nat}

/-! ### more that is walked -/
def sgn (k : Nat) : Str := ⟨#[k]⟩
def sgnsOf (x : Str) : List D := x.cps.toList.map fun k => .str (sgn k)
theorem its_is {x : Str} {L0 : Lp} {F0 : Fz} {H0 : Hp} (hx : SOk x) : IsIt C (Its x) (sgnsOf x) (fun _ => True) L0 F0 H0 := by
  intro F i H L s cc g
  have hl : (sgnsOf x).length = x.cps.size := by unfold sgnsOf; simp
  rw [hl]
  refine ⟨fun h => h, fun h => Nat.le_of_eq h.symm, fun v H' y hi => ?_⟩
  obtain ⟨e1, k, hk, e2⟩ := y
  subst e1 e2
  refine ⟨.str (sgn k), ?_, .str _ (.one (hx.mem (Array.mem_toList_iff.mpr (Array.mem_of_getElem? hk)))), .inl rfl⟩
  unfold sgnsOf
  rw [List.getElem?_map, Array.getElem?_toList, hk]
  rfl
theorem ai_str {R : List D → (Lp → Prop) → Lp → Prop} (h : AE C e Γ L fun d L1 => ∃ x : Str, d = .str x ∧ (SOk x → R (sgnsOf x) (fun _ => True) L1)) : AI C tg e Γ L R := fun F σ H ok RV go =>
  wi_of (pi_str pe_we) (h _ σ H ok _ fun v d H1 L1 r c f ⟨x, ed, q⟩ => by
    subst ed
    exact ⟨x, r.strE, go _ H1 L1 _ _ c f (its_is r.bnd) (q r.bnd)⟩)
def rangeC (lo c : Int) (n : Nat) : List D := (List.range n).map fun k => .int (lo + (k : Nat) * c)
theorem itc_is {lo c : Int} {n : Nat} {L0 : Lp} {F0 : Fz} {H0 : Hp} : IsIt C (Itc lo c n) (rangeC lo c n) (fun _ => True) L0 F0 H0 := by
  intro F i H L s cc g
  have hl : (rangeC lo c n).length = n := by unfold rangeC; simp
  rw [hl]
  refine ⟨fun h => h, fun h => Nat.le_of_eq h.symm, fun x H' y hi => ?_⟩
  obtain ⟨e1, e2⟩ := y
  subst e1 e2
  refine ⟨_, ?_, .int _, .inl rfl⟩
  unfold rangeC
  simp [hi]
theorem ai_range3 {p : Pos} {R : List D → (Lp → Prop) → Lp → Prop} (hm : C.X.mg "range" = none) (h : AA C [a, b, c] Γ L fun ds L1 => ∃ (i j k : Int) (n : Nat), ds = [.int i, .int j, .int k] ∧ RgC i j k n ∧ R (rangeC i k n) (fun _ => True) L1) (hg : Gl C.X "range" := by rfl)
    (hs : starEach [a, b, c] C.X.env = (false, eval a C.X.env) :: starEach [b, c] C.X.env := by rfl) (hpl : (backTo pos (starEach [b, c] C.X.env)).any (·.1) = false := by rfl) : AI C tg (.Call (.Name "range" p) [a, b, c] [] pos) Γ L R := fun F σ H ok RV go =>
  wi_of (pi_range3 hg hm pa_we hs hpl) (h _ σ H ok _ fun vs ds H1 L1 r c f ⟨i, j, k, n, ed, hr, q⟩ => by
    subst ed
    cases r with
    | cons r1 rr =>
      obtain ⟨v, w, rfl, r2, r3⟩ := Reps.twoE rr
      refine ⟨i, j, k, n, by rw [r1.intE, r2.intE, r3.intE], hr, go _ H1 L1 _ _ c f itc_is q⟩)
def zipD (xs ys : List D) : List D := List.zipWith (fun x y => .tup [x, y]) xs ys
theorem itzT_is {x y : Addr} {vs us : List V} {xs ys : List D} {L0 : Lp} {F0 : Fz} {H0 : Hp} (hx : H0 x = some (.tup vs)) (hy : H0 y = some (.tup us)) (rx : Reps C.X.K F0 H0 vs xs) (ry : Reps C.X.K F0 H0 us ys) : IsIt C (RZ.ItzT C.X.K x y) (zipD xs ys) (fun _ => True) L0 F0 H0 := by
  intro F i H L s cc g
  have hx' : SqT C.X.K H x vs := SqT.of (s.stay.tup _ _ hx)
  have hy' : SqT C.X.K H y us := SqT.of (s.stay.tup _ _ hy)
  have hl : (zipD xs ys).length = min xs.length ys.length := by unfold zipD; simp
  have l1 := rx.length
  have l2 := ry.length
  rw [hl]
  refine ⟨fun h => ?_, fun h => ⟨vs, us, hx', hy', ?_⟩, fun v H' yy hi => ?_⟩
  · have h1 : i < vs.length := by rw [l1]; exact Nat.lt_of_lt_of_le h (Nat.min_le_left _ _)
    have h2 : i < us.length := by rw [l2]; exact Nat.lt_of_lt_of_le h (Nat.min_le_right _ _)
    exact ⟨vs, us, vs[i], us[i], hx', hy', List.getElem?_eq_getElem h1, List.getElem?_eq_getElem h2⟩
  · omega
  · obtain ⟨T, x1, y1, e1, nT, e2, k1, k2⟩ := yy
    subst e1 e2
    obtain ⟨d1, g1, q1⟩ := rx.getV (k1 vs hx')
    obtain ⟨d2, g2, q2⟩ := ry.getV (k2 us hy')
    have s2 : Mv F0 H0 F (upd H T (.tup [x1, y1])) := s.mv.trans (.new nT)
    refine ⟨.tup [d1, d2], ?_, Rep.tupI upd_same (.cons (q1.mono s2) (.cons (q2.mono s2) .nil)) (by show 2 ≤ sizeLine; decide), .inr ⟨T, _, nT, rfl⟩⟩
    unfold zipD
    rw [List.getElem?_zipWith, g1, g2]
theorem ai_zipT {p tpos : Pos} {elts : List Expr} {kk : Nat} {R : List D → (Lp → Prop) → Lp → Prop} (hm : C.X.mg "zip" = none) (h : AA C [e, e2] Γ L fun ds L1 => ∃ xs ys, ds = [.tup xs, .tup ys] ∧ (xs.length ≤ sizeLine → R (zipD xs ys) (fun _ => True) L1)) (hg : Gl C.X "zip" := by rfl)
    (hs : starEach [e, e2] C.X.env = (false, eval e C.X.env) :: starEach [e2] C.X.env := by rfl) (hpl : (backTo pos (starEach [e2] C.X.env)).any (·.1) = false := by rfl) : AI C (.Tuple elts kk tpos) (.Call (.Name "zip" p) [e, e2] [] pos) Γ L R := fun F σ H ok RV go =>
  wi_of (RZ.pi_zipA hg hm pa_we hs hpl) (h _ σ H ok _ fun vs ds H1 L1 r c f ⟨xs, ys, ed, q⟩ => by
    subst ed
    obtain ⟨v, w, rfl, r1, r2⟩ := r.twoE
    obtain ⟨x, vx, rfl, hx, rx⟩ := r1.tupE
    obtain ⟨y, vy, rfl, hy, ry⟩ := r2.tupE
    exact ⟨x, y, vx, vy, rfl, .inr ⟨SqT.of hx, SqT.of hy, go _ H1 L1 _ _ c f (itzT_is hx hy rx ry) (q r1.bnd)⟩⟩)

/-! ### texts -/
abbrev rInSign : R2 := fun x y H Q => ∃ (c : Nat) (z : Str), x = .str ⟨#[c]⟩ ∧ y = .str z ∧ Q (.bl (decide (c ∈ z.cps.toList))) H
theorem r_inSign {k : Nat} {z : Str} (q : Q (.bl (decide (k ∈ z.cps.toList))) L) : L2R C rInSign (.str (sgn k)) (.str z) L Q := fun F vx vy H c rx ry QV go => ⟨k, z, rx.strE, ry.strE, go _ _ H L (.bl _) c (.refl L H) q⟩
theorem cutS_len (z : Str) (lo hi : Option Int) : (cutS z lo hi).length ≤ z.length := by
  unfold cutS
  show (List.toArray _).size ≤ z.cps.size
  rw [List.size_toArray, List.length_take, List.length_drop, Array.length_toList]
  show min _ (z.cps.size - _) ≤ _
  omega
theorem SOk.cut {z : Str} (h : SOk z) (lo hi : Option Int) : SOk (cutS z lo hi) := .of (Nat.le_trans (cutS_len z lo hi) h.len) fun k hk => by
  unfold cutS at hk
  exact h.mem (List.mem_of_mem_drop (List.mem_of_mem_take (by simpa using hk)))
theorem s_str {z : Str} {lo hi : Option Int} (q : Q (.str (cutS z lo hi)) L) : LsR C rSlS (.str z) lo hi L Q := fun F v H c r QV go => ⟨z, r.strE, r.bnd.len, go _ _ H L (.str _ (SOk.cut r.bnd lo hi)) c (.refl L H) q⟩
theorem join_tl (s : Str) : ∀ ys : List Str, (Str.join s ys).length ≤ (ys.map (·.length)).sum + ys.length * s.length
  | [] => Nat.zero_le _
  | [x] => by
    show x.length ≤ _
    simp
  | x :: z :: r => by
    have ih := join_tl s (z :: r)
    show (x ++ s ++ Str.join s (z :: r)).length ≤ _
    rw [str_len_app, str_len_app]
    rw [List.map_cons, List.sum_cons, List.length_cons, Nat.add_mul, Nat.one_mul]
    omega
theorem join_mem (s : Str) {k : Nat} : ∀ ys : List Str, k ∈ (Str.join s ys).cps.toList → k ∈ s.cps.toList ∨ ∃ y ∈ ys, k ∈ y.cps.toList
  | [], h => by
    have h' : k ∈ (#[] : Array Nat).toList := h
    simp at h'
  | [x], h => .inr ⟨x, List.mem_singleton_self x, h⟩
  | x :: z :: r, h => by
    have h' : k ∈ (x ++ s ++ Str.join s (z :: r)).cps.toList := h
    have e : (x ++ s ++ Str.join s (z :: r)).cps.toList = x.cps.toList ++ s.cps.toList ++ (Str.join s (z :: r)).cps.toList := by
      show ((x.cps ++ s.cps) ++ (Str.join s (z :: r)).cps).toList = _
      simp
    rw [e] at h'
    rcases List.mem_append.mp h' with q | q
    · rcases List.mem_append.mp q with q | q
      · exact .inr ⟨x, List.mem_cons_self, q⟩
      · exact .inl q
    · rcases join_mem s (z :: r) q with q | ⟨y, hy, q⟩
      · exact .inl q
      · exact .inr ⟨y, List.mem_cons_of_mem _ hy, q⟩
theorem SOk.join {s : Str} {ys : List Str} (hs : SOk s) (hy : ∀ y ∈ ys, SOk y) (hz : (ys.map (·.length)).sum + ys.length * s.length ≤ 16777216) : SOk (Txt.join s ys) := by
  rw [TL.join_eq]
  refine .of (Nat.le_trans (join_tl s ys) (by rw [sizeLine_eq]; exact hz)) fun k hk => ?_
  rcases join_mem s ys hk with q | ⟨y, h1, q⟩
  · exact hs.mem q
  · exact (hy y h1).mem q
theorem reps_strOk {K : PySem.W.Frag} {F : Fz} {H : Hp} {vs : List V} {bs : List Str} (r : Reps K F H vs (bs.map D.str)) : ∀ y ∈ bs, SOk y := fun y hy => by
  obtain ⟨i, hi⟩ := List.getElem?_of_mem hy
  obtain ⟨v, _, rv⟩ := r.get (i := i) (d := .str y) (by rw [List.getElem?_map, hi]; rfl)
  exact rv.bnd
theorem ae_join {apos : Pos} (h : AE C o Γ L fun x L1 => ∃ s : Str, x = .str s ∧ AE C e Γ L1 fun y L2 => ∃ (p : Addr) (ys : List Str), y = .ptr p ∧ L2 p = some (.lst (ys.map D.str)) ∧ (ys.map (·.length)).sum + ys.length * s.length ≤ 16777216 ∧ Q (.str (Txt.join s ys)) L2)
    (hs : starEach [e] C.X.env = [(false, eval e C.X.env)] := by rfl) (hbase : attributeBase o "join" C.X.env (eval o C.X.env) = eval o C.X.env := by rfl) (hline : (apos.endLine == pos.line) = true := by rfl) : AE C (.Call (.Attribute o "join" apos) [e] [] pos) Γ L Q := fun F σ H ok QV go =>
  we_of (pe_join pe_we pe_we hs hbase hline) (h _ σ H ok _ fun vx x H1 L1 r1 c1 f1 ⟨s, ex, q1⟩ => by
    subst ex
    refine ⟨⟨s, r1.strE⟩, q1 _ σ H1 (ok.step c1 f1) _ fun vy y H2 L2 r2 c2 f2 ⟨p, ys, ey, hp, hz, q2⟩ => ?_⟩
    subst ey
    obtain ⟨ws, ha, ra, _⟩ := c2.at_ p _ hp
    have e := reps_strs ra
    have hy := reps_strOk ra
    subst e
    exact ⟨s, p, ys, r1.strE, by rw [r2.ptrE], .inl (SqL.of ha), hz, go _ _ H2 L2 (.str _ (SOk.join r1.bnd hy hz)) c2 (f1.trans f2) q2⟩)

/-! ### extend by a tuple, list(text), text * n -/
theorem extend_tuple (l : Addr) (items : Array Value) (n : Nat) (b : Addr) (items2 : Array Value) (n2 : Nat) (dd : Option Addr) (sl : Array (Option Value)) (hs0 : ¬(!items.isEmpty && Builtin.List.listTooLong (items.size + items2.size)) = true) (hs1 : items.size ≤ sizeLine) (hs2 : items.size + items2.size ≤ sizeLine + 1) :
    Meets (Builtin.«list.extend» ⟨[.ref l, .ref b], []⟩) (fun _ R s => s.heap.get? l = some { cls := .type "list", dict := none, data := .seq items n, slots := #[] } ∧ s.heap.get? b = some { cls := .type "tuple", dict := dd, data := .seq items2 n2, slots := sl } ∧ R (.ok (.ret Value.none)) { s with heap := s.heap.update l (Obj.mapSeq fun x => x ++ items2), toks := s.toks }) :=
  .of_wp fun prog w A R s h => by
    obtain ⟨hp, g, d, tk, os⟩ := s; obtain ⟨hl, hb, h⟩ := h; have f1 := PySem.AutoSeq1.idx_int; have f2 := PySem.AutoSeq1.sub_tuple_tuple; have f3 := PySem.AutoSeq1.sub_list_list; have f4 := PySem.AutoSeq1.sub_tuple_list; have f5 := PySem.AutoSeq1.sub_list_tuple;
    have hz' : (items ++ items2).size ≤ sizeLine + 1 := by rw [Array.size_append]; exact hs2
    wp_walk using (wpAny_updateSeq hl rfl (hz := hs1) (_hz' := hz')), wpAny_loadPart' hl, wpAny_loadPart' hb; exact ⟨_, rfl, h⟩
abbrev rExtT (K : PySem.W.Frag) : V → List V → Hp → VK → Prop := fun x vs H Q => ∃ l b xs zs, x = .ref l ∧ vs = [.ref b] ∧ H l = some (.lst xs) ∧ H b = some (.tup zs) ∧ xs.length + zs.length ≤ sizeLine ∧ Q .non (upd H l (.lst (xs ++ zs)))
theorem mt_extendT {X : Cx} : MtR X "list.extend" (rExtT X.K) := by
  intro pins s σ H x vs v us Q I rx rv h
  obtain ⟨l, b, xs, zs, rfl, rfl, hH, hB, hz, q⟩ := h
  cases rx
  obtain ⟨u, rfl, ru⟩ := rv.one
  cases ru
  obtain ⟨z, its, n, r, hl, e⟩ := I.lstM hH
  obtain ⟨its2, r2, ⟨o, ho, hc, n2, hd⟩, hz2⟩ := I.tuple (SqT.of hB)
  obtain ⟨oc, od, dt, sl⟩ := o
  simp only at hc hd
  subst hc hd
  have l2 := r2.length
  have hsz : its.toArray.size + its2.toArray.size ≤ sizeLine := by rw [List.size_toArray, List.size_toArray]; omega
  have hlong : ¬ (!its.toArray.isEmpty && Builtin.List.listTooLong (its.toArray.size + its2.toArray.size)) = true := by
    rw [notLongL hsz, Bool.and_false]
    exact Bool.false_ne_true
  refine call_meets F.slot_list_extend ⟨_, e, rfl⟩ F.entry_list_extend (F.args_list_extend_2 _ _)
    (extend_tuple l its.toArray n b its2.toArray n2 od sl hlong (by rw [List.size_toArray]; omega) (by omega)) ⟨e, ho, ?_⟩
  refine ⟨.non, _, I.lset (its' := its ++ its2) hH e (by simp) (r.append r2) ?_, rfl, q⟩
  rw [List.length_append]
  exact hz
theorem m_extendT {p : Addr} {xs ys : List D} (hp : L p = some (.lst xs)) (hl : xs.length + ys.length ≤ sizeLine) (q : Q .non (put L p (.lst (xs ++ ys)))) : LmR C (rExtT C.X.K) (.ptr p) [.tup ys] L Q := fun F v vs H c r1 r2 QV go => by
  obtain ⟨w, rfl, r⟩ := r2.oneE
  obtain ⟨ws, ha, ra, hzz⟩ := c.at_ p _ hp
  obtain ⟨b, us, rfl, hb, rb⟩ := r.tupE
  have s := Mv.write (o := .lst (ws ++ us)) c hp
  exact ⟨p, b, ws, us, r1.ptrE, rfl, ha, hb, by rw [ra.length, rb.length]; exact hl, go _ _ _ (put L p (.lst (xs ++ ys))) .non (c.write hp ⟨_, upd_same, (ra.append rb).mono s, by rw [List.length_append]; exact hl⟩) (.write c hp) q⟩
abbrev rLstS : List V → Hp → VK → Prop := fun xs H Q => ∃ z : Str, xs = [.str z] ∧ z.length ≤ sizeLine ∧ ∀ l, H l = none → Q (.ref l) (upd H l (.lst (z.cps.toList.map fun k => V.str ⟨#[k]⟩)))
theorem call_listS {X : Cx} (hc : X.calm = true) : CallR X (.type "list") rLstS := by
  intro pins s σ H xs us Q I r h
  obtain ⟨z, rfl, hz, q⟩ := h
  obtain ⟨u, rfl, ru⟩ := vals1 r
  obtain ⟨t, rfl⟩ := ru
  refine PySem.call_list_str (hn := hz) (I.ok.hd hc) z t fun h' tk acc c hk hS hacc => ?_
  have hv : Vals (z.cps.toList.map fun k => V.str ⟨#[k]⟩) acc.toList := by
    have hsz : acc.toList.length = z.cps.toList.length := by rw [Array.length_toList, hacc.1, Array.length_toList]
    have key : ∀ (l : List Value) (ks : List Nat), l.length = ks.length → (∀ (j : Nat) v, l[j]? = some v → ∃ k u, ks[j]? = some k ∧ v = .str ⟨#[k]⟩ u) → Vals (ks.map fun k => V.str ⟨#[k]⟩) l := by
      intro l
      induction l with
      | nil =>
        intro ks hl _
        cases ks with
        | nil => exact .nil
        | cons _ _ => simp at hl
      | cons v l ih =>
        intro ks hl hj
        cases ks with
        | nil => simp at hl
        | cons k ks =>
          obtain ⟨k', u, e1, e2⟩ := hj 0 v rfl
          simp at e1
          subst e1 e2
          exact .cons ⟨u, rfl⟩ (ih ks (by simpa using hl) fun j w hw => by simpa using hj (j + 1) w (by simpa using hw))
    refine key _ _ hsz fun j v hv => ?_
    obtain ⟨c, u, e1, e2⟩ := hacc.2 j v (by simpa using hv)
    exact ⟨c, u, by simpa using e1, e2⟩
  refine ⟨.ref s.heap.objs.size, _, I.laid (a := s.heap.objs.size) (o := .lst (z.cps.toList.map fun k => V.str ⟨#[k]⟩)) hk (Nat.le_refl _) ⟨?_, acc.toList, c, hv, ?_⟩, rfl, q _ (I.hok.fresh (Nat.le_refl _))⟩
  · rw [List.length_map, Array.length_toList]
    exact hz
  · simpa using hS
theorem reps_signs {K : PySem.W.Frag} {F : Fz} {H : Hp} {x : Str} (hx : SOk x) : Reps K F H (x.cps.toList.map fun k => V.str ⟨#[k]⟩) (sgnsOf x) := by
  refine Reps.of_get (by unfold sgnsOf; simp) fun i v d h1 h2 => ?_
  unfold sgnsOf at h2
  rw [List.getElem?_map] at h1 h2
  cases e : x.cps.toList[i]? with
  | none =>
    rw [e] at h1
    cases h1
  | some k =>
    rw [e] at h1 h2
    cases h1
    cases h2
    exact .str _ (.one (hx.mem (List.mem_of_getElem? e)))
theorem c_listS {z : Str} (q : ∀ l, L l = none → Q (.ptr l) (put L l (.lst (sgnsOf z)))) : LcR C rLstS [.str z] L Q := fun F vs H c r0 QV go => by
  obtain ⟨v, rfl, r⟩ := r0.oneE
  have hz : SOk z := r.bnd
  refine ⟨z, by rw [r.strE], hz.len, fun l hl => go _ _ _ (put L l (.lst (sgnsOf z))) (.ptr l) (c.newL hl ⟨_, upd_same, reps_signs hz, ?_⟩) (.newL hl) (q l (c.free hl))⟩
  unfold sgnsOf
  rw [List.length_map, Array.length_toList]
  exact hz.len
/-- text * n -/
def repS (x : Str) (n : Nat) : Str := ⟨(List.replicate n x.cps.toList).flatten.toArray⟩
theorem rep_fold (x : Array Nat) : ∀ (n : Nat) (acc : Array Nat), ((List.replicate n x).foldl (· ++ ·) acc).toList = acc.toList ++ (List.replicate n x.toList).flatten
  | 0, acc => by simp
  | n + 1, acc => by
    rw [List.replicate_succ, List.foldl_cons, rep_fold x n, List.replicate_succ, List.flatten_cons]
    simp
theorem rep_len {z : Str} {n : Nat} (hz : z.length * n ≤ 1000000) : (repS z n).length ≤ sizeLine := by
  show (List.toArray _).size ≤ _
  rw [List.size_toArray, List.length_flatten, List.map_replicate, List.sum_replicate_nat, Array.length_toList, sizeLine_eq]
  have : n * z.cps.size ≤ 1000000 := by rw [Nat.mul_comm]; exact hz
  omega
abbrev rMulS : R2 := fun x y H Q => ∃ (z : Str) (n : Int), x = .str z ∧ y = .int n ∧ 0 ≤ n ∧ n ≤ 1000000 ∧ z.length * n.toNat ≤ 1000000 ∧ Q (.str (repS z n.toNat)) H
theorem op_mulS {X : Cx} : OpR X (binaryOp .Mult) rMulS := by
  intro pins s σ H x y v u Q I rx ry h
  obtain ⟨z, n, rfl, rfl, h0, h1, hz, q⟩ := h
  obtain ⟨t, rfl⟩ := rx
  obtain ⟨t', rfl⟩ := ry
  have e0 : ∀ n : Nat, repS z n = ⟨(List.replicate n z.cps).foldl (· ++ ·) #[]⟩ := fun n => by
    unfold repS
    congr 1
    apply Array.toList_inj.mp
    rw [rep_fold]
    simp
  refine PySem.P.mul_str ?_ (fun _ _ => ?_) (fun _ _ => ?_) ?_
  · have a1 : ¬ n < -(2 ^ 63 : Int) := by omega
    have a2 : ¬ n ≥ 2 ^ 63 := by omega
    rw [decide_eq_false a1, decide_eq_false a2]
    rfl
  · rename_i n1 _
    have hn1 : (1 : Int) ≤ n := by omega
    have hl : z.length ≤ 1000000 := by
      refine Nat.le_trans ?_ hz
      have : 1 ≤ n.toNat := by omega
      exact Nat.le_mul_of_pos_right _ this
    intro hh
    have h2 : (1000000 : Int) ≤ (2 ^ 63 - 1) / n := Int.le_ediv_of_mul_le (by omega) (by omega)
    omega
  · unfold Builtin.Str.tooLong
    refine decide_eq_false ?_
    rw [sizeLine_eq]
    omega
  · by_cases c1 : n < 1
    · rw [if_pos c1]
      have e : n = 0 := by omega
      subst e
      exact ⟨Nat.zero_le _, .str (repS z 0), H, I.tok _, ⟨_, rfl⟩, q⟩
    · rw [if_neg c1]
      by_cases c2 : (n == 1 || z.length == 0) = true
      · rw [if_pos c2]
        have e : repS z n.toNat = z := by
          rw [Bool.or_eq_true] at c2
          rcases c2 with c | c
          · have e1 : n = 1 := by simpa using c
            subst e1
            show (⟨(List.replicate 1 z.cps.toList).flatten.toArray⟩ : Str) = z
            simp
          · have e1 : z.cps = #[] := Array.eq_empty_of_size_eq_zero (show z.length = 0 by simpa using c)
            unfold repS
            cases z with
            | mk cps =>
              simp only at e1
              subst e1
              simp
        rw [e] at q
        exact ⟨.str z, H, I, ⟨_, rfl⟩, q⟩
      · rw [if_neg c2, ← e0]
        exact ⟨rep_len hz, .str (repS z n.toNat), H, I.tok _, ⟨_, rfl⟩, q⟩
theorem SOk.rep {z : Str} (h : SOk z) {n : Nat} (hz : z.length * n ≤ 1000000) : SOk (repS z n) := by
  refine .of (rep_len hz) fun k hk => ?_
  · unfold repS at hk
    have hk' : k ∈ (List.replicate n z.cps.toList).flatten := by simpa using hk
    obtain ⟨l, h1, h2⟩ := List.mem_flatten.mp hk'
    rw [(List.mem_replicate.mp h1).2] at h2
    exact h.mem h2
theorem r_mulS {z : Str} {n : Int} (h0 : 0 ≤ n) (h1 : n ≤ 1000000) (hz : z.length * n.toNat ≤ 1000000) (q : Q (.str (repS z n.toNat)) L) : L2R C rMulS (.str z) (.int n) L Q := fun F vx vy H c rx ry QV go =>
  ⟨z, n, rx.strE, ry.intE, h0, h1, hz, go _ _ H L (.str _ (SOk.rep rx.bnd hz)) c (.refl L H) q⟩
end
end DL
namespace DL
open PySem PySem.Spec PyProof.Rows L2

/-! ### data as the library has them -/
mutual
def py : D → PyData
  | .non => .none
  | .bl b => .bool b
  | .int i => .int i
  | .str x => .str x
  | .tup ds => .tuple (pys ds)
  | .ty _ => .none
  | .ptr _ => .none
  | .ilst _ => .none
  | .obj _ _ => .none
  | .flst _ => .none
  | .fdct _ => .none
  | .kdct _ => .none
  | .wds _ => .none
def pys : List D → List PyData
  | [] => []
  | d :: ds => py d :: pys ds
end
mutual
def okD : D → Bool
  | .non => true
  | .bl _ => true
  | .int _ => true
  | .str _ => true
  | .tup ds => okDs ds
  | .ty _ => false
  | .ptr _ => false
  | .ilst _ => false
  | .obj _ _ => false
  | .flst _ => false
  | .fdct _ => false
  | .kdct _ => false
  | .wds _ => false
def okDs : List D → Bool
  | [] => true
  | d :: ds => okD d && okDs ds
end
mutual
theorem Rep.dp {K : PySem.W.Frag} {F : Fz} {H : Hp} : ∀ (d : D) (v : V), okD d = true → Rep K F H v d → Dp K H v (py d) ∧ (py d).canLay0 = true
  | .non, _, _, r => by rw [r.nonE, py]; exact ⟨.non, rfl⟩
  | .bl b, _, _, r => by rw [r.blE, py]; exact ⟨.bl b, rfl⟩
  | .int i, _, _, r => by rw [r.intE, py]; exact ⟨.int i, rfl⟩
  | .str x, _, _, r => by
    have h : SOk x := r.bnd
    rw [r.strE, py]
    exact ⟨.str x, by rw [PyData.canLay0]; exact h.sgn⟩
  | .tup ds, _, h, r => by
    obtain ⟨a, vs, rfl, ha, ra⟩ := r.tupE
    rw [okD] at h
    obtain ⟨h1, h2⟩ := Reps.dp ds vs h ra
    rw [py]
    exact ⟨.tup (SqT.of ha) h1, by rw [PyData.canLay0]; exact h2⟩
  | .ty _, _, h, _ => by simp [okD] at h
  | .ptr _, _, h, _ => by simp [okD] at h
  | .ilst _, _, h, _ => by simp [okD] at h
  | .obj _ _, _, h, _ => by simp [okD] at h
  | .flst _, _, h, _ => by simp [okD] at h
  | .fdct _, _, h, _ => by simp [okD] at h
  | .kdct _, _, h, _ => by simp [okD] at h
  | .wds _, _, h, _ => by simp [okD] at h
theorem Reps.dp {K : PySem.W.Frag} {F : Fz} {H : Hp} : ∀ (ds : List D) (vs : List V), okDs ds = true → Reps K F H vs ds → DpAll K H vs (pys ds) ∧ PyData.canLayAll0 (pys ds) = true
  | [], _, _, r => by
    cases r
    rw [pys]
    exact ⟨.nil, rfl⟩
  | d :: ds, _, h, r => by
    rw [okDs, Bool.and_eq_true] at h
    cases r with
    | cons r1 r2 =>
      obtain ⟨a1, a2⟩ := Rep.dp d _ h.1 r1
      obtain ⟨b1, b2⟩ := Reps.dp ds _ h.2 r2
      rw [pys]
      exact ⟨.cons a1 b1, by rw [PyData.canLayAll0, a2, b2]; rfl⟩
end

section
variable {C : Ctx} {Γ Γ1 Γ2 : Gm} {L : Lp} {e e2 a b c o tg : Expr} {es ts : List Expr} {pos p1 p2 : Pos} {st : Stmt} {sts : List Stmt} {E : AEnds} {Q : D → Lp → Prop} {d : D} {ds : List D} {ws zs : List Nat}
theorem shaped_of {d : PyData} (h1 : d.canLay0 = true) (h2 : d.depth ≤ 64) : SeqAt.shaped d = true := by
  unfold SeqAt.shaped
  rw [h1, decide_eq_true h2]
  rfl
theorem r_eqD {x y : D} (hx : okD x = true) (hy : okD y = true) (dx : (py x).depth ≤ 64) (dy : (py y).depth ≤ 64) (q : Q (.bl (PyData.eqv (py x) (py y))) L) : L2R C (rEqD C.X.K) x y L Q := fun F vx vy H c rx ry QV go => by
  obtain ⟨a1, a2⟩ := Rep.dp x vx hx rx
  obtain ⟨b1, b2⟩ := Rep.dp y vy hy ry
  exact ⟨py x, py y, a1, b1, shaped_of a2 dx, shaped_of b2 dy, go _ _ H L (.bl _) c (.refl L H) q⟩
theorem r_neD {x y : D} (hx : okD x = true) (hy : okD y = true) (dx : (py x).depth ≤ 64) (dy : (py y).depth ≤ 64) (q : Q (.bl (!PyData.eqv (py x) (py y))) L) : L2R C (rNeD C.X.K) x y L Q := fun F vx vy H c rx ry QV go => by
  obtain ⟨a1, a2⟩ := Rep.dp x vx hx rx
  obtain ⟨b1, b2⟩ := Rep.dp y vy hy ry
  exact ⟨py x, py y, a1, b1, shaped_of a2 dx, shaped_of b2 dy, go _ _ H L (.bl _) c (.refl L H) q⟩
/-- of the same data -/
theorem r_eqSame {x : D} (hx : okD x = true) (dx : (py x).depth ≤ 64) (q : Q (.bl true) L) : L2R C (rEqD C.X.K) x x L Q := fun F vx vy H c rx ry QV go => by
  obtain ⟨a1, a2⟩ := Rep.dp x vx hx rx
  obtain ⟨b1, b2⟩ := Rep.dp x vy hx ry
  refine ⟨py x, py x, a1, b1, shaped_of a2 dx, shaped_of b2 dx, ?_⟩
  rw [SeqAt.eqv_refl _ a2]
  exact go _ _ H L (.bl _) c (.refl L H) q
theorem r_neSame {x : D} (hx : okD x = true) (dx : (py x).depth ≤ 64) (q : Q (.bl false) L) : L2R C (rNeD C.X.K) x x L Q := fun F vx vy H c rx ry QV go => by
  obtain ⟨a1, a2⟩ := Rep.dp x vx hx rx
  obtain ⟨b1, b2⟩ := Rep.dp x vy hx ry
  refine ⟨py x, py x, a1, b1, shaped_of a2 dx, shaped_of b2 dx, ?_⟩
  rw [SeqAt.eqv_refl _ a2]
  exact go _ _ H L (.bl _) c (.refl L H) q

/-! ### x < y -/
abbrev rLtD (K : PySem.W.Frag) : R2 := fun x y H Q => ∃ d e, Dp K H x d ∧ Dp K H y e ∧ PySem.W.alike d e = true ∧ d ≠ .none ∧ d.depth ≤ 64 ∧ Q (.bl (PySem.W.dataLt d e)) H
theorem op_ltD {X : Cx} (hu : X.A.units + 64 < cLine) : OpR X (compareOp .Lt) (rLtD X.K) := by
  intro pins s σ H x y v u Q I rx ry h
  obtain ⟨d, e, hd, he, hal, hn, hz, q⟩ := h
  obtain ⟨as, r1⟩ := Dp.reads I d x v hd rx
  obtain ⟨bs, r2⟩ := Dp.reads I e y u he ry
  exact PySem.W.rcLt_alike d e X.A s v u as bs r1 r2 hal hn (by have := Nat.min_le_left d.depth e.depth; omega) _ _ _ _ ⟨.bl _, H, I, rfl, q⟩
theorem r_ltD {x y : D} (hx : okD x = true) (hy : okD y = true) (hal : PySem.W.alike (py x) (py y) = true) (hn : py x ≠ .none) (dx : (py x).depth ≤ 64) (q : Q (.bl (PySem.W.dataLt (py x) (py y))) L) : L2R C (rLtD C.X.K) x y L Q := fun F vx vy H c rx ry QV go => by
  obtain ⟨a1, a2⟩ := Rep.dp x vx hx rx
  obtain ⟨b1, b2⟩ := Rep.dp y vy hy ry
  exact ⟨py x, py y, a1, b1, hal, hn, dx, go _ _ H L (.bl _) c (.refl L H) q⟩

/-! ### sorted -/
theorem each_paired {α β : Type} {R : α → β → Prop} : ∀ {l1 : List α} {l2 : List β}, Paired R l1 l2 → PySem.W.EachIs R l1 l2
  | _, _, .nil => .nil
  | _, _, .cons h t => .cons h (each_paired t)
theorem paired_each {α β : Type} {R : α → β → Prop} : ∀ {l1 : List α} {l2 : List β}, PySem.W.EachIs R l1 l2 → Paired R l1 l2
  | _, _, .nil => .nil
  | _, _, .cons h t => .cons h (paired_each t)
/-- the order of the data -/
def leD (x y : D) : Bool := PySem.W.dataLe false py x y
abbrev rSortD (K : PySem.W.Frag) : List V → Hp → VK → Prop := fun vs H Q => ∃ (a : Addr) (xs : List V) (ds : List D) (F : Fz), vs = [.ref a] ∧ SqL K H a xs ∧ Reps K F H xs ds ∧ okDs ds = true ∧ PySem.W.AllAlike (ds.map py) ∧ PySem.W.Sortable (ds.map py) ∧ (∀ d ∈ ds, (py d).depth ≤ 64) ∧
  ∀ p ys, H p = none → Reps K F H ys (ds.mergeSort leD) → Q (.ref p) (upd H p (.lst ys))
theorem okDs_mem {ds : List D} (h : okDs ds = true) : ∀ d ∈ ds, okD d = true := by
  induction ds with
  | nil => intro d hd; cases hd
  | cons x xs ih =>
    rw [okDs, Bool.and_eq_true] at h
    intro d hd
    rcases List.mem_cons.mp hd with e | hd
    · rw [e]; exact h.1
    · exact ih h.2 d hd
theorem cr_sortD {X : Cx} (hu : X.A.units + 100 < cLine) : CallR X (.builtin "sorted") (rSortD X.K) := by
  intro pins s σ H vs us Q I r h
  obtain ⟨a, xs, ds, F, rfl, hs, rd, hok, hal, hso, hde, q⟩ := h
  obtain ⟨its, rv, hl, hz⟩ := I.list hs
  obtain ⟨u, rfl, ru⟩ := vals1 r
  obtain rfl : u = Value.ref a := ru
  have key : ∀ {xs : List V} {its : List Value} {ds : List D}, okDs ds = true → Vals xs its → Reps X.K F H xs ds → Paired (fun (v : Value) (d : D) => (∃ x, RelV x v ∧ Rep X.K F H x d) ∧ ∃ as, Reads s.heap v (py d) as) its ds := by
    intro xs its ds hok rv rd
    induction rd generalizing its with
    | nil => cases rv; exact .nil
    | cons r1 r2 ih =>
      rw [okDs, Bool.and_eq_true] at hok
      cases rv with
      | cons q1 q2 => exact .cons ⟨⟨_, q1, r1⟩, Dp.reads I _ _ _ (Rep.dp _ _ hok.1 r1).1 q1⟩ (ih hok.2 q2)
  have hp := key hok rv rd
  refine PySem.W.sorted_data (R := fun v d => ∃ x, RelV x v ∧ Rep X.K F H x d) (enc := py) (bs := ds) hl.isList (each_paired (Paired.mono hp fun _ _ z => z.1)) (each_paired (Paired.mono hp fun _ _ z => z.2)) hal hso (by rw [← rd.length]; exact hz) (fun b hb => by have := hde b hb; omega) fun out hlen hout => ?_
  obtain ⟨ep, he'⟩ := PyProof.Rows.sortedAll_at s.heap its (List.toArray out)
  have back : ∀ {out : List Value} {ds : List D}, Paired (fun (v : Value) (d : D) => ∃ x, RelV x v ∧ Rep X.K F H x d) out ds → ∃ ys, Vals ys out ∧ Reps X.K F H ys ds := by
    intro out ds h
    induction h with
    | nil => exact ⟨[], .nil, .nil⟩
    | cons h1 h2 ih =>
      obtain ⟨x, e1, e2⟩ := h1
      obtain ⟨ys, e3, e4⟩ := ih
      exact ⟨x :: ys, .cons e1 e3, .cons e2 e4⟩
  obtain ⟨ys, v1, v2⟩ := back (paired_each hout)
  have hl2 : ys.length ≤ sizeLine := by
    rw [v1.length, hlen, ← rd.length]
    exact hz
  exact ⟨.ref _, upd H (s.heap.objs.size + 1) (.lst ys), I.laid (t' := s.toks) (fun _ _ => PyProof.Rows.sortedAll_old) (Nat.le_succ _) ⟨hl2, out, ep, v1, by simpa using he'⟩, rfl, q _ ys (I.hok.fresh (Nat.le_succ _)) v2⟩
theorem c_sortD {p : Addr} {ds : List D} (hp : L p = some (.lst ds)) (hok : okDs ds = true) (hal : PySem.W.AllAlike (ds.map py)) (hso : PySem.W.Sortable (ds.map py)) (hde : ∀ d ∈ ds, (py d).depth ≤ 64) (q : ∀ l, L l = none → Q (.ptr l) (put L l (.lst (ds.mergeSort leD)))) : LcR C (rSortD C.X.K) [.ptr p] L Q := fun F vs H c r0 QV go => by
  obtain ⟨v, rfl, r⟩ := r0.oneE
  obtain ⟨ws, ha, ra, hz⟩ := c.at_ p _ hp
  refine ⟨p, ws, ds, _, by rw [r.ptrE], SqL.of ha, ra, hok, hal, hso, hde, fun l ys hl ry => go _ _ _ (put L l (.lst (ds.mergeSort leD))) (.ptr l) (c.newL hl ⟨ys, upd_same, ry.mono (.new hl), ?_⟩) (.newL hl) (q l (c.free hl))⟩
  rw [List.length_mergeSort]
  exact hz
end
end DL
namespace DL
open PySem PySem.Spec PyProof.Rows L2

/-! ### dicts whose keys are tuples of ints and texts -/
def keyD : Key → D
  | .inl i => .int i
  | .inr x => .str x
def kD (k : List Key) : D := .tup (k.map keyD)
theorem key_rep {K : PySem.W.Frag} {F : Fz} {H : Hp} : ∀ {k : List Key} {vs : List V}, Reps K F H vs (k.map keyD) → vs = k.map kV
  | [], _, .nil => rfl
  | .inl i :: k, _, .cons r t => by
    rw [Rep.intE (show Rep K F H _ (.int i) from r), key_rep t]
    rfl
  | .inr x :: k, _, .cons r t => by
    rw [Rep.strE (show Rep K F H _ (.str x) from r), key_rep t]
    rfl
theorem kD_at {K : PySem.W.Frag} {F : Fz} {H : Hp} {v : V} {k : List Key} (r : Rep K F H v (kD k)) : ∃ b, v = .ref b ∧ H b = some (.tup (k.map kV)) := by
  obtain ⟨b, vs, rfl, hb, ra⟩ := Rep.tupE (show Rep K F H v (.tup (k.map keyD)) from r)
  rw [key_rep ra] at hb
  exact ⟨b, rfl, hb⟩
def valD (kds : List (List Key × D)) (k : List Key) : Option D := (kds.find? fun kv => decide (kv.1 = k)).map (·.2)
def putD (kds : List (List Key × D)) (k : List Key) (v : D) : List (List Key × D) :=
  if kds.any (fun kv => decide (kv.1 = k)) then kds.map fun kv => if kv.1 = k then (kv.1, v) else kv else kds ++ [(k, v)]
abbrev KDs (K : PySem.W.Frag) (F : Fz) (H : Hp) : List (List Key × V) → List (List Key × D) → Prop := Paired fun p q => p.1 = q.1 ∧ Rep K F H p.2 q.2
theorem KDs.val {K : PySem.W.Frag} {F : Fz} {H : Hp} {kvs : List (List Key × V)} {kds : List (List Key × D)} (r : KDs K F H kvs kds) (k : List Key) :
    (valV kvs k = none ∧ valD kds k = none) ∨ ∃ v d, valV kvs k = some v ∧ valD kds k = some d ∧ Rep K F H v d := by
  induction r with
  | nil => exact .inl ⟨rfl, rfl⟩
  | @cons p q ps qs h t ih =>
    obtain ⟨h1, h2⟩ := h
    by_cases e : p.1 = k
    · refine .inr ⟨p.2, q.2, valV_pos e, ?_, h2⟩
      unfold valD
      rw [List.find?_cons_of_pos (by simpa using h1.symm.trans e)]
      rfl
    · have e2 : valD (q :: qs) k = valD qs k := by
        unfold valD
        rw [List.find?_cons_of_neg (by simpa using fun z => e (h1.trans z))]
      rw [valV_neg e, e2]
      exact ih
theorem KDs.any {K : PySem.W.Frag} {F : Fz} {H : Hp} {kvs : List (List Key × V)} {kds : List (List Key × D)} (r : KDs K F H kvs kds) (k : List Key) : (kvs.any fun kv => decide (kv.1 = k)) = kds.any fun kv => decide (kv.1 = k) := by
  induction r with
  | nil => rfl
  | @cons p q ps qs h t ih => rw [List.any_cons, List.any_cons, ih, h.1]
theorem KDs.repl {K : PySem.W.Frag} {F : Fz} {H : Hp} {kvs : List (List Key × V)} {kds : List (List Key × D)} (r : KDs K F H kvs kds) (k : List Key) {v : V} {d : D} (rv : Rep K F H v d) : KDs K F H (kvs.map fun kv => if kv.1 = k then (kv.1, v) else kv) (kds.map fun kv => if kv.1 = k then (kv.1, d) else kv) := by
  induction r with
  | nil => exact .nil
  | @cons p q ps qs h t ih =>
    rw [List.map_cons, List.map_cons]
    refine .cons ?_ ih
    by_cases e : p.1 = k
    · rw [if_pos e, if_pos (h.1.symm.trans e)]
      exact ⟨h.1, rv⟩
    · rw [if_neg e, if_neg (fun z => e (h.1.trans z))]
      exact h
theorem KDs.put {K : PySem.W.Frag} {F : Fz} {H : Hp} {kvs : List (List Key × V)} {kds : List (List Key × D)} (r : KDs K F H kvs kds) (k : List Key) {v : V} {d : D} (rv : Rep K F H v d) : KDs K F H (putK kvs k v) (putD kds k d) := by
  unfold putK putD
  rw [r.any k]
  split
  · exact r.repl k rv
  · exact Paired.snoc r ⟨rfl, rv⟩
theorem KDs.mono {K : PySem.W.Frag} {F F' : Fz} {H H' : Hp} {kvs : List (List Key × V)} {kds : List (List Key × D)} (s : Mv F H F' H') (r : KDs K F H kvs kds) : KDs K F' H' kvs kds := Paired.mono r fun _ _ z => ⟨z.1, z.2.mono s⟩

/-! ### rules by values -/
section
variable {X : Cx}
abbrev rInDT : R2 := fun y x H Q => ∃ a o, x = .ref a ∧ DGet H a y o ∧ Q (.bl o.isSome) H
theorem op_inDT (hu : X.A.units + 1 < cLine) : OpR X (compareOp .In) rInDT := fun pins s σ H x y v u Q I rx ry ⟨a, o, ey, g, q⟩ => by
  subst ey
  obtain rfl : u = Value.ref a := ry
  exact d_in hu I g rx fun s' I' => ⟨.bl _, H, I', rfl, q⟩
abbrev rNotInDT : R2 := fun y x H Q => ∃ a o, x = .ref a ∧ DGet H a y o ∧ Q (.bl (!o.isSome)) H
theorem op_notInDT (hu : X.A.units + 1 < cLine) : OpR X (compareOp .NotIn) rNotInDT := fun pins s σ H x y v u Q I rx ry ⟨a, o, ey, g, q⟩ => by
  subst ey
  obtain rfl : u = Value.ref a := ry
  exact d_notIn hu I g rx fun s' I' => ⟨.bl _, H, I', rfl, q⟩
abbrev rGetDT : R2 := fun x y H Q => ∃ a v, x = .ref a ∧ DGet H a y (some v) ∧ Q v H
abbrev rPutDT : TSet := fun o i v H Q => ∃ a H', o = .ref a ∧ DPut H a i v H' ∧ Q H'
theorem set_DT (hu : X.A.units + 1 < cLine) : PSet X rPutDT := fun pins s σ H o i v ov iv u Q I ro ri rv ⟨a, H', eo, g, q⟩ => by
  subst eo
  obtain rfl : ov = Value.ref a := ro
  exact d_setItem hu I g ri rv fun s' I' => ⟨H', I', q⟩
/-- the keys' tuples, where they stand -/
abbrev KeyRefs (H : Hp) : List Addr → List (List Key) → Prop := Paired fun b k => H b = some (.tup (k.map kV))
theorem keyRefs_of {H : Hp} {kvs : List (List Key × V)} {xs : List (List Key × Addr × Value)} (r : KT H kvs xs) : KeyRefs H (xs.map (·.2.1)) (kvs.map (·.1)) := by
  induction r with
  | nil => exact .nil
  | cons h t ih => exact .cons h.2.1 ih
theorem vals_refs : ∀ as : List Addr, Vals (as.map V.ref) (as.map Value.ref)
  | [] => .nil
  | _ :: as => .cons rfl (vals_refs as)
theorem items_refs {es : Array DictEntry} {acc : Array Value} {xs : List (List Key × Addr × Value)} (hs : es.size = xs.length) (hx : ∀ i (hi : i < es.size), ∃ y, xs[i]? = some y ∧ es[i].key = .ref y.2.1) (hacc : ItemsOf (fun i v => ∃ hi : i < es.size, v = es[i].key) acc es.size) :
    acc.toList = (xs.map (·.2.1)).map Value.ref := by
  apply List.ext_getElem?
  intro i
  by_cases hi : i < es.size
  · obtain ⟨y, h1, h2⟩ := hx i hi
    have hia : i < acc.size := by rw [hacc.1]; exact hi
    obtain ⟨_, hv⟩ := hacc.2 i acc[i] (Array.getElem?_eq_getElem hia)
    rw [Array.getElem?_toList, Array.getElem?_eq_getElem hia, List.getElem?_map, List.getElem?_map, h1, hv, h2]
    rfl
  · rw [List.getElem?_eq_none (by rw [Array.length_toList, hacc.1]; omega), List.getElem?_eq_none (by simp; omega)]
/-- list(d) -/
abbrev rLstDT : List V → Hp → VK → Prop := fun vs H Q => ∃ a kvs, vs = [.ref a] ∧ Rd H a (.dT kvs) ∧ ∀ bs, KeyRefs H bs (kvs.map (·.1)) → ∀ l, H l = none → Q (.ref l) (upd H l (.lst (bs.map V.ref)))
theorem call_listDT (hc : X.calm = true) : CallR X (.type "list") rLstDT := fun pins s σ H vs us Q I r ⟨a, kvs, ev, ha, q⟩ => by
  subst ev
  obtain ⟨u, rfl, ru⟩ := vals1 r
  obtain rfl : u = Value.ref a := ru
  obtain ⟨z, lo, xs, kt, dd⟩ := dt_rd I.hok ha
  obtain ⟨es, ep, raw, hs, hx⟩ := dd.raw
  have hlen : es.size ≤ sizeLine := by rw [hs, ← Paired.length kt]; exact z
  refine PySem.W.kdl_call (KdlSrc.rawDict (ep := ep) (es := es) lo) (I.ok.hd hc) raw hlen fun h' tk acc c hk hS hacc => ?_
  have e := items_refs hs (fun i hi => let ⟨y, h1, h2, _⟩ := hx i hi; ⟨y, h1, h2⟩) hacc
  refine ⟨.ref s.heap.objs.size, _, I.laid (a := s.heap.objs.size) (o := .lst ((xs.map (·.2.1)).map V.ref)) hk (Nat.le_refl _) ⟨?_, (xs.map (·.2.1)).map Value.ref, c, vals_refs _, ?_⟩, rfl, q _ (keyRefs_of kt) _ (I.hok.fresh (Nat.le_refl _))⟩
  · rw [List.length_map, List.length_map, ← Paired.length kt]
    exact z
  · rw [hS, ← e]
/-- sorted(d): the keys, in order -/
theorem kD_rep {K : PySem.W.Frag} {F : Fz} {H : Hp} {b : Addr} {k : List Key} (h : H b = some (.tup (k.map kV))) (hk : KOk k) : Rep K F H (.ref b) (kD k) := by
  refine Rep.tupI h (Reps.of_get (by simp) fun i v d h1 h2 => ?_) (by rw [List.length_map]; exact hk.len)
  rw [List.getElem?_map] at h1 h2
  cases e : k[i]? with
  | none =>
    rw [e] at h1
    cases h1
  | some x =>
    rw [e] at h1 h2
    cases h1
    cases h2
    cases x with
    | inl n => exact .int n
    | inr z => exact .str z (hk.txt z (List.mem_of_getElem? e))
theorem reps_keys {K : PySem.W.Frag} {F : Fz} {H : Hp} : ∀ {bs : List Addr} {ks : List (List Key)}, KeyRefs H bs ks → (∀ k ∈ ks, KOk k) → Reps K F H (bs.map V.ref) (ks.map kD)
  | _, _, .nil, _ => .nil
  | _, _, .cons h t, hk => .cons (kD_rep h (hk _ List.mem_cons_self)) (reps_keys t fun k hm => hk k (List.mem_cons_of_mem _ hm))
abbrev rSortDT (K : PySem.W.Frag) : List V → Hp → VK → Prop := fun vs H Q => ∃ (a : Addr) (kvs : List (List Key × V)) (ds : List D) (F : Fz), vs = [.ref a] ∧ Rd H a (.dT kvs) ∧ ds = kvs.map (fun p => kD p.1) ∧ (∀ p ∈ kvs, KOk p.1) ∧ okDs ds = true ∧ PySem.W.AllAlike (ds.map py) ∧ PySem.W.Sortable (ds.map py) ∧ (∀ d ∈ ds, (py d).depth ≤ 64) ∧
  ∀ p ys, H p = none → Reps K F H ys (ds.mergeSort leD) → Q (.ref p) (upd H p (.lst ys))
theorem cr_sortDT (hc : X.calm = true) (hu : X.A.units + 100 < cLine) : CallR X (.builtin "sorted") (rSortDT X.K) := fun pins s σ H vs us Q I r ⟨a, kvs, ds, F, ev, ha, eds, hKs, hok, hal, hso, hde, q⟩ => by
  subst ev
  obtain ⟨u, rfl, ru⟩ := vals1 r
  obtain rfl : u = Value.ref a := ru
  obtain ⟨z, lo, xs, kt, dd⟩ := dt_rd I.hok ha
  obtain ⟨es, ep, raw, hs, hx⟩ := dd.raw
  have hlen : es.size ≤ sizeLine := by rw [hs, ← Paired.length kt]; exact z
  have kr := keyRefs_of kt
  have rd : Reps X.K F H ((xs.map (·.2.1)).map V.ref) ds := by
    have e : ds = (kvs.map (·.1)).map kD := by rw [eds, List.map_map]; rfl
    rw [e]
    refine reps_keys kr fun k hk => ?_
    obtain ⟨p, hp, rfl⟩ := List.mem_map.mp hk
    exact hKs p hp
  refine PySem.Calls.call_function_entry PyProof.Rows.kind_sorted PyProof.Rows.plain_sorted PyProof.Rows.entry_sorted (PyProof.Rows.args_sorted1 _) ?_
  unfold Builtin.«sorted»
  refine wpAny_bind (m := checkCount "sorted" 1 1 _) (wpAny_pure ?_)
  refine wpAny_bind (PySem.W.kdu_collect (A := X.A.in1) (KdlSrc.rawDict (ep := ep) (es := es) lo) (I.ok.hd hc) raw hlen fun h' tk acc hk hacc => ?_)
  have e := items_refs hs (fun i hi => let ⟨y, h1, h2, _⟩ := hx i hi; ⟨y, h1, h2⟩) hacc
  have I1 : Inv X pins σ H { s with heap := h', toks := tk } := I.kept hk
  have key : ∀ {vs : List V} {its : List Value} {ds : List D}, okDs ds = true → Vals vs its → Reps X.K F H vs ds → Paired (fun (v : Value) (d : D) => (∃ x, RelV x v ∧ Rep X.K F H x d) ∧ ∃ as, Reads h' v (py d) as) its ds := by
    intro vs its ds hok rv rd
    induction rd generalizing its with
    | nil => cases rv; exact .nil
    | cons r1 r2 ih =>
      rw [okDs, Bool.and_eq_true] at hok
      cases rv with
      | cons q1 q2 => exact .cons ⟨⟨_, q1, r1⟩, Dp.reads I1 _ _ _ (Rep.dp _ _ hok.1 r1).1 q1⟩ (ih hok.2 q2)
  have hp := key hok (vals_refs (xs.map (·.2.1))) rd
  rw [← e] at hp
  have hl3 : acc.toList.length ≤ sizeLine := by rw [Array.length_toList, hacc.1]; exact hlen
  refine wpAny_bind (wpAny_newList ?_ hl3)
  have hoL : (h'.push (seqObj "list" acc.toList.toArray 0)).get? h'.objs.size = some (seqObj "list" acc.toList.toArray 0) := Heap.get?_push_size _ rfl
  have er : PySem.W.EachIs (fun v d => ∃ as, Reads (h'.push (seqObj "list" acc.toList.toArray 0)) v (py d) as ∧ h'.objs.size ∉ as) acc.toList ds := by
    refine each_paired (Paired.mono hp fun v d zz => ?_)
    obtain ⟨as, ra⟩ := zz.2
    refine ⟨as, PyProof.Rows.Reads.keeps (fun _ _ => Heap.get?_push_of_some _) ra, fun hm => ?_⟩
    obtain ⟨o, ho⟩ := PyProof.On.reads_mem_get ra _ hm
    exact absurd (Heap.lt_size ho) (Nat.lt_irrefl _)
  show wpAny _ _ _ _ _ { s with heap := h'.push (seqObj "list" acc.toList.toArray 0), toks := tk }
  refine wpAny_bind (wpAny_holding (PySem.W.list_sort_data (s := { s with heap := h'.push (seqObj "list" acc.toList.toArray 0), toks := tk }) (R := fun v d => ∃ x, RelV x v ∧ Rep X.K F H x d) (enc := py) (bs := ds) (n := 0) hoL (each_paired (Paired.mono hp fun _ _ z => z.1)) er hal hso (by
    rw [← rd.length, List.length_map, List.length_map, ← Paired.length kt]; exact z) (fun b hb => by have := hde b hb; show X.A.units + 1 + 1 + _ < _; omega) fun out hlo hout => ?_))
  have back : ∀ {out : List Value} {ds : List D}, Paired (fun (v : Value) (d : D) => ∃ x, RelV x v ∧ Rep X.K F H x d) out ds → ∃ ys, Vals ys out ∧ Reps X.K F H ys ds := by
    intro out ds h
    induction h with
    | nil => exact ⟨[], .nil, .nil⟩
    | cons h1 h2 ih =>
      obtain ⟨x, e1, e2⟩ := h1
      obtain ⟨ys, e3, e4⟩ := ih
      exact ⟨x :: ys, .cons e1 e3, .cons e2 e4⟩
  obtain ⟨ys, v1, v2⟩ := back (paired_each hout)
  obtain ⟨e', he'⟩ := PyProof.Rows.sortedHeap_at (vs := acc.toList) (out := List.toArray out) hoL
  have hl4 : ys.length ≤ sizeLine := by
    rw [v1.length, hlo, ← rd.length, List.length_map, List.length_map, ← Paired.length kt]
    exact z
  refine wpAny_pure ⟨_, rfl, .ref h'.objs.size, upd H h'.objs.size (.lst ys), I1.laid (t' := tk) (fun b u eb => ?_) (Nat.le_refl _) ⟨hl4, out, e', v1, by simpa using he'⟩, rfl, q _ ys (I1.hok.fresh (Nat.le_refl _)) v2⟩
  have hb : b < h'.objs.size := Heap.lt_size eb
  rw [PyProof.Rows.sortedHeap_old (Nat.ne_of_lt hb) (by rw [size_push']; exact Nat.lt_succ_of_lt hb)]
  exact Heap.get?_push_of_some _ eb
end
end DL
namespace DL
open PySem PySem.Spec PyProof.Rows L2
/-- pairs stored one behind the other -/
def mergeT (kvs more : List (List Key × V)) : List (List Key × V) := more.foldl (fun acc kv => putK acc kv.1 kv.2) kvs
def mergeD (kds more : List (List Key × D)) : List (List Key × D) := more.foldl (fun acc kv => putD acc kv.1 kv.2) kds
theorem mergeT_len : ∀ (more kvs : List (List Key × V)), (mergeT kvs more).length ≤ kvs.length + more.length
  | [], kvs => Nat.le_refl _
  | p :: more, kvs => by
    have h1 := mergeT_len more (putK kvs p.1 p.2)
    have h2 := length_putK kvs p.1 p.2
    show (mergeT (putK kvs p.1 p.2) more).length ≤ _
    rw [List.length_cons]
    omega
theorem KT.merge {H : Hp} : ∀ {q : List (List Key × Addr × V)} {ps : List (List Key × Addr × Value)} {kvs : List (List Key × V)} {xs : List (List Key × Addr × Value)}, Paired (fun x p => x.1 = p.1 ∧ x.2.1 = p.2.1 ∧ RelV x.2.2 p.2.2 ∧ H x.2.1 = some (.tup (x.1.map kV))) q ps → KT H kvs xs →
    KT H (mergeT kvs (q.map fun x => (x.1, x.2.2))) (storedAllH xs ps)
  | _, _, _, _, .nil, r => r
  | _, _, kvs, xs, .cons (a := x) (b := p) h t, r => by
    obtain ⟨h1, h2, h3, h4⟩ := h
    have h5 : H p.2.1 = some (.tup (x.1.map kV)) := by rw [← h2]; exact h4
    have r2 := r.put x.1 h5 h3
    rw [h1] at r2
    have := KT.merge t r2
    rw [← h1] at this
    rw [h1] at this
    show KT H (mergeT (putK kvs x.1 x.2.2) _) (storedAllH (storedH xs p.1 p.2.1 p.2.2) _)
    rw [h1]
    exact this
theorem KDs.merge {K : PySem.W.Frag} {F : Fz} {H : Hp} : ∀ {more : List (List Key × V)} {mds : List (List Key × D)} {kvs : List (List Key × V)} {kds : List (List Key × D)}, KDs K F H more mds → KDs K F H kvs kds → KDs K F H (mergeT kvs more) (mergeD kds mds)
  | _, _, _, _, .nil, r => r
  | _, _, kvs, kds, .cons (a := p) (b := q) h t, r => by
    show KDs K F H (mergeT (putK kvs p.1 p.2) _) (mergeD (putD kds q.1 q.2) _)
    rw [← h.1]
    exact KDs.merge t (r.put p.1 h.2)

section
variable {X : Cx}
abbrev PairsAtT (H : Hp) : List Addr → List (List Key × Addr × V) → Prop := Paired fun t x => H t = some (.tup [.ref x.2.1, x.2.2]) ∧ H x.2.1 = some (.tup (x.1.map kV))
abbrev rDictPT (K : PySem.W.Frag) : List V → Hp → VK → Prop := fun vs H Q => ∃ (a : Addr) (ts : List Addr) (q : List (List Key × Addr × V)), vs = [.ref a] ∧ SqL K H a (ts.map V.ref) ∧ PairsAtT H ts q ∧ ∀ d, H d = none → Q (.ref d) (upd H d (.dT (mergeT [] (q.map fun x => (x.1, x.2.2)))))
theorem pairs_valT {pins : List (Addr × Obj)} {σ : L2.St} {H : Hp} {s : Shared} (I : Inv X pins σ H s) : ∀ {ts : List Addr} {q : List (List Key × Addr × V)}, PairsAtT H ts q →
    ∃ ps : List (List Key × Addr × Value), Paired (fun x p => x.1 = p.1 ∧ x.2.1 = p.2.1 ∧ RelV x.2.2 p.2.2 ∧ H x.2.1 = some (.tup (x.1.map kV))) q ps ∧ Paired (fun t (p : List Key × Addr × Value) => IsTup s.heap t #[.ref p.2.1, p.2.2]) ts ps
  | _, _, .nil => ⟨[], .nil, .nil⟩
  | _, _, .cons (b := x) h t => by
    obtain ⟨ps, h1, h2⟩ := pairs_valT I t
    obtain ⟨its, rv, tp, _⟩ := I.tuple (SqT.of h.1)
    obtain ⟨u1, u2, e, r1, r2⟩ := vals2 rv
    subst e
    obtain rfl : u1 = Value.ref x.2.1 := r1
    exact ⟨(x.1, x.2.1, u2) :: ps, .cons ⟨rfl, rfl, r2, h.2⟩ h1, .cons tp h2⟩
theorem call_dictPT (hc : X.calm = true) (hu : X.A.units + 100 < cLine) : CallR X (.type "dict") (rDictPT X.K) := fun pins s σ H vs us Q I r ⟨a, ts, q, ev, hq, hp, k⟩ => by
  subst ev
  obtain ⟨u, rfl, ru⟩ := vals1 r
  obtain rfl : u = Value.ref a := ru
  obtain ⟨its, rv, pl, hz⟩ := I.list hq
  have ei := refs_at rv
  subst ei
  rw [List.length_map] at hz
  obtain ⟨ps, h1, h2⟩ := pairs_valT I hp
  have l1 : ts.length = ps.length := Paired.length h2
  have l2 : q.length = ps.length := Paired.length h1
  obtain ⟨o, n, ho, hcl, hdi, hdat⟩ := pl
  have at2 : ∀ (j : Nat) (p : List Key × Addr × Value), ps[j]? = some p → ∃ t, ts[j]? = some t ∧ IsTup s.heap t #[.ref p.2.1, p.2.2] := by
    intro j p hj
    have : ∀ {ts : List Addr} {ps : List (List Key × Addr × Value)}, Paired (fun t (p : List Key × Addr × Value) => IsTup s.heap t #[.ref p.2.1, p.2.2]) ts ps → ∀ (j : Nat) (p : List Key × Addr × Value), ps[j]? = some p → ∃ t, ts[j]? = some t ∧ IsTup s.heap t #[.ref p.2.1, p.2.2] := by
      intro ts ps h
      induction h with
      | nil => intro j p hj; simp at hj
      | cons h t ih =>
        intro j p hj
        cases j with
        | zero =>
          have e := Option.some.inj (show some _ = some p from hj)
          subst e
          exact ⟨_, rfl, h⟩
        | succ j => exact ih j p (by simpa using hj)
    exact this h2 j p hj
  refine call_dict_pairsH (knd := tupleKind (mixKind X.prog X.w)) (ps := ps) (PairArg.list a ((ts.map Value.ref).toArray) (fun j => ts.getD j 0) (ps.map fun p => (Value.ref p.2.1, p.2.2))) (I.ok.hd hc) ?_ ⟨⟨o, n, ho, hcl, hdi, hdat⟩, ?_, ?_⟩ ⟨?_, ?_⟩ ?_ ?_ fun h' tk dd hk => ?_
  · exact tupleKind_room_in1 (show X.A.in1.units + 1 < cLine by show X.A.units + 1 + 1 < cLine; omega)
  · simp [l1]
  · intro j kk v hj
    rw [List.getElem?_map] at hj
    cases e : ps[j]? with
    | none =>
      rw [e] at hj
      cases hj
    | some p =>
      rw [e] at hj
      cases hj
      obtain ⟨t, e1, e2⟩ := at2 j p e
      have e3 : ts.getD j 0 = t := by rw [List.getD_eq_getElem?_getD, e1]; rfl
      show _ = some (Value.ref (ts.getD j 0)) ∧ PairAt s.heap (ts.getD j 0) _ _
      rw [e3]
      refine ⟨by simp [e1], .inl e2⟩
  · simp
  · intro i key v hr
    have hr : (ps.map fun p => (Value.ref p.2.1, p.2.2))[i]? = some (key, v) := hr
    rw [List.getElem?_map] at hr
    cases e : ps[i]? with
    | none =>
      rw [e] at hr
      cases hr
    | some p =>
      rw [e] at hr
      cases hr
      exact ⟨p.1, p.2.1, rfl, rfl⟩
  · intro h' hk x hx
    have hm : ∀ {q : List (List Key × Addr × V)} {ps : List (List Key × Addr × Value)}, Paired (fun x p => x.1 = p.1 ∧ x.2.1 = p.2.1 ∧ RelV x.2.2 p.2.2 ∧ H x.2.1 = some (.tup (x.1.map kV))) q ps → ∀ p ∈ ps, H p.2.1 = some (.tup (p.1.map kV)) := by
      intro q ps h
      induction h with
      | nil => intro p hp; cases hp
      | cons h t ih =>
        intro p hp
        rcases List.mem_cons.mp hp with e | hp
        · subst e
          rw [← h.1, ← h.2.1]
          exact h.2.2.2
        · exact ih p hp
    have k0 : (tupleKind (mixKind X.prog X.w)).is s.heap x.1 x.2.1 := key_of I.hok (hm h1 x hx)
    obtain ⟨o', its', n', g1, g2⟩ := k0
    exact ⟨o', its', n', hk _ _ (Nat.ne_of_lt (Heap.lt_size g1)) (by simp) g1, g2⟩
  · rw [List.length_map, ← l1]
    exact hz
  · have hm : (s.heap.objs.size == sysModules) = false := beq_eq_false_iff_ne.mpr (Nat.ne_of_gt I.big)
    obtain ⟨o', es, ep, g1, g2, g3, g4, _, g5⟩ := dd
    have hn := I.hok.fresh (Nat.le_refl s.heap.objs.size)
    have hlen : (mergeT [] (q.map fun x => (x.1, x.2.2))).length ≤ sizeLine := by
      refine Nat.le_trans (mergeT_len _ _) ?_
      rw [List.length_nil, List.length_map, Nat.zero_add, l2, ← l1]
      exact hz
    refine ⟨.ref s.heap.objs.size, _, I.laid (t' := tk) (o := .dT (mergeT [] (q.map fun x => (x.1, x.2.2)))) (fun b u eb => hk b u (by simp) eb) (Nat.le_refl _) ⟨hlen, hm, storedAllH [] ps, ?_, o', es, ep, g1, g2, g3, g4, g5⟩, rfl, k _ hn⟩
    exact KT.keeps (KT.merge h1 .nil) fun c ys ec => by
      rw [upd_ne (ne_of_none ec hn)]
      exact ec
end
end DL
namespace DL
open PySem PySem.Spec PyProof.Rows L2

/-! ### sets of texts -/
section
variable {P : Program} {w : World} {h h' : Heap} {a : Addr} {S : Str → Bool} {n : Nat}
theorem SetX.at (R : SetX w h a S n) (k : ∀ o, h.get? a = some o → h'.get? a = some o) : SetX w h' a S n := by
  obtain ⟨ob, es, ep, tb, hob, rest⟩ := R
  exact ⟨ob, es, ep, tb, k ob hob, rest⟩
theorem SetX.congr {S' : Str → Bool} (R : SetX w h a S n) (e : ∀ k, S' k = S k) : SetX w h a S' n := by
  obtain rfl : S' = S := funext e
  exact R
theorem txE_elems {l : List (Int × Value)} (g : ∀ e ∈ l, TxE w e) : ElemsOf (strKind P w) l := fun e he => by
  obtain ⟨k, tk, e1, e2⟩ := g e he
  exact ⟨⟨k, by rw [e1]; exact Froz.is_str k tk, e2⟩, by rw [e1] <;> rfl⟩
theorem txE_is {e : Int × Value} (g : TxE w e) (k : Str) : (strKind P w).is k e.2 = true ↔ txOf e = k := by
  obtain ⟨k0, tk, e1, _⟩ := g
  unfold txOf
  rw [e1]
  show ((k0 == k) = true) ↔ k0 = k
  exact beq_iff_eq
theorem txE_mem {l : List (Int × Value)} (g : ∀ e ∈ l, TxE w e) (k : Str) : k ∈ l.map txOf ↔ ∃ e ∈ l, (strKind P w).is k e.2 = true := by
  rw [List.mem_map]
  exact ⟨fun ⟨e, he, q⟩ => ⟨e, he, (txE_is (g e he) k).2 q⟩, fun ⟨e, he, q⟩ => ⟨e, he, (txE_is (g e he) k).1 q⟩⟩
theorem SetX.setOf (R : SetX w h a S n) : h.SetOf (strKind P w) a S n := by
  obtain ⟨ob, es, ep, tb, hob, hx, hd, g, nd, hm, hb, hf, hn, _⟩ := R
  exact ⟨ob, es, ep, tb, hob, hx, hd, txE_elems g, fun k => (hm k).trans (txE_mem g k), hb, hf, hn⟩
end
section
variable {P : Program} {w : World} {A : Around} {E : Value → Shared → Prop} {s : Shared} {a : Addr} {S : Str → Bool} {n : Nat}
theorem setX_tail {g : Bool → Sem Unit} (hg : ∀ (b : Bool) (s₁ : Shared) (Z : Unit → Shared → Prop), Z () s₁ → wpAny (model P w) A (g b) Z E s₁)
    {ob : Obj} {es : Array (Int × Value)} {ep : Nat} {tb : SetTable} (hob : s.heap.get? a = some ob) (hex : ob.ExactSet) (hd : ob.data = .set es ep tb)
    {fs : Array (Int × Value)} {t2 : SetTable} {S' : Str → Bool} (g1 : ∀ e ∈ fs.toList, TxE w e) (nd1 : (fs.toList.map txOf).Nodup) (m1 : ∀ k, S' k = true ↔ k ∈ fs.toList.map txOf)
    (hb1 : fs.size < scanBound) (hf2 : t2.fits fs.size = true) (hr : Ris t2.place.toList) (hl : w.params.followText "set-order" = true ∨ t2.led = true) {wasDummy : Bool} {R : Option Bool → Shared → Prop}
    (hR : ∀ h', Heap.SameBut a s.heap h' → SetX w h' a S' fs.size → R (some true) { s with heap := h' }) :
    wpAny (model P w) A (do
        storeSet a fs t2
        if (!wasDummy && t2.tooFull) = true then do
            g (relayAll t2 fs (SetTable.grown fs.size)).2.2
            storeSet a (relayAll t2 fs (SetTable.grown fs.size)).1 (relayAll t2 fs (SetTable.grown fs.size)).2.1
            pure (some true)
          else pure (some true)) R E s := by
  refine wpAny_bind (wpAny_storeSet_of hob hd ?_ (fits_of_scanBound hb1))
  have ob1 := L2.store_at (es' := fs) (t' := t2) hob hd
  have sm1 := Heap.SameBut.update s.heap a (Obj.putSet fs t2)
  split
  · have pm := relayAll_perm t2 fs (SetTable.grown fs.size)
    have f3 := relayAll_fits t2 fs (SetTable.grown fs.size)
    have r3 := relayAll_ris t2 fs (SetTable.grown fs.size)
    have l3 := relayAll_led t2 fs (SetTable.grown fs.size)
    generalize relayAll t2 fs (SetTable.grown fs.size) = Z at pm f3 r3 l3 ⊢
    obtain ⟨es2, t3, gave⟩ := Z
    dsimp only at pm f3 r3 l3 ⊢
    have hsz : es2.size = fs.size := by rw [← Array.length_toList, pm.length_eq, Array.length_toList]
    have hb2 : es2.size < scanBound := hsz ▸ hb1
    refine wpAny_bind (hg _ _ _ ?_)
    refine wpAny_bind (wpAny_storeSet_of ob1 rfl ?_ (fits_of_scanBound hb2))
    have ob2 := L2.store_at (es' := es2) (t' := t3) ob1 rfl
    refine wpAny_pure (hR _ (sm1.trans (Heap.SameBut.update _ a _)) ?_)
    exact ⟨_, es2, _, t3, ob2, hex, rfl, fun e he => g1 e (pm.mem_iff.mp he), (pm.map txOf).nodup_iff.mpr nd1, fun k => (m1 k).trans (pm.map txOf).mem_iff.symm, hb2, f3, hsz, r3,
      hl.imp id fun z => by rw [l3]; exact z⟩
  · exact wpAny_pure (hR _ sm1 ⟨_, fs, _, t2, ob1, hex, rfl, g1, nd1, m1, hb1, hf2, rfl, hr, hl⟩)
theorem setX_addH {k : Str} {tk : Tok} {Q : Bool → Shared → Prop} (R : SetX w s.heap a S n) (room : n + 1 < scanBound)
    (hQ : ∀ h', Heap.SameBut a s.heap h' → SetX w h' a (fun j => S j || decide (j = k)) (if S k = true then n else n + 1) → Q (!S k) { s with heap := h' }) :
    wpAny (model P w) A (setAddHashed a (.str k tk) ((strKind P w).hash k)) Q E s := by
  obtain ⟨ob, es, ep, tb, hob, hex, hd, g, nd, hm, hb, hf, hn, hr, hl⟩ := R
  have hkey : (strKind P w).is k (.str k tk) = true := Froz.is_str k tk
  have hsc : (Value.str k tk).scannable = true := rfl
  have hel : ElemsOf (strKind P w) es.toList := txE_elems g
  unfold setAddHashed setAddHashedIn
  refine wpAny_holding (wpAny_bind (wpAny_setState_of hob hd hf ?_))
  dsimp only
  rw [byScan_of hsc hb hel]
  simp only [↓reduceIte]
  unfold setAddByScan
  refine wpAny_bind ?_
  refine wpAny_bind (wpAny_rule ?_)
  refine wpAny_bind (wpAny_setScan_of hkey hob hd hf hel ?_)
  cases hfi : List.findIdx? (fun e => (strKind P w).is k e.2) es.toList with
  | some j =>
    dsimp only
    obtain ⟨hj, pj, _⟩ := List.findIdx?_eq_some_iff_getElem.mp hfi
    have inS : S k = true := (hm k).2 ((txE_mem (P := P) g k).2 ⟨es.toList[j], List.getElem_mem hj, pj⟩)
    refine wpAny_pure (wpAny_pure ?_)
    have q := hQ s.heap (Heap.SameBut.refl a s.heap) ⟨ob, es, ep, tb, hob, hex, hd, g, nd, fun i => by
      rw [Bool.or_eq_true, decide_eq_true_eq, ← hm i]
      exact ⟨fun z => z.elim id (fun e => e ▸ inS), .inl⟩, hb, hf, by rw [if_pos inS]; exact hn, hr, hl⟩
    rw [inS] at q
    exact q
  | none =>
    dsimp only
    have hnk : k ∉ es.toList.map txOf := fun z => by
      obtain ⟨e, he, q⟩ := (txE_mem (P := P) g k).1 z
      have c := List.findIdx?_eq_none_iff.mp hfi e he
      rw [q] at c
      cases c
    have notS : S k = false := by
      cases q : S k with
      | false => rfl
      | true => exact absurd ((hm k).1 q) hnk
    have hgw : ∀ (b : Bool) {s₁ : Shared} {Z : Unit → Shared → Prop}, Z () s₁ → wpAny (model P w) A (match b with | true => rule "set.scan.the-table-gave-way" | false => pure ()) Z E s₁ :=
      fun b s₁ Z q => by cases b <;> first | exact wpAny_pure q | exact wpAny_rule q
    have pm := layNew_perm tb es ((strKind P w).hash k) (.str k tk)
    have f1 := layNew_fits tb es ((strKind P w).hash k) (.str k tk)
    have r1 := layNew_ris tb es ((strKind P w).hash k) (.str k tk) hr
    have l1 := layNew_led tb es ((strKind P w).hash k) (.str k tk)
    generalize layNew tb es ((strKind P w).hash k) (.str k tk) = Z at pm f1 r1 l1 ⊢
    obtain ⟨fs, t1, wasDummy, gave⟩ := Z
    dsimp only at pm f1 r1 l1 ⊢
    rw [Array.toList_push] at pm
    have pc : fs.toList.Perm (((strKind P w).hash k, Value.str k tk) :: es.toList) := pm.trans (List.perm_append_singleton _ _)
    have pk : (fs.toList.map txOf).Perm (k :: es.toList.map txOf) := pc.map txOf
    have g1 : ∀ e ∈ fs.toList, TxE w e := fun e he => by
      rcases List.mem_cons.mp (pc.mem_iff.mp he) with z | z
      · rw [z]; exact ⟨k, tk, rfl, rfl⟩
      · exact g e z
    have nd1 : (fs.toList.map txOf).Nodup := pk.nodup_iff.mpr (List.nodup_cons.mpr ⟨hnk, nd⟩)
    have m1 : ∀ i, (S i || decide (i = k)) = true ↔ i ∈ fs.toList.map txOf := fun i => by
      rw [Bool.or_eq_true, decide_eq_true_eq, hm i, pk.mem_iff, List.mem_cons]
      exact Or.comm
    have hsz : fs.size = n + 1 := by rw [← Array.length_toList, pc.length_eq, List.length_cons, Array.length_toList, hn]
    have hb1 : fs.size < scanBound := hsz ▸ room
    have hled : w.params.followText "set-order" = true ∨ t1.led = true := hl.imp id fun z => by rw [l1]; exact z
    have fin : ∀ h', Heap.SameBut a s.heap h' → SetX w h' a (fun j => S j || decide (j = k)) fs.size → Q true { s with heap := h' } := fun h' sb r => by
      have q := hQ h' sb
      rw [notS] at q
      rw [hsz] at r
      exact q r
    refine wpAny_bind (hgw _ ?_)
    split
    · refine wpAny_bind ?_
      rw [hashByValue_scannable 8 hsc]
      refine wpAny_pure ?_
      refine setX_tail ?_ hob hex hd g1 nd1 m1 hb1 ?_ ?_ ?_ ?_
      · intro b s₁ Z q; cases b <;> first | exact wpAny_pure q | exact wpAny_rule q
      · first | (split <;> first | exact f1 | exact SetTable.fits_plain_off f1) | exact f1
      · first | (split <;> exact r1) | exact r1
      · first | (split <;> exact hled) | exact hled
      · intro h' sb r; dsimp only; exact wpAny_pure (fin h' sb r)
    · refine wpAny_bind (wpAny_pure ?_)
      simp only [↓reduceIte]
      refine setX_tail ?_ hob hex hd g1 nd1 m1 hb1 f1 r1 hled ?_
      · intro b s₁ Z q; cases b <;> first | exact wpAny_pure q | exact wpAny_rule q
      · intro h' sb r; dsimp only; exact wpAny_pure (fin h' sb r)
theorem setX_fresh {h : Heap} (ho : h.get? a = some { cls := .type "set", dict := none, data := .set #[] 0 (.fresh 0 0 (!w.params.followText "set-order")) }) : SetX w h a (fun _ => false) 0 :=
  ⟨_, #[], 0, _, ho, ⟨rfl, rfl, rfl⟩, rfl, (fun e he => by simp at he), (by simp), (fun k => by simp), (by decide), (by rfl), rfl, List.Pairwise.nil, by
    show _ ∨ (!w.params.followText "set-order") = true
    cases w.params.followText "set-order"
    · exact .inr rfl
    · exact .inl rfl⟩
/-- the loop that fills it -/
theorem setX_loop {I : Addr} {fp wr : List Addr} {G : Array GenState → Array GenState → Prop} {n : Nat} {Pv : Nat → Value → Prop} {St : Nat → Shared → Prop} {R : Result → Shared → Prop}
    (W : WalksS P w A.in1 I fp wr G n Pv St) (D : Addr) (hDf : D ∉ fp) (xs : List Str) (hn : n = xs.length) (hb : xs.length + 1 < scanBound) (hval : ∀ i v, Pv i v → ∃ k t, xs[i]? = some k ∧ v = .str k t) :
    ∀ (k i : Nat) (s : Shared), n - i = k → i ≤ n → St i s → (∃ c, c ≤ i ∧ SetX w s.heap D (fun j => decide (j ∈ xs.take i)) c) →
      (∀ s' c, Moved (D :: wr) G s s' → c ≤ n → SetX w s'.heap D (fun j => decide (j ∈ xs)) c → R (.ok (.ret .none)) s') →
      codeAny (model P w) A (.builtin "set.update.loop" ⟨[.ref D, .ref I], []⟩) R s := by
  have hDw : D ∉ wr := fun z => hDf (W.sub _ z)
  have hsub : ∀ b ∈ wr, b ∈ D :: wr := fun b z => List.mem_cons_of_mem _ z
  intro k
  induction k with
  | zero =>
    intro i s hk' hi hst ⟨c, hc, hS⟩ hR
    obtain rfl : i = n := by omega
    refine codeAny_builtin PyProof.Rows.F.entry_set_update_loop ?_
    rw [Around.under_plainId PyProof.Rows.F.plain_set_update_loop _]
    show wpAny _ A.in1 (pyNext (.ref I) >>= _) _ _ s
    refine wpAny_bind (W.done s _ _ hst fun s' hm => ?_)
    show wpAny _ A.in1 (ret Value.none) _ _ s'
    rw [List.take_of_length_le (by omega : xs.length ≤ i)] at hS
    exact wpAny_pure (hR s' c (hm.mono hsub) hc (hS.at fun o e => hm.heap D o hDw e))
  | succ k ih =>
    intro i s hk' hi hst ⟨c, hc, hS⟩ hR
    have hlt : i < n := by omega
    refine codeAny_builtin PyProof.Rows.F.entry_set_update_loop ?_
    rw [Around.under_plainId PyProof.Rows.F.plain_set_update_loop _]
    show wpAny _ A.in1 (pyNext (.ref I) >>= _) _ _ s
    refine wpAny_bind (W.item i s _ _ hlt hst fun v s' hP hst' hm => ?_)
    obtain ⟨z, t, hz, rfl⟩ := hval i v hP
    have hS' : SetX w s'.heap D (fun j => decide (j ∈ xs.take i)) c := hS.at fun o e => hm.heap D o hDw e
    show wpAny _ A.in1 (holding [Value.str z t] (setAdd D (.str z t)) >>= _) _ _ s'
    refine wpAny_bind (wpAny_holding ?_)
    unfold setAdd
    refine wpAny_holding ?_
    refine wpAny_bind ((strKind P w).pyHash (k := z) (Froz.is_str _ _) ?_)
    refine setX_addH (s := { s' with toks := s'.toks + 1 }) hS' (by omega) fun h' hsb hS2 => ?_
    have hS3 : SetX w h' D (fun j => decide (j ∈ xs.take (i + 1))) (if decide (z ∈ xs.take i) = true then c else c + 1) := hS2.congr fun j => by
      rw [List.take_add_one, hz]
      simp [List.mem_append]
    have hc3 : (if decide (z ∈ xs.take i) = true then c else c + 1) ≤ i + 1 := by
      split <;> omega
    refine wpAny_pure ⟨plainId_quiet PyProof.Rows.F.plain_set_update_loop _, ih (i + 1) _ (by omega) hlt (W.frame _ s' _ _ hst' (Nat.le_succ _) fun b hb o e => ?_) ⟨_, hc3, hS3⟩ fun s'' c2 hm'' hc'' hS'' => ?_⟩
    · rw [hsb.2 b (fun q : b = D => hDf (by rw [← q]; exact hb))]; exact e
    · refine hR s'' c2 (Moved.trans W.gtrans ((hm.mono hsub).then_heap (Nat.le_succ _) fun b o hb e => ?_) hm'') hc'' hS''
      rw [hsb.2 b (fun q : b = D => hb (by rw [q]; exact List.mem_cons_self))]; exact e
end
end DL
namespace DL
open PySem PySem.Spec PyProof.Rows L2

/-! ### {k: v for .. in ..}, the keys tuples -/
section
variable {X : Cx}
theorem dtSet {pins : List (Addr × Obj)} {σ : L2.St} {H : Hp} {s : Shared} {E : Value → Shared → Prop} {dd b : Addr} {kvs : List (List Key × V)} {k : List Key} {v : V} {r : Value} {Q : Unit → Shared → Prop} (hu : X.A.units < cLine) (I : Inv X pins σ H s) (hD : H dd = some (.dT kvs)) (hz : kvs.length < sizeLine)
    (hk : H b = some (.tup (k.map kV))) (rv : RelV v r) (h : ∀ s', Inv X pins σ (upd H dd (.dT (putK kvs k v))) s' → Q () s') : wpAny (model X.prog X.w) X.A (dictSet dd (.ref b) r) Q E s := by
  obtain ⟨z, hd, xs, rel, ob⟩ := dt_of I.hok hD
  have hl : (putK kvs k v).length ≤ sizeLine := by have := length_putK kvs k v; omega
  have hxl : xs.length ≤ sizeLine := by rw [← Paired.length rel]; exact z
  refine wpAny_dictSet_heap (hsz := hxl) (knd := tupleKind (mixKind X.prog X.w)) hu (key_of I.hok hk) ob fun h' ob' hs => h _ ?_
  obtain ⟨q, es, ep, g1, g2, g3, g4, _, g5⟩ := ob'
  refine d_write I (by rw [hD]; exact True.intro) hs ⟨q, g1⟩ ⟨hl, hd, _, (rel.put k hk rv).keeps fun c ys ec => ?_, q, es, ep, g1, g2, g3, g4, g5⟩
  rw [upd_ne (ne_of ec hD (fun z => nomatch z))]
  exact ec
abbrev BX (X : Cx) (scope : Scope) (s : Shared) (H : Hp) (C : Addr) (cl : List (Str × Addr)) (fp : List Addr) : Cx := X.blk s H scope (compEnvC scope cl C X.env) fp
/-- what it reads as -/
def tDcT (wi : TI) (g : TG) (tt : TT) (tk tv : TE) (vs : List Nat) : TE := fun σ H Q => wi σ H fun J H1 => ∀ dd, H1 dd = none → ∃ W : Nat → Nat → Hp → Prop, (∃ m, W 0 m (upd H1 dd (.dT []))) ∧ ∀ i m H, W i m H →
  (J.stop i H ∧ Q (.ref dd) H) ∨ (J.go i H ∧ ∃ Nx : Hp → Prop, (∀ H', Nx H' → ∃ m', m' < m ∧ W (i + 1) m' H') ∧ ∀ x H', J.yld i H x H' → g x (wipe σ vs) H' fun σ2 H2 => wipe σ2 vs = wipe σ vs ∧ tt σ2 H2 fun b H3 =>
    if b = true then tk σ2 H3 fun y H4 => tv σ2 H4 fun z H5 => ∃ kvs k c, y = .ref c ∧ H5 c = some (.tup (k.map kV)) ∧ H5 dd = some (.dT kvs) ∧ kvs.length < sizeLine ∧ Nx (upd H5 dd (.dT (putK kvs k z))) else Nx H3)
theorem dcT_core {pins : List (Addr × Obj)} {s : Shared} {σ : L2.St} {H : Hp} {Q : VK} {kx vx tg iter : Expr} {ifs : List Expr} {scope : Scope} {own : List (Str × Nat)} {pos pos' : Pos} {wi : TI} {g : TG} {tt : TT} {tk tv : TE} {use : Option (Value → Sem Unit)} {Qf : Value → Shared → Prop}
    (hc : X.calm = true) (hu : X.A.units < cLine) (hN : X.N.Nodup) (I : Inv X pins σ H s) (hi : PI X tg iter wi) (ok : BlkOk X.N X.env.scope scope own)
    (hg : ∀ s H C cl fp, PG (BX X scope s H C cl fp) tg g) (ht : ∀ s H C cl fp, PTs (BX X scope s H C cl fp) ifs tt) (hk : ∀ s H C cl fp, PE (BX X scope s H C cl fp) kx tk) (he : ∀ s H C cl fp, PE (BX X scope s H C cl fp) vx tv) (hs : ∀ x, foldedSetIterable iter X.env x = pure x)
    (h : tDcT wi g tt tk tv (own.map (·.2)) σ H Q)
    (hfin : ∀ dd C s' m H', Inv X pins σ H' s' → Q (.ref dd) H' → s'.heap.Ns C m → FpOk X pins H' C → compPost (model X.prog X.w) X.A X.xe use Qf (.ref dd) C (.ok .next) s') :
    wpAny (model X.prog X.w) X.A (comprehension (.DictComp kx vx [⟨tg, iter, ifs, 0⟩] scope pos) scope X.env pos' newDict false (eval iter X.env) use) Qf X.xe s := by
  have cells : ∀ y ∈ scope.names, y.2 = .free → ∃ c, X.env.cells.lookup y.1 = some c := fun y hy e => by
    rcases ok.free y hy e with k | k
    · exact I.ok.has _ (Or.inl k)
    · exact I.ok.has _ (Or.inr k)
  refine wpAny_comprehension_free (use := use) rfl hs (closure_ok cells) ok.kind (fun y hy e => by rw [ok.uniq y hy, e]) (thn (hi.run pins s σ H _ I h) fun xv s1 hx => thn hx fun itv s2 h2 => ?_)
  obtain ⟨it, fp, tn, J, H2, rfl, I2, T, st2, f2, q⟩ := h2
  refine wpAny_newObj_type (newEnv_comp ?_)
  generalize hDD : s2.heap.objs.size = dd
  have newD : H2 dd = none := I2.hok.fresh (Nat.le_of_eq hDD)
  obtain ⟨W, ⟨m0, w0⟩, turn⟩ := q dd newD
  generalize hs3 : ({ s2 with heap := s2.heap.push { cls := .type "dict", data := .dict #[] } } : Shared) = s3
  have I3 : Inv X pins σ (upd H2 dd (.dT [])) s3 := by
    rw [← hs3]
    refine I2.laid (t' := s2.toks) (fun b o e => Heap.get?_push_of_some _ e) (Nat.le_of_eq hDD) ?_
    rw [← hDD]
    exact dt_empty s2.heap I2.big
  have e3 : s3.heap = s2.heap.push { cls := .type "dict", data := .dict #[] } := by rw [← hs3]
  have f3 : ∀ b ∈ fp, FpOk X pins (upd H2 dd (.dT [])) b ∧ b < s3.heap.objs.size := fun b hb => by
    obtain ⟨o, eo, _⟩ := T.obj _ _ st2 b hb
    have hlt := Heap.lt_size eo
    refine ⟨⟨?_, (f2 b hb).2⟩, by rw [e3, Heap.size_push]; exact Nat.lt_succ_of_lt hlt⟩
    rw [upd_ne (by rw [← hDD]; exact Nat.ne_of_lt hlt)]
    exact (f2 b hb).1
  have st3 : tn 0 s3.heap := T.keep _ _ _ st2 fun b _ o e => by rw [e3]; exact Heap.get?_push_of_some _ e
  have I4 := block_start I3 ok hN f3
  generalize hcl : cellsFrom (s3.heap.objs.size + 1) scope.names (cloFrom X.env.cells scope.names []) = cl at I4
  have pg := hg s3 (upd H2 dd (.dT [])) s3.heap.objs.size cl fp
  have pt := ht s3 (upd H2 dd (.dT [])) s3.heap.objs.size cl fp
  have pk := hk s3 (upd H2 dd (.dT [])) s3.heap.objs.size cl fp
  have pe := he s3 (upd H2 dd (.dT [])) s3.heap.objs.size cl fp
  unfold BX at pg pt pk pe
  show codeAny _ _ (.compStart (.DictComp kx vx [⟨tg, iter, ifs, 0⟩] scope pos) 0 (.ref it) (.ref dd) (compEnvC scope cl s3.heap.objs.size X.env)) (compPost (model X.prog X.w) X.A X.xe use Qf (.ref dd) s3.heap.objs.size) { s3 with heap := pushCells (s3.heap.push { cls := .type "dict", data := .dict #[] }) scope.names }
  have nfp : ∀ b ∈ fp, (upd H2 dd (.dT [])) b = none := fun b hb => (f3 b hb).1.1
  generalize hce : compEnvC scope cl s3.heap.objs.size X.env = ce at I4 pg pt pk pe ⊢
  have cL : ce.locals = s3.heap.objs.size := by subst hce; rfl
  generalize hH3 : upd H2 dd (.dT []) = H3 at I3 I4 pg pt pk pe w0 nfp f3
  generalize hs4 : ({ s3 with heap := pushCells (s3.heap.push { cls := .type "dict", data := .dict #[] }) scope.names } : Shared) = s4 at I4 ⊢
  have st4 : tn 0 s4.heap := T.keep _ _ _ st3 fun b _ o e => by rw [← hs4]; exact pushCells_keeps _ _ _ _ (Heap.get?_push_of_some _ e)
  let XB : Cx := X.blk s3 H3 scope ce fp
  have stat : ∀ {σ' : L2.St} {H' : Hp} {s' : Shared}, Inv XB [] σ' H' s' → (∀ b ∈ fp, H' b = none) → ∀ b ∈ fp, FpOk XB [] H' b := fun {σ' H' s'} I' hn b hb =>
    ⟨hn b hb, (I'.ok.exf b hb).1, I'.ok.exfs b hb, .inl hb, fun x c e => (I'.ok.exf b hb).2 x c e, fun p hp => absurd (show p ∈ ([] : List (Addr × Obj)) ++ [] from hp) (by simp)⟩
  have loop : codeAny (model X.prog X.w) X.A (.compLoop (.DictComp kx vx [⟨tg, iter, ifs, 0⟩] scope pos) 0 (.ref it) (.ref dd) ce) (compPost (model X.prog X.w) X.A X.xe use Qf (.ref dd) s3.heap.objs.size) s4 := by
    refine compLoop_anyD (fun n s' => ∃ i H', Inv XB [] (wipe σ (own.map (·.2))) H' s' ∧ tn i s'.heap ∧ (∀ b ∈ fp, H' b = none) ∧ W i n H') ?_ m0 ⟨0, H3, I4, st4, nfp, w0⟩
    rintro n s5 ⟨i, H5, I5, st5, n5, w5⟩
    rcases turn i n H5 w5 with ⟨stop, qq⟩ | ⟨go, Nx, hNx, step⟩
    · have td := T.done XB rfl rfl rfl hc i [] s5 _ H5 (fun _ _ => False) I5 (stat I5 n5) st5 stop
      refine thnF td fun r s6 ⟨hr, I6⟩ => ?_
      subst hr
      have back : Inv X pins σ H5 s6 := I3.call' (ch := fp) I6.os I6.base I6.hok I6.bare fun b hb => ⟨(f3 b hb).1.2.2.2.1, (f3 b hb).1.2.1, (f3 b hb).1.2.2.2.2.1, (f3 b hb).1.2.2.2.2.2⟩
      have nC : H5 s3.heap.objs.size = none := cL ▸ (show H5 ce.locals = none from I6.free)
      obtain ⟨m, hn, _⟩ := I6.loc
      have hn : s6.heap.Ns s3.heap.objs.size m := cL ▸ (show s6.heap.Ns ce.locals m from hn)
      exact hfin dd s3.heap.objs.size s6 m H5 back qq hn (I3.fpOk (Nat.le_refl _) nC)
    · have ti := T.item XB rfl rfl rfl hc i [] s5 _ H5 (fun _ _ => False) I5 (stat I5 n5) st5 go
      refine thnF ti fun r s6 ⟨u, hr, h6⟩ => ?_
      subst hr
      refine thnF h6 fun _ s7 ⟨x, H7, I7, r7, y7, st7, n7⟩ => ?_
      refine thnF (pg.run _ s7 _ H7 x u _ (I7.pinned (stat I7 n7) (T.obj _ _ st7)) r7 (step x H7 y7)) fun _ s8 ⟨σ8, H8, I8, hw8, q8⟩ => ?_
      refine thnF (pt.run _ s8 σ8 H8 _ I8 q8) fun b s9 ⟨H9, I9, q9⟩ => ?_
      have fin : ∀ {s' : Shared} {H' : Hp}, Inv XB ([] ++ pinsAt fp s7.heap) σ8 H' s' → Nx H' → ∃ m, m < n ∧ ∃ i H', Inv XB [] (wipe σ (own.map (·.2))) H' s' ∧ tn i s'.heap ∧ (∀ b ∈ fp, H' b = none) ∧ W i m H' := fun {s' H'} I' nx => by
        obtain ⟨m', hm, w'⟩ := hNx H' nx
        have pin' : ∀ b ∈ fp, ∀ o, s7.heap.get? b = some o → s'.heap.get? b = some o ∧ H' b = none := fun b hb o e =>
          let z := I'.pin (b, o) (List.mem_append_right _ (List.mem_append_right _ (mem_pinsAt hb e)))
          ⟨z.1, z.2.1⟩
        have hl : (wipe σ (own.map (·.2))).length = σ8.length := by rw [← hw8, wipe_length]
        refine ⟨m', hm, i + 1, H', (I'.unpinned (pins := [])).weak hl (fun j v e => (wipe_some (hw8 ▸ e)).1), T.keep _ _ _ st7 fun b hb o e => (pin' b hb o e).1, fun b hb => ?_, w'⟩
        obtain ⟨o, eo, _⟩ := T.obj _ _ st7 b hb
        exact (pin' b hb o eo).2
      cases b with
      | false => exact fin I9 (by simpa using q9)
      | true =>
        simp only [if_true] at q9 ⊢
        refine thnF (pk.run _ s9 σ8 H9 _ I9 q9) fun z s10 ⟨yk, H10, I10, r10, q10⟩ => ?_
        refine thnF (pe.run _ s10 σ8 H10 _ I10 q10) fun z2 s11 ⟨yv, H11, I11, r11, kvs, k, c, ek, hk11, hD11, hz11, nx⟩ => ?_
        subst ek
        obtain rfl : z = Value.ref c := r10
        exact dtSet (X := XB) hu I11 hD11 hz11 hk11 r11 fun s12 I12 => fin I12 nx
  exact codeAny_compStart_dict loop (T.self X.A 0 _ _ _ st4 loop)
theorem pe_dcT {kx vx tg iter : Expr} {ifs : List Expr} {scope : Scope} {own : List (Str × Nat)} {pos : Pos} {wi : TI} {g : TG} {tt : TT} {tk tv : TE} (hc : X.calm = true) (hu : X.A.units < cLine) (hN : X.N.Nodup) (hi : PI X tg iter wi) (ok : BlkOk X.N X.env.scope scope own)
    (hg : ∀ s H C cl fp, PG (BX X scope s H C cl fp) tg g) (ht : ∀ s H C cl fp, PTs (BX X scope s H C cl fp) ifs tt) (hk : ∀ s H C cl fp, PE (BX X scope s H C cl fp) kx tk) (he : ∀ s H C cl fp, PE (BX X scope s H C cl fp) vx tv) (hs : ∀ x, foldedSetIterable iter X.env x = pure x) :
    PE X (.DictComp kx vx [⟨tg, iter, ifs, 0⟩] scope pos) (tDcT wi g tt tk tv (own.map (·.2))) := by
  refine ⟨fun pins s σ H Q I h => ?_⟩
  rw [arm_eval_DictComp]
  refine dcT_core hc hu hN I hi ok hg ht hk he hs h fun dd C s' m H' I' q hn f => ⟨m, hn, fun h'' sb => ?_⟩
  obtain ⟨f0, f1, f2, f3, f4, f5⟩ := f
  exact ⟨.ref dd, H', I'.turned (t' := s'.toks) (fun b o hb e => (sb.2 b hb).trans e) f0 f1 f3 f4 f5, rfl, q⟩
end
end DL
namespace DL
open PySem PySem.Spec PyProof.Rows L2
theorem u100 {k : Nat} {A : Around} (r : Room k A) : A.units + 100 < cLine := by have := r.un; omega
theorem u64 {k : Nat} {A : Around} (r : Room k A) : A.units + 64 < cLine := by have := r.un; omega
theorem u1 {k : Nat} {A : Around} (r : Room k A) : A.units + 1 < cLine := by have := r.un; omega
theorem KDs.fst {K : PySem.W.Frag} {F : Fz} {H : Hp} : ∀ {kvs : List (List Key × V)} {kds : List (List Key × D)}, KDs K F H kvs kds → kvs.map (·.1) = kds.map (·.1)
  | _, _, .nil => rfl
  | _, _, .cons h t => by rw [List.map_cons, List.map_cons, KDs.fst t, h.1]
theorem kD_ok {K : PySem.W.Frag} {F : Fz} {H : Hp} {v : V} {k : List Key} (r : Rep K F H v (kD k)) : KOk k := by
  refine ⟨?_, fun x hx => ?_⟩
  · have := r.bnd
    have e : (k.map keyD).length ≤ sizeLine := this
    rwa [List.length_map] at e
  · obtain ⟨b, vs, rfl, hb, ra⟩ := Rep.tupE (show Rep K F H v (.tup (k.map keyD)) from r)
    obtain ⟨i, hi⟩ := List.getElem?_of_mem hx
    obtain ⟨v, _, rv⟩ := ra.get (show (k.map keyD)[i]? = some (.str x) by rw [List.getElem?_map, hi]; rfl)
    exact rv.bnd
theorem putD_mem {kds : List (List Key × D)} {k : List Key} {d : D} {q : List Key × D} (h : q ∈ putD kds k d) : q.1 = k ∨ ∃ p ∈ kds, p.1 = q.1 := by
  unfold putD at h
  split at h
  · obtain ⟨p, hp, e⟩ := List.mem_map.mp h
    split at e
    · rename_i e2
      exact .inl (by rw [← e]; exact e2)
    · exact .inr ⟨p, hp, by rw [e]⟩
  · rcases List.mem_append.mp h with h | h
    · exact .inr ⟨q, h, rfl⟩
    · rw [List.mem_singleton] at h
      exact .inl (by rw [h])
theorem putD_ok {kds : List (List Key × D)} {k : List Key} {d : D} (h : ∀ q ∈ kds, KOk q.1) (hk : KOk k) : ∀ q ∈ putD kds k d, KOk q.1 := fun q hq => by
  rcases putD_mem hq with e | ⟨p, hp, e⟩
  · rw [e]; exact hk
  · rw [← e]; exact h p hp
theorem mergeD_ok : ∀ (more kds : List (List Key × D)), (∀ q ∈ kds, KOk q.1) → (∀ q ∈ more, KOk q.1) → ∀ q ∈ mergeD kds more, KOk q.1
  | [], kds, h, _ => h
  | p :: more, kds, h, hm => mergeD_ok more (putD kds p.1 p.2) (putD_ok h (hm p List.mem_cons_self)) fun q hq => hm q (List.mem_cons_of_mem _ hq)
section
variable {C : Ctx} {Γ : Gm} {L : Lp} {e a b c o tg : Expr} {es ts : List Expr} {pos p1 p2 : Pos} {Q : D → Lp → Prop} {E : AEnds}
theorem r_inDT {p : Addr} {kds : List (List Key × D)} {k : List Key} (hp : L p = some (.dct kds)) (q : Q (.bl (valD kds k).isSome) L) : L2R C rInDT (kD k) (.ptr p) L Q := fun F vx vy H c rx ry QV go => by
  obtain ⟨kvs, ha, ra, _⟩ := c.at_ p _ hp
  obtain ⟨t, rfl, ht⟩ := kD_at rx
  refine ⟨p, valV kvs k, ry.ptrE, DGet.t ha ht, ?_⟩
  have e : (valV kvs k).isSome = (valD kds k).isSome := by
    rcases KDs.val ra k with ⟨e1, e2⟩ | ⟨v, d, e1, e2, _⟩ <;> rw [e1, e2] <;> rfl
  rw [e]
  exact go _ _ H L (.bl _) c (.refl L H) q
theorem r_notInDT {p : Addr} {kds : List (List Key × D)} {k : List Key} (hp : L p = some (.dct kds)) (q : Q (.bl (!(valD kds k).isSome)) L) : L2R C rNotInDT (kD k) (.ptr p) L Q := fun F vx vy H c rx ry QV go => by
  obtain ⟨kvs, ha, ra, _⟩ := c.at_ p _ hp
  obtain ⟨t, rfl, ht⟩ := kD_at rx
  refine ⟨p, valV kvs k, ry.ptrE, DGet.t ha ht, ?_⟩
  have e : (valV kvs k).isSome = (valD kds k).isSome := by
    rcases KDs.val ra k with ⟨e1, e2⟩ | ⟨v, d, e1, e2, _⟩ <;> rw [e1, e2] <;> rfl
  rw [e]
  exact go _ _ H L (.bl _) c (.refl L H) q
/-- d[k], there -/
theorem ae_getDT (hu : C.X.A.units + 1 < cLine) (h : AE C o Γ L fun x L1 => AE C b Γ L1 fun y L2 => ∃ p kds k d, x = .ptr p ∧ y = kD k ∧ L2 p = some (.dct kds) ∧ valD kds k = some d ∧ Q d L2) (hs : NoSl b := by exact fun _ _ => rfl) : AE C (.Subscript o b pos) Γ L Q :=
  ae_two (r := rGetDT) (pe_dget hu pe_we pe_we hs) (h.mono fun x L1 h1 => h1.mono fun y L2 ⟨p, kds, k, d, ex, ey, hp, hv, q⟩ => by
    subst ex ey
    intro F vx vy H c rx ry QV go
    obtain ⟨kvs, ha, ra, _⟩ := c.at_ p _ hp
    obtain ⟨t, rfl, ht⟩ := kD_at ry
    rcases KDs.val ra k with ⟨_, e2⟩ | ⟨v, d', e1, e2, rv⟩
    · rw [hv] at e2
      cases e2
    · rw [hv] at e2
      cases e2
      exact ⟨p, v, rx.ptrE, e1 ▸ DGet.t ha ht, go _ _ H L2 rv c (.refl L2 H) q⟩)
theorem ae_dict0 (q : ∀ p, L p = none → Q (.ptr p) (put L p (.dct []))) : AE C (.Dict [] [] pos) Γ L Q := fun F σ H ok QV go =>
  we_of pe_dnewT fun p hp => go _ _ _ (put L p (.dct [])) (.ptr p) (ok.con.newL hp ⟨[], upd_same, .nil, fun q hq => nomatch hq⟩) (.newL hp) (q p (ok.con.free hp))
theorem w_DT {p : Addr} {kds : List (List Key × D)} {k : List Key} {v : D} {Q : Lp → Prop} (hp : L p = some (.dct kds)) (hz : kds.length < sizeLine) (q : Q (put L p (.dct (putD kds k v)))) : L3R C rPutDT (.ptr p) (kD k) v L Q := fun F vo vi vv H c ro ri rv QV go => by
  obtain ⟨kvs, ha, ra, hk⟩ := c.at_ p _ hp
  obtain ⟨t, rfl, ht⟩ := kD_at ri
  have s := Mv.write (o := .dT (putK kvs k vv)) c hp
  refine ⟨p, upd H p (.dT (putK kvs k vv)), ro.ptrE, DPut.t ha ht (by rw [Paired.length ra]; exact hz), go _ (put L p (.dct (putD kds k v))) (c.write hp ⟨_, upd_same, KDs.mono s (KDs.put ra k rv), putD_ok hk (kD_ok ri)⟩) (.write c hp) q⟩
theorem c_listDT {p : Addr} {kds : List (List Key × D)} (hp : L p = some (.dct kds)) (hz : kds.length ≤ sizeLine) (q : ∀ l, L l = none → Q (.ptr l) (put L l (.lst (kds.map fun x => kD x.1)))) : LcR C rLstDT [.ptr p] L Q := fun F vs H c r0 QV go => by
  obtain ⟨v, rfl, r⟩ := r0.oneE
  obtain ⟨kvs, ha, ra, hk⟩ := c.at_ p _ hp
  refine ⟨p, kvs, by rw [r.ptrE], .inl ha, fun bs kr l hl => ?_⟩
  have e : kvs.map (·.1) = kds.map (·.1) := by
    exact KDs.fst ra
  have hks : ∀ k ∈ kvs.map (·.1), KOk k := fun k hkk => by
    rw [e] at hkk
    obtain ⟨x, hx, rfl⟩ := List.mem_map.mp hkk
    exact hk x hx
  have rr : Reps C.X.K F H (bs.map V.ref) (kds.map fun x => kD x.1) := by
    have := reps_keys (K := C.X.K) (F := F) kr hks
    rw [e, List.map_map] at this
    exact this
  exact go _ _ _ (put L l (.lst (kds.map fun x => kD x.1))) (.ptr l) (c.newL hl ⟨_, upd_same, rr.mono (.new hl), by rw [List.length_map]; exact hz⟩) (.newL hl) (q l (c.free hl))
/-- pairs (key, value) -/
def pD (x : List Key × D) : D := .tup [kD x.1, x.2]
theorem pairs_of {K : PySem.W.Frag} {F : Fz} {H : Hp} : ∀ {vs : List V} {kds : List (List Key × D)}, Reps K F H vs (kds.map pD) → ∃ (ts : List Addr) (q : List (List Key × Addr × V)), vs = ts.map V.ref ∧ PairsAtT H ts q ∧ KDs K F H (q.map fun x => (x.1, x.2.2)) kds ∧ ∀ y ∈ kds, KOk y.1
  | _, [], .nil => ⟨[], [], rfl, .nil, .nil, fun y hy => nomatch hy⟩
  | _, x :: kds, .cons r t => by
    obtain ⟨ts, q, rfl, h1, h2, h3⟩ := pairs_of t
    obtain ⟨a, ws, rfl, ha, ra⟩ := Rep.tupE (show Rep K F H _ (.tup [kD x.1, x.2]) from r)
    obtain ⟨v1, v2, rfl, r1, r2⟩ := Reps.twoE ra
    obtain ⟨b, rfl, hb⟩ := kD_at r1
    refine ⟨a :: ts, (x.1, b, v2) :: q, rfl, .cons ⟨ha, hb⟩ h1, .cons ⟨rfl, r2⟩ h2, fun y hy => ?_⟩
    rcases List.mem_cons.mp hy with e | hy
    · rw [e]; exact kD_ok r1
    · exact h3 y hy
theorem c_dictPT {p : Addr} {kds : List (List Key × D)} (hp : L p = some (.lst (kds.map pD))) (q : ∀ l, L l = none → Q (.ptr l) (put L l (.dct (mergeD [] kds)))) : LcR C (rDictPT C.X.K) [.ptr p] L Q := fun F vs H c r0 QV go => by
  obtain ⟨v, rfl, r⟩ := r0.oneE
  obtain ⟨ws, ha, ra, hz⟩ := c.at_ p _ hp
  obtain ⟨ts, qq, e, h1, h2, h3⟩ := pairs_of ra
  subst e
  refine ⟨p, ts, qq, by rw [r.ptrE], SqL.of ha, h1, fun l hl => go _ _ _ (put L l (.dct (mergeD [] kds))) (.ptr l) (c.newL hl ⟨_, upd_same, KDs.mono (.new hl) (KDs.merge h2 .nil), mergeD_ok kds [] (fun q hq => nomatch hq) h3⟩) (.newL hl) (q l (c.free hl))⟩
theorem c_lenDT {p : Addr} {kds : List (List Key × D)} (hp : L p = some (.dct kds)) (q : Q (.int kds.length) L) : LcR C rLenT [.ptr p] L Q := fun F vs H c r0 QV go => by
  obtain ⟨v, rfl, r⟩ := r0.oneE
  obtain ⟨kvs, ha, ra, hk⟩ := c.at_ p _ hp
  refine ⟨p, kvs, by rw [r.ptrE], ha, ?_⟩
  rw [Paired.length ra]
  exact go _ _ H L (.int _) c (.refl L H) q

/-! ### the comprehension -/
theorem Stay.dct {H : Hp} {p : Addr} {xs : List (List Key × V)} {o : HO} (h : H p = some (.dT xs)) : Stay H (upd H p o) :=
  ⟨fun a vs e => by rw [upd_ne (fun q => by rw [q, h] at e; cases e)]; exact e, fun a ob u e => by rw [upd_ne (fun q => by rw [q, h] at e; cases e)]; exact e, fun a e => by rw [upd_ne (fun q => by rw [q, h] at e; cases e)]; exact e⟩
theorem Fr.noneAt {L L' : Lp} {F F' : Fz} {H H' : Hp} (f : Fr L F H L' F' H') {a : Addr} {o : HO} (h : H a = some o) (n : L a = none) : L' a = none := by
  cases e : L' a with
  | none => rfl
  | some u =>
    rcases f.dom a (by rw [e]; simp) with z | z
    · exact absurd n z
    · rw [h] at z
      cases z
theorem ae_dcT (own : List (Str × Nat)) {scope : Scope} {kx vx iter : Expr} (hu : C.X.A.units < cLine)
    (h : AI C tg iter Γ L fun ds G L1 => ∃ I : Nat → List (List Key × D) → Lp → Prop, I 0 [] L1 ∧ (∀ i acc L2, I i acc L2 → G L2) ∧
      (∀ i d acc L2, ds[i]? = some d → I i acc L2 → ∃ Γ3 ws, (∀ j ∈ ws, j ∈ own.map (·.2)) ∧ ∀ s H Cc cl fp, AG (bctx C scope s H Cc cl fp) tg d (wipeG Γ (own.map (·.2))) Γ3 ws ∧
        AE (bctx C scope s H Cc cl fp) kx Γ3 L2 fun y L3 => ∃ k, y = kD k ∧ ∀ s H Cc cl fp, AE (bctx C scope s H Cc cl fp) vx Γ3 L3 fun z L4 => acc.length < sizeLine ∧ I (i + 1) (putD acc k z) L4) ∧
      ∀ acc L2, I ds.length acc L2 → ∀ p, L2 p = none → Q (.ptr p) (put L2 p (.dct acc)))
    (ok : BlkOk C.X.N C.X.env.scope scope own := by (dsimp only [fctx, bctx, cxOf, envOfC, compEnvC, Cx.blk]; exact blkOk_by (by decide +kernel))) (hs : ∀ x, foldedSetIterable iter C.X.env x = pure x := by intro _; rfl) : AE C (.DictComp kx vx [⟨tg, iter, [], 0⟩] scope pos) Γ L Q := fun F σ H okk QV go => by
  refine we_of (pe_dcT (wi := WI C.X tg iter) (g := gB C scope tg) (tt := ttB C scope []) (tk := teB C scope kx) (tv := teB C scope vx) C.calm hu C.nd pi_wi ok (fun s H0 Cc cl fp => ⟨fun pins s1 σ1 H1 v u Q1 I r q => (q s H0 Cc cl fp).run pins s1 u I r⟩) (fun s H0 Cc cl fp => ⟨fun pins s1 σ1 H1 Q1 I q => (q s H0 Cc cl fp).run pins s1 I⟩) (fun s H0 Cc cl fp => ⟨fun pins s1 σ1 H1 Q1 I q => (q s H0 Cc cl fp).run pins s1 I⟩) (fun s H0 Cc cl fp => ⟨fun pins s1 σ1 H1 Q1 I q => (q s H0 Cc cl fp).run pins s1 I⟩) hs) ?_
  refine h _ σ H okk _ fun {F1} J H1 L1 ds G c1 f1 it ⟨I, i0, hG, hb, hd⟩ => ?_
  intro dd hD
  have f1D := c1.nf hD
  refine ⟨fun i m H2 => m = ds.length - i ∧ i ≤ ds.length ∧ ∃ L2 F2 acc vacc, C.Con L2 F2 H2 ∧ Fr L1 F1 H1 L2 F2 H2 ∧ L2 dd = none ∧ ¬ F2 dd ∧ H2 dd = some (.dT vacc) ∧ KDs C.X.K F2 H2 vacc acc ∧ (∀ q ∈ acc, KOk q.1) ∧ I i acc L2, ⟨ds.length, by simp, Nat.zero_le _, L1, F1, [], [], c1.new hD, .new hD, c1.free hD, f1D, upd_same, .nil, (fun q hq => nomatch hq), i0⟩, ?_⟩
  rintro i m H2 ⟨rfl, hi, L2, F2, acc, vacc, c2, f2, lD, fD, hD2, ra, hks, i2⟩
  obtain ⟨k1, k2, k3⟩ := it i H2 L2 f2 c2 (hG i acc L2 i2)
  by_cases hlt : i < ds.length
  · refine .inr ⟨k1 hlt, fun H3 => ∃ L2 F2 acc vacc, C.Con L2 F2 H3 ∧ Fr L1 F1 H1 L2 F2 H3 ∧ L2 dd = none ∧ ¬ F2 dd ∧ H3 dd = some (.dT vacc) ∧ KDs C.X.K F2 H3 vacc acc ∧ (∀ q ∈ acc, KOk q.1) ∧ I (i + 1) acc L2, fun H3 hN => ⟨ds.length - (i + 1), by omega, rfl, hlt, hN⟩, fun x H' y => ?_⟩
    obtain ⟨d, hd2, rd, hH⟩ := k3 x H' y hlt
    have fH : Fr L2 F2 H2 L2 F2 H' := by
      rcases hH with e | ⟨T, vs, nT, e⟩
      · rw [e]; exact .refl L2 H2
      · rw [e]; exact .new nT
    have cH : C.Con L2 F2 H' := by
      rcases hH with e | ⟨T, vs, nT, e⟩
      · rw [e]; exact c2
      · rw [e]; exact c2.new nT
    obtain ⟨_, _, hD3⟩ := fH.hid hD2 (fun _ z => nomatch z) lD fD
    have slw : Sl C.X.K F2 H' (wipe σ (own.map (·.2))) (wipeG Γ (own.map (·.2))) := (okk.sl.mono ((f1.trans f2).trans fH).mv).wipe _
    obtain ⟨Γ3, ws, hws, hbody⟩ := hb i d acc L2 hd2 i2
    intro s0 H0 Cc cl fp
    refine (hbody s0 H0 Cc cl fp).1 _ _ H' x slw rd _ fun σ3 sl3 but => ⟨But.wiped but hws, ?_⟩
    intro s1 H01 Cc1 cl1 fp1
    refine ats_nil (C := bctx C scope s1 H01 Cc1 cl1 fp1) (Γ := Γ3) (L := L2) (Q := fun b L3 => b = true ∧ L3 = L2) ⟨rfl, rfl⟩ _ σ3 H' ⟨sl3, cH, ⟨fun _ _ _ _ _ _ _ _ _ _ _ z => z.elim⟩⟩ _ fun b H3 L3 c3 f3 ⟨eb, el⟩ => ?_
    subst eb el
    rw [if_pos rfl]
    obtain ⟨_, fD3, hD4⟩ := f3.hid hD3 (fun _ z => nomatch z) lD fD
    intro s2 H02 Cc2 cl2 fp2
    refine (hbody s2 H02 Cc2 cl2 fp2).2 _ σ3 H3 ⟨sl3.mono f3.mv, c3, ⟨fun _ _ _ _ _ _ _ _ _ _ _ z => z.elim⟩⟩ _ fun yv y H4 L4 r4 c4 f4 ⟨k, ek, q4⟩ => ?_
    subst ek
    obtain ⟨lD4, fD4, hD5⟩ := f4.hid hD4 (fun _ z => nomatch z) lD fD3
    intro s3 H03 Cc3 cl3 fp3
    refine q4 s3 H03 Cc3 cl3 fp3 _ σ3 H4 ⟨(sl3.mono f3.mv).mono f4.mv, c4, ⟨fun _ _ _ _ _ _ _ _ _ _ _ z => z.elim⟩⟩ _ fun zv z H5 L5 r5 c5 f5 ⟨hz, q5⟩ => ?_
    obtain ⟨lD5, fD5, hD6⟩ := f5.hid hD5 (fun _ z => nomatch z) lD4 fD4
    obtain ⟨b, rfl, hb4⟩ := kD_at r4
    have ra5 := KDs.mono f5.mv (KDs.mono f4.mv (KDs.mono f3.mv (KDs.mono fH.mv ra)))
    have st : Stay H5 (upd H5 dd (.dT (putK vacc k zv))) := .dct hD6
    have f6 := ((((f2.trans fH).trans f3).trans f4).trans f5)
    exact ⟨vacc, k, b, rfl, f5.stay.tup _ _ hb4, hD6, by rw [Paired.length ra5]; exact hz, L5, _, putD acc k z, putK vacc k zv, c5.hid st lD5 fD5, f6.hidw hD f1D st, lD5, fD5, upd_same, KDs.mono (.hid st fD5) (KDs.put ra5 k r5), putD_ok hks (kD_ok r4), q5⟩
  · have e : i = ds.length := by omega
    exact .inl ⟨k2 e, go _ _ H2 (put L2 dd (.dct acc)) (.ptr dd) (c2.shw fD ⟨vacc, hD2, ra, hks⟩) ((f1.trans f2).shw (f1.nul hD)) (hd acc L2 (by rw [← e]; exact i2) dd lD)⟩
end
end DL
namespace DL
open PySem PySem.Spec PyProof.Rows L2
section
variable {X : Cx}
def CPowX (i j : Int) : Prop := 0 ≤ j ∧ (Builtin.Int.intBits i : Int) * j ≤ 2 ^ 27
theorem op_powX : OpR X (binaryOp .Pow) (rI CPowX fun i j => .int (i ^ j.toNat)) := opI fun _ _ _ _ _ _ _ hc q => pow_int hc.1 hc.2 q
end
section
variable {C : Ctx} {Γ : Gm} {L : Lp} {Q : D → Lp → Prop}
theorem r_powX {i j : Int} (h : CPowX i j) (q : Q (.int (i ^ j.toNat)) L) : L2R C (rI CPowX fun i j => .int (i ^ j.toNat)) (.int i) (.int j) L Q := r_I (g' := fun i j => .int (i ^ j.toNat)) h (fun _ => .int _) q
end
theorem big_ok : CPowX ((10 : Int) ^ (60 : Int).toNat) 5 := by
  refine ⟨by decide, ?_⟩
  decide +kernel
end DL
namespace DL
open PySem PySem.Spec PyProof.Rows L2
abbrev freshS (w : World) : Obj := { cls := .type "set", dict := none, data := .set #[] 0 (.fresh 0 0 (!w.params.followText "set-order")) }
section
variable {P : Program} {w : World} {A : Around} {E : Value → Shared → Prop} {s : Shared}

set_option maxHeartbeats 3200000 in
theorem call_setX_list {l : Addr} {items : Array Value} (xs : List Str) {Q : Value → Shared → Prop} (hh : A.handled = none) (hl : s.heap.IsList l items) (hit : StrsAre items.toList xs) (hb : xs.length + 1 < scanBound)
    (h : ∀ (h' : Heap) (tk c : Nat), SetX w h' s.heap.objs.size (fun j => decide (j ∈ xs)) c → c ≤ xs.length → (∀ b o, s.heap.get? b = some o → h'.get? b = some o) → Q (.ref s.heap.objs.size) { s with heap := h', toks := tk }) :
    wpAny (model P w) A (call (.type "set") [.ref l]) Q E s := by
  have hisz : items.size = xs.length := by rw [← StrsAre.len_eq hit, Array.length_toList]
  obtain ⟨c0, tl, hmro⟩ := PySem.F.called_set.mro
  have k_made := PySem.F.called_set.made
  have k_sub := PySem.F.called_set.sub
  refine wpAny_call (codeAny_of_tree ?_)
  show wpAny _ _ (callAny (.type "set") _) _ _ _
  refine wpAny_pure ⟨Code.quiet_builtin _ (by decide +kernel), codeAny_builtin PySem.F.entry_type_call ?_⟩
  rw [Around.under_plain (weight_type_call_type "set" [.ref l] []) rfl]
  have k_1 := PySem.F.called_set.notType
  have k_2 := PySem.F.called_set.canCreate
  have k_3 := PySem.F.typeCall_set_1 (.ref l)
  repeat (any_goals (first | assumption | wp_step))
  refine codeAny_mono (code_set_led1 (.ref l) (E := E) (Q₁ := fun ob s₁ => ob = .ref s.heap.objs.size ∧ s₁ = { s with heap := s.heap.push (freshS w) }) ⟨rfl, rfl⟩) fun r s₁ hr => ?_
  cases r with
  | error e => exact hr
  | ok fl =>
    cases fl with
    | ret ob =>
      obtain ⟨rfl, rfl⟩ := hr
      have hS : (s.heap.push (freshS w)).get? s.heap.objs.size = some (freshS w) := Heap.get?_push_size _ rfl
      have hT : Shared.TypeIs { s with heap := s.heap.push (freshS w) } (.ref s.heap.objs.size) "set" := ⟨_, hS, rfl⟩
      have k_4 := PySem.F.called_set.init.lookup
      have k_5 := PySem.F.called_set.init.bind (.ref s.heap.objs.size)
      repeat (any_goals (first | assumption | wp_step))
      refine codeAny_mono (codeAny_call_builtin (R := wants (fun r s₂ => r = .none ∧ ∃ h' tk c, s₂ = { s with heap := h', toks := tk } ∧ SetX w h' s.heap.objs.size (fun j => decide (j ∈ xs)) c ∧ c ≤ xs.length ∧
          (∀ b o, s.heap.get? b = some o → h'.get? b = some o)) E) PySem.F.called_set.init.plain PySem.F.entry_set_init (check_set_init_1 hT ?_)) fun r₂ s₂ hr₂ => ?_
      · obtain ⟨ol, hol, hcl, nl, hdl⟩ := hl
        obtain ⟨ocls, odict, odata, oslots⟩ := ol
        simp only at hcl hdl
        subst hcl; subst hdl
        have hol' : (s.heap.push (freshS w)).get? l = some { cls := .type "list", dict := odict, data := .seq items nl, slots := oslots } := Heap.get?_push_of_some _ hol
        have k_6 := PySem.F.sub_list_set
        have k_7 := PySem.F.sub_list_frozenset
        have k_8 : (Value.type "list" == Value.type "dict") = false := by decide
        have hl1 : (s.heap.push (freshS w)).IsList l items := ⟨_, hol', rfl, nl, rfl⟩
        unfold Builtin.«set.__init__» noKeywords Builtin.Frozenset.updateFrom
        generalize hPI : pyIter = PI
        wp_walk
        subst hPI
        refine wpAny_pyIter_list hl1 ?_
        refine wpAny_bind (wpAny_runValue ?_)
        have hlS : l < s.heap.objs.size := Heap.lt_size hol
        have hh3 : A.in1.in1.in1.handled = none := by simp [hh]
        have hz1 : (s.heap.push (freshS w)).objs.size = s.heap.objs.size + 1 := Heap.size_push ..
        have hneI : l ≠ (s.heap.push (freshS w)).objs.size := by
          rw [hz1]; exact Nat.ne_of_lt (Nat.lt_succ_of_lt hlS)
        have hSf : s.heap.objs.size ∉ [(s.heap.push (freshS w)).objs.size, l] := by
          rw [hz1]; simp only [List.mem_cons, List.not_mem_nil, or_false, not_or]
          exact ⟨Nat.ne_of_lt (Nat.lt_succ_self _), Nat.ne_of_gt hlS⟩
        have hval : ∀ (i : Nat) (v : Value), items[i]? = some v → ∃ k t, xs[i]? = some k ∧ v = .str k t := fun i v hv => by
          have hi : i < xs.length := by rw [← hisz]; exact (Array.getElem?_eq_some_iff.mp hv).1
          obtain ⟨t, e⟩ := SS.strs_at hit i v (by rw [Array.getElem?_toList]; exact hv)
          refine ⟨xs[i], t, List.getElem?_eq_getElem hi, ?_⟩
          rw [e, List.getD_eq_getElem?_getD, List.getElem?_eq_getElem hi] <;> rfl
        refine setX_loop ((Walks.list hh3 _ l hneI items).toS) s.heap.objs.size
          hSf xs hisz hb hval (items.size - 0) 0 _ (by omega) (Nat.zero_le _)
          ⟨⟨_, Heap.get?_push_size _ rfl, rfl, rfl⟩, (hl1.push _)⟩ ?hS0 ?hR
        case hS0 =>
          refine ⟨0, Nat.le_refl 0, (setX_fresh (Heap.get?_push_of_some _ hS)).congr fun k => ?_⟩
          simp
        case hR =>
          intro s' c' hm hc' hS'
          obtain ⟨h', g2, d', tk', os'⟩ := s'
          obtain rfl : g2 = s.gens := hm.gens
          obtain rfl : d' = s.drawn := hm.drawn
          obtain rfl : os' = s.os := hm.os
          show wpAny _ _ _ _ _ _
          refine wpAny_pure ?_
          show wpAny _ _ (ret Value.none) _ _ _
          rw [hisz] at hc'
          refine wpAny_pure ⟨rfl, h', tk', c', rfl, hS', hc', fun b o e => ?_⟩
          have hb0 : b < s.heap.objs.size := Heap.lt_size e
          refine hm.heap b o ?_ (Heap.get?_push_of_some _ (Heap.get?_push_of_some _ e))
          rw [hz1]
          simp only [List.mem_cons, List.not_mem_nil, or_false, not_or]
          exact ⟨Nat.ne_of_lt hb0, Nat.ne_of_lt (Nat.lt_succ_of_lt hb0)⟩
      · cases r₂ with
        | error e => exact hr₂
        | ok fl₂ =>
          cases fl₂ with
          | ret r =>
            obtain ⟨rfl, h', tk, c', rfl, hS', hc', hk'⟩ := hr₂
            repeat (any_goals (first | assumption | wp_step))
            exact h _ _ _ hS' hc' hk'
          | _ => exact hr₂.elim
    | _ => exact hr.elim
end
end DL
namespace DL
open PySem PySem.Spec PyProof.Rows L2
/-- texts in order, each once -/
def Rise (ys : List Str) : Prop := ys.Pairwise fun a b => a.cps.toList < b.cps.toList
theorem setX_obj {P : Program} {w : World} {H : Hp} {h : Heap} {a : Addr} {S : Str → Bool} {n : Nat} (R : SetX w h a S n) : ObjOk P w H h a (.ext fun h => SetX w h a S n) := by
  have ⟨o, es, ep, t, ho, r⟩ := R
  exact ⟨R, ⟨o, ho⟩, fun h1 h2 p k => SetX.at p k⟩
theorem strs_vals : ∀ {us : List Value} {xs : List Str}, Vals (xs.map V.str) us → StrsAre us xs
  | _, [], .nil => .nil
  | _, x :: xs, .cons r t => by
    obtain ⟨tk, rfl⟩ := r
    exact .cons x tk (strs_vals t)
section
variable {X : Cx}
/-- set(list of texts) -/
abbrev rSetX (K : PySem.W.Frag) (w : World) : List V → Hp → VK → Prop := fun vs H Q => ∃ (l : Addr) (xs : List Str), vs = [.ref l] ∧ SqL K H l (xs.map V.str) ∧ xs.length + 1 < scanBound ∧
  ∀ a n, H a = none → n ≤ xs.length → Q (.ref a) (upd H a (.ext fun h => SetX w h a (fun k => decide (k ∈ xs)) n))
theorem cr_setX (hc : X.calm = true) : CallR X (.type "set") (rSetX X.K X.w) := fun pins s σ H vs us Q I r ⟨l, xs, ev, hl, hb, q⟩ => by
  subst ev
  obtain ⟨u, rfl, ru⟩ := vals1 r
  obtain rfl : u = Value.ref l := ru
  obtain ⟨its, rv, pl, hz⟩ := I.list hl
  have hn : H s.heap.objs.size = none := I.hok.fresh (Nat.le_refl _)
  refine call_setX_list (P := X.prog) (w := X.w) xs (I.ok.hd hc) pl.isList (by simpa using strs_vals rv) hb fun h' tk c R hle k => ?_
  exact ⟨.ref s.heap.objs.size, _, I.laid (t' := tk) k (Nat.le_refl _) (setX_obj R), rfl, q _ c hn hle⟩

theorem rise_of : ∀ {l : List Str}, l.Pairwise (fun a b => decide (a.cps.toList ≤ b.cps.toList) = true) → l.Nodup → Rise l
  | [], _, _ => List.Pairwise.nil
  | x :: l, h, d => by
    obtain ⟨h1, h2⟩ := List.pairwise_cons.mp h
    obtain ⟨d1, d2⟩ := List.nodup_cons.mp d
    refine List.pairwise_cons.mpr ⟨fun y hy => ?_, rise_of h2 d2⟩
    have e1 := of_decide_eq_true (h1 y hy)
    rcases List.le_iff_lt_or_eq.mp e1 with z | z
    · exact z
    · exact absurd (PySem.W.str_of_cps z ▸ hy) d1
theorem txs_of : ∀ (w : World) (l : List Value), (∀ v ∈ l, ∃ k tk, v = Value.str k tk) → ∃ bs : List Str, Paired (fun v x => ∃ tk, v = Value.str x tk) l bs
  | _, [], _ => ⟨[], .nil⟩
  | w, v :: l, h => by
    obtain ⟨k, tk, rfl⟩ := h v List.mem_cons_self
    obtain ⟨bs, hb⟩ := txs_of w l fun u hu => h u (List.mem_cons_of_mem _ hu)
    exact ⟨k :: bs, .cons ⟨tk, rfl⟩ hb⟩
theorem paired_tx : ∀ {l : List Value} {bs : List Str}, Paired (fun v x => ∃ tk, v = Value.str x tk) l bs → bs = l.map fun v => txOf (0, v)
  | _, _, .nil => rfl
  | _, _, .cons h t => by
    obtain ⟨tk, rfl⟩ := h
    rw [List.map_cons, ← paired_tx t]
    rfl
theorem paired_vals : ∀ {l : List Value} {bs : List Str}, Paired (fun v x => ∃ tk, v = Value.str x tk) l bs → Vals (bs.map V.str) l
  | _, _, .nil => .nil
  | _, _, .cons ⟨tk, h⟩ t => .cons ⟨tk, h⟩ (paired_vals t)
/-- sorted(set of texts) -/
abbrev rSortX (w : World) : List V → Hp → VK → Prop := fun vs H Q => ∃ (a : Addr) (S : Str → Bool) (n : Nat), vs = [.ref a] ∧ H a = some (.ext fun h => SetX w h a S n) ∧
  ∀ p ys, H p = none → Rise ys → (∀ k, k ∈ ys ↔ S k = true) → ys.length = n → Q (.ref p) (upd H p (.lst (ys.map V.str)))
theorem cr_sortX (hc : X.calm = true) (hu : X.A.units + 100 < cLine) : CallR X (.builtin "sorted") (rSortX X.w) := fun pins s σ H vs us Q I r ⟨a, S, n, ev, ha, q⟩ => by
  subst ev
  obtain ⟨u, rfl, ru⟩ := vals1 r
  obtain rfl : u = Value.ref a := ru
  obtain ⟨ob, es, ep, tb, hob, hex, hd, g, nd, hm, hb, hf, hn, hr, hl⟩ : SetX X.w s.heap a S n := (I.hok a _ ha).1
  refine PySem.Calls.call_function_entry PyProof.Rows.kind_sorted PyProof.Rows.plain_sorted PyProof.Rows.entry_sorted (PyProof.Rows.args_sorted1 _) ?_
  unfold Builtin.«sorted»
  refine wpAny_bind (m := checkCount "sorted" 1 1 _) (wpAny_pure ?_)
  refine wpAny_bind (L2.collect_set (A := X.A.in1) (I.ok.hd hc) ⟨ob, hob, hex.1, hd⟩ hf hb hr hl fun s1 vs k1 hz g1 o1 pm => ?_)
  obtain ⟨bs, hbs⟩ := txs_of X.w vs fun v hv => by
    obtain ⟨e, he, qq⟩ := List.mem_map.mp (pm.mem_iff.mp hv)
    obtain ⟨k, tk, e1, _⟩ := g e he
    exact ⟨k, tk, by rw [← qq]; exact e1⟩
  have pk : bs.Perm (es.toList.map txOf) := by
    rw [paired_tx hbs]
    have e := pm.map fun v => txOf (0, v)
    rw [List.map_map] at e
    exact e
  have hvl : bs.length = n := by rw [pk.length_eq, List.length_map, Array.length_toList]; exact hn
  have hvl2 : vs.length = n := by rw [Paired.length hbs]; exact hvl
  have hlz : n ≤ sizeLine := by rw [← hn]; exact fits_of_scanBound hb
  refine wpAny_bind (wpAny_newList ?_ (by rw [hvl2]; exact hlz))
  have hoL : (s1.heap.push (seqObj "list" vs.toArray 0)).get? s1.heap.objs.size = some (seqObj "list" vs.toArray 0) := Heap.get?_push_size _ rfl
  have er : PySem.W.EachIs (fun v (x : Str) => ∃ as, Reads (s1.heap.push (seqObj "list" vs.toArray 0)) v (PyData.str x) as ∧ s1.heap.objs.size ∉ as) vs bs := by
    refine each_paired (Paired.mono hbs fun v x zz => ?_)
    obtain ⟨tk, rfl⟩ := zz
    exact ⟨[], .str x tk, by simp⟩
  have hal : PySem.W.AllAlike (bs.map PyData.str) := fun d hd d' hd' => by
    obtain ⟨x, _, rfl⟩ := List.mem_map.mp hd
    obtain ⟨y, _, rfl⟩ := List.mem_map.mp hd'
    rfl
  have hso : PySem.W.Sortable (bs.map PyData.str) := .inr fun d hd => by
    obtain ⟨x, _, rfl⟩ := List.mem_map.mp hd
    exact ⟨fun z => (nomatch z), fun _ z => (nomatch z)⟩
  have hdeep : ∀ b ∈ bs, X.A.in1.units + 1 + (PyData.str b).depth < cLine := fun b hb => by
    have hdep : (PyData.str b).depth ≤ 1 := by first | exact Nat.le_refl _ | exact Nat.zero_le _ | simp [PyData.depth]
    show X.A.units + 1 + 1 + _ < _
    omega
  show wpAny _ _ _ _ _ { s1 with heap := s1.heap.push (seqObj "list" vs.toArray 0) }
  refine wpAny_bind (wpAny_holding (PySem.W.list_sort_data (s := { s1 with heap := s1.heap.push (seqObj "list" vs.toArray 0) }) (R := fun v x => ∃ tk, v = Value.str x tk) (enc := PyData.str) (bs := bs) (n := 0) hoL (each_paired hbs) er hal hso (by rw [hvl]; exact hlz)
    hdeep fun out hlo hout => ?_))
  obtain ⟨e', he'⟩ := PyProof.Rows.sortedHeap_at (vs := vs) (out := List.toArray out) hoL
  have hp := paired_each hout
  have pms := List.mergeSort_perm bs (PySem.W.dataLe false PyData.str)
  have rise : Rise (bs.mergeSort (PySem.W.dataLe false PyData.str)) := by
    refine rise_of ?_ ((pms.trans pk).nodup_iff.mpr nd)
    have e : PySem.W.dataLe false PyData.str = fun a b : Str => decide (a.cps.toList ≤ b.cps.toList) := PySem.W.dataLe_str id
    rw [e]
    refine List.pairwise_mergeSort ?_ ?_ bs
    · intro a b c h1 h2
      exact decide_eq_true (List.le_trans (of_decide_eq_true h1) (of_decide_eq_true h2))
    · intro a b
      rcases List.le_total a.cps.toList b.cps.toList with z | z <;> simp [z]
  have hlen : (bs.mergeSort (PySem.W.dataLe false PyData.str)).length = n := by rw [List.length_mergeSort]; exact hvl
  have hnew : H s1.heap.objs.size = none := I.hok.fresh hz
  have key : ∀ h', (∀ b u, s1.heap.get? b = some u → h'.get? b = some u) → h'.get? s1.heap.objs.size = some (seqObj "list" (List.toArray out) e') →
      EP X pins σ Q (.ref s1.heap.objs.size) { s1 with heap := h' } := fun h' kk hg => by
    have J : Inv X pins σ (upd H s1.heap.objs.size (.lst ((bs.mergeSort (PySem.W.dataLe false PyData.str)).map V.str))) { s with heap := h', gens := s1.gens, drawn := s1.drawn, toks := s1.toks } :=
      I.call (ch := []) (Un.laid (fun b u e => kk b u (k1 b u e)) hz hnew) (I.hok.laid (fun b u e => kk b u (k1 b u e)) hz ⟨by rw [List.length_map, hlen]; exact hlz, out, e', paired_vals hp, by simpa using hg⟩) (by rw [g1]; exact I.bare) (fun _ z => nomatch z)
    have e : ({ s1 with heap := h' } : Shared) = { s with heap := h', gens := s1.gens, drawn := s1.drawn, toks := s1.toks } := by
      cases s1
      cases s
      cases o1
      rfl
    rw [e]
    exact ⟨.ref s1.heap.objs.size, _, J, rfl, q _ _ hnew rise (fun k => by rw [(pms.trans pk).mem_iff]; exact (hm k).symm) hlen⟩
  refine wpAny_pure ⟨_, rfl, key _ (fun b u eb => ?_) he'⟩
  have hb' : b < s1.heap.objs.size := Heap.lt_size eb
  rw [PyProof.Rows.sortedHeap_old (Nat.ne_of_lt hb') (by rw [size_push']; exact Nat.lt_succ_of_lt hb')]
  exact Heap.get?_push_of_some _ eb
end
section
variable {C : Ctx} {Γ : Gm} {L : Lp} {Q : D → Lp → Prop}
theorem c_setX {p : Addr} {xs : List Str} (hp : L p = some (.lst (xs.map D.str))) (hb : xs.length + 1 < scanBound) (q : ∀ l n, L l = none → n ≤ xs.length → Q (.ptr l) (put L l (.txs (fun k => decide (k ∈ xs)) n))) : LcR C (rSetX C.X.K C.X.w) [.ptr p] L Q := fun F vs H c r0 QV go => by
  obtain ⟨v, rfl, r⟩ := r0.oneE
  obtain ⟨ws, ha, ra, hz⟩ := c.at_ p _ hp
  have e := reps_strs ra
  subst e
  refine ⟨p, xs, by rw [r.ptrE], SqL.of ha, hb, fun l n hl hn => go _ _ _ (put L l (.txs (fun k => decide (k ∈ xs)) n)) (.ptr l) (c.newL hl ⟨upd_same, fun k hk => ?_⟩) (.newL hl) (q l n (c.free hl) hn)⟩
  obtain ⟨i, hi⟩ := List.getElem?_of_mem (of_decide_eq_true hk)
  obtain ⟨v, _, rv⟩ := ra.get (show (xs.map D.str)[i]? = some (.str k) by rw [List.getElem?_map, hi]; rfl)
  exact rv.bnd
theorem reps_ofS {K : PySem.W.Frag} {F : Fz} {H : Hp} : ∀ {xs : List Str}, (∀ x ∈ xs, SOk x) → Reps K F H (xs.map V.str) (xs.map D.str)
  | [], _ => .nil
  | x :: xs, h => .cons (.str x (h x List.mem_cons_self)) (reps_ofS fun y hy => h y (List.mem_cons_of_mem _ hy))
theorem c_sortX {p : Addr} {S : Str → Bool} {n : Nat} (hp : L p = some (.txs S n)) (hn : n ≤ sizeLine) (q : ∀ l ys, L l = none → Rise ys → (∀ k, k ∈ ys ↔ S k = true) → ys.length = n → Q (.ptr l) (put L l (.lst (ys.map D.str)))) : LcR C (rSortX C.X.w) [.ptr p] L Q := fun F vs H c r0 QV go => by
  obtain ⟨v, rfl, r⟩ := r0.oneE
  obtain ⟨ha, hs⟩ := c.at_ p _ hp
  refine ⟨p, S, n, by rw [r.ptrE], ha, fun l ys hl h1 h2 h3 => go _ _ _ (put L l (.lst (ys.map D.str))) (.ptr l) (c.newL hl ⟨_, upd_same, reps_ofS fun x hx => hs x ((h2 x).1 hx), by rw [List.length_map, h3]; exact hn⟩) (.newL hl) (q l ys (c.free hl) h1 h2 h3)⟩
end
end DL
namespace DL
open PySem PySem.Spec PyProof.Rows L2

/-! ### classes with slots -/
def putF (i : Nat) (d : D) (fs : List (Option D)) : List (Option D) := (fs ++ List.replicate (i + 1 - fs.length) none).set i (some d)
theorem putF_get (i : Nat) (d : D) (fs : List (Option D)) : (putF i d fs)[i]? = some (some d) := by
  unfold putF
  exact List.getElem?_set_self (by simp only [List.length_append, List.length_replicate]; omega)
theorem putF_ne {i j : Nat} {d x : D} {fs : List (Option D)} (h : j ≠ i) : (putF i d fs)[j]? = some (some x) ↔ fs[j]? = some (some x) := by
  unfold putF
  rw [List.getElem?_set_ne (Ne.symm h)]
  by_cases hj : j < fs.length
  · rw [List.getElem?_append_left hj]
  · rw [List.getElem?_eq_none_iff.mpr (by omega : fs.length ≤ j), List.getElem?_append_right (by omega), List.getElem?_replicate]
    constructor
    · intro q
      split at q <;> cases q
    · intro q
      cases q
theorem SlotR.put {K : PySem.W.Frag} {F : Fz} {H : Hp} {vs : List (Option V)} {fs : List (Option D)} (r : SlotR K F H vs fs) (i : Nat) {v : V} {d : D} (rv : Rep K F H v d) : SlotR K F H (SlX.putS i v vs) (putF i d fs) := by
  intro j x hx
  by_cases hj : j = i
  · subst hj
    rw [putF_get] at hx
    cases hx
    exact ⟨v, SlX.putS_get j v vs, rv⟩
  · obtain ⟨u, e, r'⟩ := r j x ((putF_ne hj).mp hx)
    exact ⟨u, (SlX.putS_ne hj).mpr e, r'⟩
section
variable {X : Cx} {o value : Expr} {f : Str} {pos pos' : Pos} {ta tv : TE}
/-- a store, and what is known of the instance's own dict -/
def sSl2 (K : PySem.W.Frag) (ta tv : TE) (f : Str) : TS := fun D σ H => tv σ H fun y H1 => ta σ H1 fun x H2 => ∃ a C dx p vs i, x = .ref a ∧ SlX.Slt H2 a C dx vs ∧ SlX.SCls K C ∧ SlX.Slot1 K C f p i ∧ (dx ≠ a → (H2 dx = some (.own a) ∨ H2 dx = some (.xd [])) → D.nx σ (SlX.slH H2 a C dx (SlX.putS i y vs)))
theorem ps_sl2 (ha : PE X o ta) (hv : PE X value tv) (hs : swapsWith value (some (.Attribute o f pos')) pos.line X.env = pure false := by rfl) : PS X (.Assign [.Attribute o f pos'] value pos) (sSl2 X.K ta tv f) := by
  refine ⟨fun pins s σ H D I h => ?_⟩
  refine plainObj_wpAny_Assign_Attribute (thn (hv.run pins s σ H _ I h) fun u s1 ⟨y, H1, I1, ry, q⟩ => thn (ha.run pins s1 σ H1 _ I1 q) fun ov s2 ⟨x, H2, I2, rx, a, C, dx, p, vs, i, ex, sl, c, t, q2⟩ => ?_) hs
  subst ex
  obtain rfl : ov = Value.ref a := rx
  have kn : H2 dx = some (.own a) ∨ H2 dx = some (.xd []) := by
    rcases sl with ⟨h1, _⟩ | ⟨_, h2⟩
    · obtain ⟨_, _, _, _, _, ho⟩ := ins_get I2.hok h1
      exact .inl ho
    · exact .inr h2
  exact SlX.setslot_ok I2 sl c t ry fun s3 I3 => ⟨σ, _, I3, q2 (SlX.slt_at I2 sl).1 kn⟩
end
section
variable {C : Ctx} {Γ : Gm} {L : Lp} {e o fe value : Expr} {es : List Expr} {pos p pos' apos np : Pos} {Q : D → Lp → Prop} {E : AEnds} {x f m : Str} {k : Nat} {sp : SpA} {Cl g : Addr}
/-- x is an instance of Cl: one of the store, or a frozen one -/
def IsIns (L : Lp) (x : D) (Cl : Addr) : Prop := (∃ a fs, x = .ptr a ∧ L a = some (.ins Cl fs)) ∨ ∃ fs, x = .obj Cl fs
/-- .. and its slot i holds d -/
def HasF (L : Lp) (x : D) (Cl : Addr) (i : Nat) (d : D) : Prop := (∃ a fs, x = .ptr a ∧ L a = some (.ins Cl fs) ∧ fs[i]? = some (some d)) ∨ ∃ fs, x = .obj Cl fs ∧ fs[i]? = some d
theorem HasF.st {a : Addr} {fs : List (Option D)} {i : Nat} {d : D} (h : L a = some (.ins Cl fs)) (e : fs[i]? = some (some d)) : HasF L (.ptr a) Cl i d := .inl ⟨a, fs, rfl, h, e⟩
theorem HasF.fz {fs : List D} {i : Nat} {d : D} (e : fs[i]? = some d) : HasF L (.obj Cl fs) Cl i d := .inr ⟨fs, rfl, e⟩
theorem IsIns.st {a : Addr} {fs : List (Option D)} (h : L a = some (.ins Cl fs)) : IsIns L (.ptr a) Cl := .inl ⟨a, fs, rfl, h⟩
theorem IsIns.fz {fs : List D} : IsIns L (.obj Cl fs) Cl := .inr ⟨fs, rfl⟩
theorem HasF.ins {x d : D} {i : Nat} (h : HasF L x Cl i d) : IsIns L x Cl := by
  rcases h with ⟨a, fs, e, h, _⟩ | ⟨fs, e, _⟩
  · exact .inl ⟨a, fs, e, h⟩
  · exact .inr ⟨fs, e⟩
theorem IsIns.slt {F : Fz} {H : Hp} {v : V} {x : D} (h : IsIns L x Cl) (c : C.Con L F H) (r : Rep C.X.K F H v x) : ∃ a dx vs, v = .ref a ∧ SlX.Slt H a Cl dx vs := by
  rcases h with ⟨a, fs, rfl, ha⟩ | ⟨fs, rfl⟩
  · obtain ⟨dx, vs, st, _⟩ := c.at_ a _ ha
    exact ⟨a, dx, vs, r.ptrE, st⟩
  · cases r with
    | obj hl h hx hu hn hi => exact ⟨_, _, _, rfl, .inr ⟨h, hx⟩⟩
theorem HasF.slt {F : Fz} {H : Hp} {v : V} {x d : D} {i : Nat} (h : HasF L x Cl i d) (c : C.Con L F H) (r : Rep C.X.K F H v x) : ∃ a dx vs u, v = .ref a ∧ SlX.Slt H a Cl dx vs ∧ vs[i]? = some (some u) ∧ Rep C.X.K F H u d := by
  rcases h with ⟨a, fs, rfl, ha, hd⟩ | ⟨fs, rfl, hd⟩
  · obtain ⟨dx, vs, st, sr⟩ := c.at_ a _ ha
    obtain ⟨u, e1, e2⟩ := sr i d hd
    exact ⟨a, dx, vs, u, r.ptrE, st, e1, e2⟩
  · cases r with
    | @obj a _ dx us vs _ hl h hx hu hn hi =>
      have hlt : i < vs.length := by rw [hn]; exact (List.getElem?_eq_some_iff.mp hd).1
      exact ⟨_, _, _, vs[i], rfl, .inr ⟨h, hx⟩, hu i _ (List.getElem?_eq_getElem hlt), hi i _ d (List.getElem?_eq_getElem hlt) hd⟩
theorem ae_sl (h : AE C e Γ L fun x L1 => ∃ Cl p i d, HasF L1 x Cl i d ∧ SlX.SCls C.X.K Cl ∧ SlX.Slot1 C.X.K Cl f p i ∧ Q d L1) (hb : attributeBase e f C.X.env (eval e C.X.env) = eval e C.X.env := by rfl) : AE C (.Attribute e f pos) Γ L Q := fun F σ H ok QV go =>
  we_of (SlX.pe_sl pe_we hb) (h _ σ H ok _ fun v x H1 L1 r c fr ⟨Cl, p, i, d, hf, sc, sl, q⟩ => by
    obtain ⟨a, dx, vs, u, e, st, e1, e2⟩ := hf.slt c r
    exact ⟨a, Cl, dx, p, vs, i, u, e, st, sc, sl, e1, go u d H1 L1 e2 c fr q⟩)
theorem Stay.slH {H : Hp} {a Cl dx : Addr} {vs : List (Option V)} {fs : List (Option V)} (st : SlX.Slt H a Cl dx fs) (kn : H dx = some (.own a) ∨ H dx = some (.xd [])) : Stay H (SlX.slH H a Cl dx vs) := by
  have key : ∀ b u, H b = some u → (∀ xs, u ≠ .ins Cl dx xs) → (∀ ws, u ≠ SlX.SlO a Cl dx ws) → b ≠ a := fun b u e n1 n2 z => by
    rw [z] at e
    rcases st with ⟨h1, _⟩ | ⟨h1, _⟩ <;> rw [h1] at e
    · exact n1 _ (Option.some.inj e).symm
    · exact n2 _ (Option.some.inj e).symm
  refine ⟨fun b ws e => ?_, fun b ob u e => ?_, fun b e => ?_⟩
  · have h1 := key b _ e (fun _ z => nomatch z) (fun _ z => by unfold SlX.SlO at z; cases z)
    have h2 : b ≠ dx := fun z => by rw [z] at e; rcases kn with q | q <;> rw [q] at e <;> cases e
    rw [SlX.slH_ne h1 h2]; exact e
  · have h1 := key b _ e (fun _ z => nomatch z) (fun _ z => by unfold SlX.SlO at z; cases z)
    have h2 : b ≠ dx := fun z => by rw [z] at e; rcases kn with q | q <;> rw [q] at e <;> cases e
    rw [SlX.slH_ne h1 h2]; exact e
  · have h1 := key b _ e (fun _ z => nomatch z) (fun _ z => by unfold SlX.SlO at z; cases z)
    by_cases h2 : b = dx
    · unfold SlX.slH
      rw [upd_ne h1, h2, upd_same]
    · rw [SlX.slH_ne h1 h2]; exact e
theorem as_sl (h : AE C value Γ L fun y L1 => AE C o Γ L1 fun x L2 => ∃ a Cl fs p i, x = .ptr a ∧ L2 a = some (.ins Cl fs) ∧ SlX.SCls C.X.K Cl ∧ SlX.Slot1 C.X.K Cl f p i ∧ E.nx Γ (put L2 a (.ins Cl (putF i y fs)))) (hs : swapsWith value (some (.Attribute o f pos')) pos.line C.X.env = pure false := by rfl) : AS C (.Assign [.Attribute o f pos'] value pos) Γ L E := fun F σ H ok DD go =>
  ws_of (ps_sl2 pe_we pe_we hs) (h _ σ H ok _ fun vy y H1 L1 ry c1 f1 q1 => q1 _ σ H1 (ok.step c1 f1) _ fun {F2} vx x H2 L2 rx c2 f2 ⟨a, Cl, fs, p, i, ex, ha, sc, sl, q⟩ => by
    subst ex
    obtain ⟨dx, vs, st, sr⟩ := c2.at_ a _ ha
    refine ⟨a, Cl, dx, p, vs, i, rx.ptrE, st, sc, sl, fun ne kn => ?_⟩
    have stay : Stay H2 (SlX.slH H2 a Cl dx (SlX.putS i vy vs)) := Stay.slH st kn
    have dxL : ∀ b mo, L2 b = some mo → b ≠ dx := fun b mo hb z => by
      have hcc := c2.at_ b mo hb
      subst z
      cases mo with
      | lst ds => obtain ⟨ws, h1, _⟩ := hcc; rcases kn with q | q <;> rw [q] at h1 <;> cases h1
      | dct ds => obtain ⟨ws, h1, _⟩ := hcc; rcases kn with q | q <;> rw [q] at h1 <;> cases h1
      | ins C' fs' =>
        obtain ⟨dx', vs', h1, _⟩ := hcc
        rcases h1 with ⟨h1, _⟩ | ⟨h1, _⟩ <;> rcases kn with q | q <;> rw [q] at h1 <;> first | cases h1 | (unfold SlX.SlO at h1; cases h1)
      | set S n => rcases kn with q | q <;> rw [show H2 b = _ from hcc] at q <;> cases q
      | txs S n => rcases kn with q | q <;> rw [hcc.1] at q <;> cases q
      | kd kds => obtain ⟨kvs, e, _⟩ := hcc; rcases kn with q | q <;> rw [e] at q <;> cases q
      | nd kds => obtain ⟨xs, e, _⟩ := hcc; rcases kn with q | q <;> rw [e] at q <;> (unfold ndO at q; cases q)
    have nfa := c2.nw ha
    have mv : Mv F2 H2 F2 (SlX.slH H2 a Cl dx (SlX.putS i vy vs)) := ⟨stay, fun _ z => z, fun b u z e => by
      have h1 : b ≠ a := fun q => nfa (q ▸ z)
      have h2 : b ≠ dx := fun q => by
        obtain ⟨_, o', e', n1, n2⟩ := c2.fz b z
        rw [q] at e'
        rcases kn with k | k
        · rw [k] at e'; exact n1 a (Option.some.inj e').symm
        · rw [k] at e'; exact n2 (Option.some.inj e').symm
      rw [SlX.slH_ne h1 h2]; exact e⟩
    have fr : Fr L2 F2 H2 (put L2 a (.ins Cl (putF i y fs))) F2 (SlX.slH H2 a Cl dx (SlX.putS i vy vs)) := by
      refine ⟨fun b u e no n => ?_, fun b e => upd_live (upd_live e), stay, fun b z => ?_, mv.fz, mv.fk, fun b z => .inl z⟩
      · have h1 : b ≠ a := fun z => by rw [z, ha] at n; cases n
        by_cases h2 : b = dx
        · subst h2
          rcases kn with q | q
          · rw [q] at e; exact absurd (Option.some.inj e).symm (no a)
          · rw [q] at e
            cases e
            exact stay.xd _ q
        · rw [SlX.slH_ne h1 h2]; exact e
      · by_cases e : b = a
        · exact .inl (by rw [e, ha]; simp)
        · rw [put_ne e] at z
          exact .inl z
    refine go.nx _ _ Γ (put L2 a (.ins Cl (putF i y fs))) (ok.step ⟨fun b mo hb => ?_, fun b z => ?_⟩ ((f1.trans f2).trans fr)) ((f1.trans f2).trans fr) q
    · by_cases e : b = a
      · subst e
        rw [put_same] at hb
        cases hb
        exact ⟨dx, SlX.putS i vy vs, SlX.slH_slt ne, (sr.put i (ry.mono f2.mv)).mono mv⟩
      · rw [put_ne e] at hb
        exact (c2.at_ b mo hb).mono mv (SlX.slH_ne e (dxL b mo hb))
    · obtain ⟨n, u, e, k1, k2⟩ := c2.fz b z
      have h1 : b ≠ a := fun q => nfa (q ▸ z)
      exact ⟨by rw [put_ne h1]; exact n, u, mv.fk b u z e, k1, k2⟩)
/-- an instance is made -/
theorem run_makeA {pins : List (Addr × Obj)} {σ : L2.St} {Z : Fz} {H : Hp} {s : Shared} {us : List Value} {vs : List V} {ds : List D} {QV : VK} (M : Mk C.X.K Cl g) (F : FnA C.X.prog C.X.w C.X.K C.X.mg C.X.base k g sp) (hr : Room (k + 1) C.X.A) (I : Inv C.X pins σ H s) (ok : Ok C Γ L Z σ H) (r : Vals vs us) (rd : Reps C.X.K Z H vs ds)
    (h : ∀ x, L x = none → sp (.ptr x :: ds) (put L x (.ins Cl [])) (fun v L2 => v = .non ∧ Q (.ptr x) L2) (C.R Γ)) (go : Go C L Z H Q QV) : wpAny (model C.X.prog C.X.w) C.X.A (call (.ref Cl) us) (EP C.X pins σ QV) C.X.xe s := by
  have n1 : H (s.heap.objs.size + 1) = none := I.hok.fresh (Nat.le_succ _)
  have n0 : H s.heap.objs.size = none := I.hok.fresh (Nat.le_refl _)
  have hne : s.heap.objs.size + 1 ≠ s.heap.objs.size := Nat.ne_of_gt (Nat.lt_succ_self _)
  have n1' : (upd H s.heap.objs.size (.own (s.heap.objs.size + 1))) (s.heap.objs.size + 1) = none := by rw [upd_ne hne]; exact n1
  have I2 := Inv.made (C := Cl) I
  have c2 : C.Con (put L (s.heap.objs.size + 1) (.ins Cl [])) Z (upd (upd H s.heap.objs.size (.own (s.heap.objs.size + 1))) (s.heap.objs.size + 1) (.ins Cl s.heap.objs.size [])) :=
    (ok.con.new n0).newL n1' ⟨s.heap.objs.size, [], .inl ⟨upd_same, rfl⟩, fun i d e => by simp at e⟩
  have f2 : Fr L Z H (put L (s.heap.objs.size + 1) (.ins Cl [])) Z (upd (upd H s.heap.objs.size (.own (s.heap.objs.size + 1))) (s.heap.objs.size + 1) (.ins Cl s.heap.objs.size [])) := (Fr.new n0).trans (Fr.newL n1')
  have r2 : Vals (V.ref (s.heap.objs.size + 1) :: vs) (Value.ref (s.heap.objs.size + 1) :: us) := .cons rfl r
  refine wpAny_call (make_map (f := g) I.kIn M.makes M.init (beq_iff_eq.mp M.fn) (codeAny_mono (F _ C.X.stack _ _ (Value.ref (s.heap.objs.size + 1) :: us) _ (fun v H2 => v = .non ∧ QV (.ref (s.heap.objs.size + 1)) H2) (L2.WE C.W σ) (hr.make Cl us []) (I2.env0.make Cl us []) r2 ?_) fun r s' hq' => ?_))
  · refine ⟨.ptr (s.heap.objs.size + 1) :: ds, _, Z, _, C.R Γ, .cons (.ptr _) (rd.mono f2.mv), c2, h _ (ok.con.free n1), fun d L' ⟨ed, q⟩ v H' rv c fr => ?_, fun cls fs L' q d H' xd c fr => ok.lr.of cls d σ H' Γ L' fs (ok.sl.mono (f2.trans fr).mv) c (f2.trans fr) xd q⟩
    subst ed
    exact ⟨rv.nonE, go _ _ H' L' (.ptr _) c (f2.trans fr) q⟩
  · cases r with
    | error e => exact passAt C.tk σ pins _ _ e s' I2 hq'
    | ok fl =>
      cases fl with
      | ret u =>
        obtain ⟨v, H', I3, rv, ev, q3⟩ := I2.after hq'
        subst ev
        exact ⟨rv, ⟨V.ref (s.heap.objs.size + 1), H', I3, rfl, q3⟩⟩
      | next => exact False.elim hq'
      | brk => exact False.elim hq'
      | cont => exact False.elim hq'
/-- Cl(e, ..), Cl the module's class x -/
theorem ae_make (M : Mk C.X.K Cl g) (F : FnA C.X.prog C.X.w C.X.K C.X.mg C.X.base k g sp) (hm : C.X.mg x = some (.ref Cl)) (hr : Room (k + 1) C.X.A) (h : AA C (e :: es) Γ L fun ds L1 => ∀ x, L1 x = none → sp (.ptr x :: ds) (put L1 x (.ins Cl [])) (fun v L2 => v = .non ∧ Q (.ptr x) L2) (C.R Γ)) (hg : Gl C.X x := by rfl) (hdb : (x == ("__debug__" : Str)) = false := by decide)
    (he : starEach (e :: es) C.X.env = (false, eval e C.X.env) :: starEach es C.X.env := by rfl) (hpl : (backTo pos (starEach es C.X.env)).any (·.1) = false := by rfl) : AE C (.Call (.Name x p) (e :: es) [] pos) Γ L Q := fun Z σ H ok QV go => by
  refine ⟨fun pins s I => ?_⟩
  refine wpAny_Call_Name_kw (ld_glob I hg hm ?_ hdb)
  refine PySem.W.callWith_K (h₀ := C.X.base) I.ok.mod.kin M.kp (thn ((h _ σ H ok (fun vs H1 => ∃ ds L1 Z1, Reps C.X.K Z1 H1 vs ds ∧ C.Con L1 Z1 H1 ∧ Fr L Z H L1 Z1 H1 ∧ ∀ x, L1 x = none → sp (.ptr x :: ds) (put L1 x (.ins Cl [])) (fun v L2 => v = .non ∧ Q (.ptr x) L2) (C.R Γ)) (fun vs ds H1 L1 r c f q => ⟨ds, L1, _, r, c, f, q⟩)).run pos pins s I) fun us s1 ⟨vs, H1, I1, r, ds, L1, Z1, rd, c1, f1, q⟩ => ⟨I1.kIn, ?_⟩) he hpl
  exact run_makeA M F hr I1 (ok.step c1 f1) r rd q (go.after f1)
/-- f(e, ..), f an instance of Cl -/
theorem ae_callO (c : StX.CallO C.X.K Cl g) (F : FnA C.X.prog C.X.w C.X.K C.X.mg C.X.base k g sp) (hr : Room k C.X.A) (h : AE C fe Γ L fun y L1 => (∃ a, y = .ptr a ∨ ∃ fs, y = .obj a fs) ∧ AA C (e :: es) Γ L1 fun ds L2 => IsIns L2 y Cl ∧ sp (y :: ds) L2 Q (C.R Γ))
    (ht : eval (.Call fe (e :: es) [] pos) C.X.env = (do callWith pos (← eval fe C.X.env) [] (backTo pos (starEach (e :: es) C.X.env)) (backToKw pos (keywordEach [] C.X.env))) := by rfl)
    (he : starEach (e :: es) C.X.env = (false, eval e C.X.env) :: starEach es C.X.env := by rfl) (hpl : (backTo pos (starEach es C.X.env)).any (·.1) = false := by rfl) : AE C (.Call fe (e :: es) [] pos) Γ L Q := fun Z σ H ok QV go => by
  refine ⟨fun pins s I => ?_⟩
  refine Call_ (thn ((h _ σ H ok (fun v H1 => ∃ y a L1 Z1, v = .ref a ∧ Rep C.X.K Z1 H1 v y ∧ C.Con L1 Z1 H1 ∧ Fr L Z H L1 Z1 H1 ∧ AA C (e :: es) Γ L1 fun ds L2 => IsIns L2 y Cl ∧ sp (y :: ds) L2 Q (C.R Γ)) (fun v y H1 L1 r cc f ⟨ey, q⟩ => by
    obtain ⟨a, rfl⟩ : ∃ a, v = .ref a := by
      rcases ey with ⟨a, rfl | ⟨fs, rfl⟩⟩
      · exact ⟨a, r.ptrE⟩
      · cases r; exact ⟨_, rfl⟩
    exact ⟨y, a, L1, _, rfl, r, cc, f, q⟩)).run pins s I) fun u s1 ⟨v, H1, I1, ry, y, a, L1, Z1, ev, rep, c1, f1, q⟩ => ?_) ht
  subst ev
  obtain rfl : u = Value.ref a := ry
  refine StX.callO_with (thn ((q _ σ H1 (ok.step c1 f1) (fun vs H2 => ∃ ds L2 Z2, Reps C.X.K Z2 H2 vs ds ∧ C.Con L2 Z2 H2 ∧ Fr L1 Z1 H1 L2 Z2 H2 ∧ IsIns L2 y Cl ∧ sp (y :: ds) L2 Q (C.R Γ)) (fun vs ds H2 L2 r cc f q => ⟨ds, L2, _, r, cc, f, q⟩)).run pos pins s1 I1) fun us s2 ⟨vs, H2, I2, r, ds, L2, Z2, rd, c2, f2, hi, q2⟩ => ?_) he hpl
  obtain ⟨a', dx, ws, ea, st⟩ := hi.slt c2 (rep.mono f2.mv)
  cases ea
  obtain ⟨ox, od, J, hd⟩ := StX.insC_at I2 (.inl ⟨dx, ws, st⟩)
  exact ⟨⟨Cl, ox, od, J, hd⟩, wpAny_call (PySem.W.kco_code I2.kIn J hd c.at_ c.fn c.fi (run_fnA (us := .ref a :: us) (vs := .ref a :: vs) F hr I2 (ok.step c2 (f1.trans f2)) (.cons rfl r) (.cons (rep.mono f2.mv) rd) q2 (go.after (f1.trans f2))))⟩
/-- o.m(e, ..), o.m() -/
theorem ae_meth {pl : Sem Bool} (c : SlX.SCls C.X.K Cl) (hm : Meth C.X.K Cl m g) (F : FnA C.X.prog C.X.w C.X.K C.X.mg C.X.base k g sp) (hr : Room k C.X.A) (h : AE C o Γ L fun y L1 => IsIns L1 y Cl ∧ AA C (e :: es) Γ L1 fun ds L2 => sp (y :: ds) L2 Q (C.R Γ))
    (hst : starEach (e :: es) C.X.env = (false, eval e C.X.env) :: starEach es C.X.env := by rfl) (hpl : (backTo pos (starEach es C.X.env)).any (·.1) = false := by rfl)
    (ht : eval (.Call (.Attribute o m apos) (e :: es) [] pos) C.X.env = (do
      let ov ← eval o C.X.env
      standAt apos.atName
      let (f, first) ← holding [ov] (getMethod ov m pl)
      callWith pos f first (backTo pos (starEach (e :: es) C.X.env)) (backToKw pos (keywordEach [] C.X.env))) := by rfl) : AE C (.Call (.Attribute o m apos) (e :: es) [] pos) Γ L Q := fun Z σ H ok QV go => by
  refine ⟨fun pins s I => ?_⟩
  refine PySem.W.methodCall_KW (pl := pl) (thn ((h _ σ H ok (fun v H1 => ∃ y L1 Z1, Rep C.X.K Z1 H1 v y ∧ C.Con L1 Z1 H1 ∧ Fr L Z H L1 Z1 H1 ∧ IsIns L1 y Cl ∧ AA C (e :: es) Γ L1 fun ds L2 => sp (y :: ds) L2 Q (C.R Γ)) (fun v y H1 L1 r cc f ⟨hi, q⟩ => ⟨y, L1, _, r, cc, f, hi, q⟩)).run pins s I) fun u s1 ⟨v, H1, I1, ry, y, L1, Z1, rep, c1, f1, hi, q⟩ => ?_) ht
  obtain ⟨a, dx, ws, ea, st⟩ := hi.slt c1 rep
  subst ea
  obtain rfl : u = Value.ref a := ry
  refine SlX.getmethsl_ok I1 st c hm ?_
  refine PySem.W.callWith_K (first := [.ref a]) (h₀ := C.X.base) I.ok.mod.kin hm.kp (thn ((q _ σ H1 (ok.step c1 f1) (fun vs H2 => ∃ ds L2 Z2, Reps C.X.K Z2 H2 vs ds ∧ C.Con L2 Z2 H2 ∧ Fr L1 Z1 H1 L2 Z2 H2 ∧ sp (y :: ds) L2 Q (C.R Γ)) (fun vs ds H2 L2 r cc f q => ⟨ds, L2, _, r, cc, f, q⟩)).run pos pins s1 I1) fun us s2 ⟨vs, H2, I2, r, ds, L2, Z2, rd, c2, f2, q2⟩ => ⟨I2.kIn, ?_⟩) hst hpl
  exact wpAny_call (run_fnA (us := .ref a :: us) (vs := .ref a :: vs) F hr I2 (ok.step c2 (f1.trans f2)) (.cons rfl r) (.cons (rep.mono f2.mv) rd) q2 (go.after (f1.trans f2)))
theorem ae_meth0 {pl : Sem Bool} (c : SlX.SCls C.X.K Cl) (hm : Meth C.X.K Cl m g) (F : FnA C.X.prog C.X.w C.X.K C.X.mg C.X.base k g sp) (hr : Room k C.X.A) (h : AE C o Γ L fun y L1 => IsIns L1 y Cl ∧ sp [y] L1 Q (C.R Γ))
    (ht : eval (.Call (.Attribute o m apos) [] [] pos) C.X.env = (do
      let ov ← eval o C.X.env
      standAt apos.atName
      let (f, first) ← holding [ov] (getMethod ov m pl)
      callWith pos f first (backTo pos (starEach [] C.X.env)) (backToKw pos (keywordEach [] C.X.env))) := by rfl) : AE C (.Call (.Attribute o m apos) [] [] pos) Γ L Q := fun Z σ H ok QV go => by
  refine ⟨fun pins s I => ?_⟩
  refine PySem.W.methodCall_KW (pl := pl) (thn ((h _ σ H ok (fun v H1 => ∃ y L1 Z1, Rep C.X.K Z1 H1 v y ∧ C.Con L1 Z1 H1 ∧ Fr L Z H L1 Z1 H1 ∧ IsIns L1 y Cl ∧ sp [y] L1 Q (C.R Γ)) (fun v y H1 L1 r cc f ⟨hi, q⟩ => ⟨y, L1, _, r, cc, f, hi, q⟩)).run pins s I) fun u s1 ⟨v, H1, I1, ry, y, L1, Z1, rep, c1, f1, hi, q⟩ => ?_) ht
  obtain ⟨a, dx, ws, ea, st⟩ := hi.slt c1 rep
  subst ea
  obtain rfl : u = Value.ref a := ry
  refine SlX.getmethsl_ok I1 st c hm ?_
  exact PySem.W.callWith_K0 (first := [.ref a]) I1.kIn hm.kp (wpAny_call (run_fnA (us := [.ref a]) (vs := [.ref a]) F hr I1 (ok.step c1 f1) (.cons rfl .nil) (.cons rep .nil) q (go.after f1)))
/-- the class's property f: p, its getter g -/
structure Prop1 (K : PySem.W.Frag) (Cl : Addr) (f : Str) (p g : Addr) : Prop where
  at_ : PySem.W.findIn K (.ref Cl) f = some (some (.ref p))
  get : PySem.W.specialIn K (.ref p) "__get__" = some (some (.builtin "property.__get__"))
  tk : PySem.W.takesIn K (.ref p) = some true
  rc : ∃ rest, PySem.W.recIn K p "property" = some (.ref g :: rest)
theorem ae_prop {pr : Addr} (c : SlX.SCls C.X.K Cl) (hp : Prop1 C.X.K Cl f pr g) (F : FnA C.X.prog C.X.w C.X.K C.X.mg C.X.base k g sp) (hr : Room (k + 1) C.X.A) (h : AE C e Γ L fun y L1 => IsIns L1 y Cl ∧ sp [y] L1 Q fun _ _ _ => False)
    (hb : attributeBase e f C.X.env (eval e C.X.env) = eval e C.X.env := by rfl) : AE C (.Attribute e f pos) Γ L Q := fun Z σ H ok QV go =>
  we_of (SlX.pe_propSl (CX := L2.CX C.X.prog C.X.w) (E := fun _ _ _ => False) pe_we c hp.at_ hp.get hp.tk hp.rc F hr (fun _ _ _ _ z => by obtain ⟨_, _, _, _, _, _, _, _, _, _, _, _, z⟩ := z; exact z) hb) (h _ σ H ok _ fun v y H1 L1 r cc fr ⟨hi, q⟩ => by
    obtain ⟨a, dx, ws, ea, st⟩ := hi.slt cc r
    exact ⟨a, dx, ws, ea, st, [y], L1, _, Q, fun _ _ _ => False, .cons (ea ▸ r) .nil, cc, q, fun d L' q v H' rv c f => go v d H' L' rv c (fr.trans f) q, fun _ _ _ z => z.elim⟩)
/-! ### freezing -/
def del (L : Lp) (a : Addr) : Lp := fun b => if b = a then none else L b
theorem del_same {a : Addr} : del L a a = none := if_pos rfl
theorem del_ne {a b : Addr} (h : b ≠ a) : del L a b = L b := if_neg h
theorem del_le (a : Addr) : Le (del L a) L := fun b o e => by
  unfold del at e
  split at e
  · cases e
  · exact e
theorem del_put {a : Addr} {o : MO} (h : L a = none) : del (put L a o) a = L := by
  funext b
  unfold del
  by_cases e : b = a
  · rw [if_pos e, e, h]
  · rw [if_neg e, put_ne e]
/-- d may be told as d', the store L as L' -/
def Frz (C : Ctx) (L : Lp) (d : D) (L' : Lp) (d' : D) : Prop := ∀ pins σ s F H v, Inv C.X pins σ H s → C.Con L F H → Rep C.X.K F H v d → ∃ F' H', Inv C.X pins σ H' s ∧ Rep C.X.K F' H' v d' ∧ C.Con L' F' H' ∧ Fr L F H L' F' H'
theorem AE.frz (h : AE C e Γ L fun d L1 => ∃ d' L2, Frz C L1 d L2 d' ∧ Q d' L2) : AE C e Γ L Q := fun F σ H ok QV go => ⟨fun pins s I =>
  thn ((h _ σ H ok (fun v H' => ∃ d L' F', Rep C.X.K F' H' v d ∧ C.Con L' F' H' ∧ Fr L F H L' F' H' ∧ ∃ d' L2, Frz C L' d L2 d' ∧ Q d' L2) (fun v d H' L' r c f q => ⟨d, L', _, r, c, f, q⟩)).run pins s I) fun u s1 ⟨v, H1, I1, rv, d, L1, F1, r1, c1, f1, d', L2, z, q⟩ => by
    obtain ⟨F2, H2, I2, r2, c2, f2⟩ := z _ _ _ _ _ v I1 c1 r1
    exact ⟨v, H2, I2, rv, go v d' H2 L2 r2 c2 (f1.trans f2) q⟩⟩
theorem Frz.trans {L1 L2 : Lp} {d d1 d2 : D} (a : Frz C L d L1 d1) (b : Frz C L1 d1 L2 d2) : Frz C L d L2 d2 := fun pins σ s F H v I c r => by
  obtain ⟨F1, H1, I1, r1, c1, f1⟩ := a pins σ s F H v I c r
  obtain ⟨F2, H2, I2, r2, c2, f2⟩ := b pins σ s F1 H1 v I1 c1 r1
  exact ⟨F2, H2, I2, r2, c2, f1.trans f2⟩
theorem frz_go {F : Fz} {H : Hp} {a : Addr} {mo : MO} {o : HO} (c : C.Con L F H) (ha : L a = some mo) (ho : H a = some o) (h1 : ∀ y, o ≠ .own y) (h2 : o ≠ .xd []) : C.Con (del L a) (fun b => F b ∨ b = a) H ∧ Fr L F H (del L a) (fun b => F b ∨ b = a) H := by
  have mv : Mv F H (fun b => F b ∨ b = a) H := ⟨.refl H, fun b z => .inl z, fun b o z e => e⟩
  refine ⟨⟨fun b u e => ((c.at_ b u (del_le a b u e)).mono mv rfl), fun b z => ?_⟩, ⟨fun b u e _ _ => e, fun b z => z, .refl H, fun b z => .inl ((del_le a).ne z), fun b z => .inl z, fun b u z e => e, fun b z => ?_⟩⟩
  · rcases z with z | z
    · exact ⟨(del_le a).none (c.fz b z).1, (c.fz b z).2⟩
    · rw [z]
      exact ⟨del_same, o, ho, h1, h2⟩
  · rcases z with z | z
    · exact .inl z
    · rw [z, ha]
      exact .inr (.inl (by simp))
theorem frz_lst {a : Addr} {ds : List D} (ha : L a = some (.lst ds)) : Frz C L (.ptr a) (del L a) (.flst ds) := fun pins σ s F H v I c r => by
  obtain ⟨vs, e, rr, z⟩ := c.at_ a _ ha
  obtain ⟨c2, f2⟩ := frz_go c ha e (fun _ z => nomatch z) (fun z => nomatch z)
  have r2 := rr.mono f2.mv
  refine ⟨_, H, I, ?_, c2, f2⟩
  rw [r.ptrE]
  exact .flst (.inr rfl) e (by rw [rr.length]; exact z) rr.length fun i v d h1 h2 => by
    obtain ⟨d', e, q⟩ := r2.getV h1
    rw [h2] at e
    cases e
    exact q
theorem frz_dct {a : Addr} {kds : List (List Key × D)} (ha : L a = some (.dct kds)) : Frz C L (.ptr a) (del L a) (.fdct kds) := fun pins σ s F H v I c r => by
  obtain ⟨kvs, e, rr, z⟩ := c.at_ a _ ha
  obtain ⟨od, I1⟩ := I.lock e True.intro
  have nfa := c.nw ha
  have ne : ∀ b u, H b = some u → (∀ k, u ≠ .dT k) → b ≠ a := fun b u eb nd q => by rw [q, e] at eb; exact nd _ (Option.some.inj eb).symm
  have st : Stay H (upd H a (.frz od (.dT kvs))) := ⟨fun b vs eb => by rw [upd_ne (ne b _ eb fun _ z => nomatch z)]; exact eb, fun b o xs eb => by rw [upd_ne (ne b _ eb fun _ z => nomatch z)]; exact eb, fun b eb => by rw [upd_ne (ne b _ eb fun _ z => nomatch z)]; exact eb⟩
  have mv : Mv F H (fun b => F b ∨ b = a) (upd H a (.frz od (.dT kvs))) := ⟨st, fun b z => .inl z, fun b o z eb => by
    have hb : b ≠ a := fun q => nfa (q ▸ z)
    rw [upd_ne hb]; exact eb⟩
  have key : ∀ {kvs : List (List Key × V)} {kds : List (List Key × D)}, KDs C.X.K F H kvs kds → ∀ (i : Nat) (v : List Key × V) (d : List Key × D), kvs[i]? = some v → kds[i]? = some d → v.1 = d.1 ∧ Rep C.X.K F H v.2 d.2 := by
    intro kvs kds h
    induction h with
    | nil => intro i v d h1 _; simp at h1
    | cons h1 h2 ih =>
      intro i v d e1 e2
      cases i with
      | zero => simp at e1 e2; subst e1 e2; exact h1
      | succ i => exact ih i v d (by simpa using e1) (by simpa using e2)
  refine ⟨_, _, I1, ?_, ⟨fun b u eb => ?_, fun b zz => ?_⟩, ⟨fun b u eb _ nb => ?_, fun b zz => upd_live zz, st, fun b zz => .inl ((del_le a).ne zz), mv.fz, mv.fk, fun b zz => ?_⟩⟩
  · rw [r.ptrE]
    exact .fdct (.inr rfl) upd_same z (Paired.length rr) (fun i v d h1 h2 => (key rr i v d h1 h2).1) fun i v d h1 h2 => (key rr i v d h1 h2).2.mono mv
  · have hb : b ≠ a := fun q => by rw [q, del_same] at eb; cases eb
    exact (c.at_ b u (del_le a b u eb)).mono mv (upd_ne hb)
  · rcases zz with zz | zz
    · have hb : b ≠ a := fun q => nfa (q ▸ zz)
      obtain ⟨n, o, eo, k1, k2⟩ := c.fz b zz
      exact ⟨(del_le a).none n, o, by rw [upd_ne hb]; exact eo, k1, k2⟩
    · rw [zz]
      exact ⟨del_same, _, upd_same, (fun _ z => nomatch z), (fun z => nomatch z)⟩
  · have hb : b ≠ a := fun q => by rw [q, ha] at nb; cases nb
    rw [upd_ne hb]; exact eb
  · rcases zz with zz | zz
    · exact .inl zz
    · rw [zz, ha]
      exact .inr (.inl (by simp))
theorem frz_ins {a : Addr} {gs : List D} (ha : L a = some (.ins Cl (gs.map some))) (hn : gs ≠ []) : Frz C L (.ptr a) (del L a) (.obj Cl gs) := fun pins σ s F H v I c r => by
  obtain ⟨dx, us, st, sr⟩ := c.at_ a _ ha
  have hu : us ≠ [] := fun z => by
    cases gs with
    | nil => exact hn rfl
    | cons g gs =>
      obtain ⟨u, e, _⟩ := sr 0 g rfl
      rw [z] at e
      simp at e
  rcases st with ⟨_, z⟩ | ⟨e, hx⟩
  · exact absurd z hu
  obtain ⟨c2, f2⟩ := frz_go c ha e (fun _ z => by unfold SlX.SlO at z; cases z) (fun z => by unfold SlX.SlO at z; cases z)
  have key : ∀ i (h : i < gs.length), ∃ u, us[i]? = some (some u) ∧ Rep C.X.K F H u gs[i] := fun i h => sr i gs[i] (by rw [List.getElem?_map, List.getElem?_eq_getElem h]; rfl)
  have hv : ∃ vs : List V, vs.length = gs.length ∧ ∀ (i : Nat) (v : V), vs[i]? = some v → us[i]? = some (some v) ∧ ∀ d, gs[i]? = some d → Rep C.X.K F H v d := by
    refine ⟨List.ofFn fun i : Fin gs.length => (key i.1 i.2).choose, by simp, fun i v e => ?_⟩
    have hi := (List.getElem?_eq_some_iff.mp e).1
    rw [List.length_ofFn] at hi
    rw [List.getElem?_ofFn, dif_pos hi] at e
    cases e
    refine ⟨(key i hi).choose_spec.1, fun d hd => ?_⟩
    rw [List.getElem?_eq_getElem hi] at hd
    cases hd
    exact (key i hi).choose_spec.2
  obtain ⟨vs, hl, hvs⟩ := hv
  refine ⟨_, H, I, ?_, c2, f2⟩
  rw [r.ptrE]
  exact .obj (.inr rfl) e hx (fun i v h => (hvs i v h).1) hl fun i v d h1 h2 => ((hvs i v h1).2 d h2).mono f2.mv
/-- a slot's content is frozen -/
theorem frz_fld {a t : Addr} {fs : List (Option D)} {i : Nat} {x' : D} {L' : Lp} (ha : L a = some (.ins Cl fs)) (hi : fs[i]? = some (some (.ptr t))) (z : Frz C L (.ptr t) L' x') (ha' : L' a = some (.ins Cl fs)) : Frz C L (.ptr a) (put L' a (.ins Cl (fs.set i (some x')))) (.ptr a) := fun pins σ s F H v I c r => by
  obtain ⟨F', H', I', r', c', f'⟩ := z pins σ s F H (.ref t) I c (.ptr t)
  obtain ⟨dx, us, st, sr⟩ := c'.at_ a _ ha'
  obtain ⟨u, e1, e2⟩ := sr i _ hi
  have eu := e2.ptrE
  subst eu
  refine ⟨F', H', I', by rw [r.ptrE]; exact .ptr a, ⟨fun b o hb => ?_, fun b zz => ?_⟩, ⟨f'.keep, f'.live, f'.stay, fun b zz => ?_, f'.fz, f'.fk, f'.off⟩⟩
  · by_cases e : b = a
    · subst e
      rw [put_same] at hb
      cases hb
      refine ⟨dx, us, st, fun j d hj => ?_⟩
      by_cases ej : j = i
      · subst ej
        rw [List.getElem?_set_self (List.getElem?_eq_some_iff.mp hi).1] at hj
        cases hj
        exact ⟨_, e1, r'⟩
      · rw [List.getElem?_set_ne (Ne.symm ej)] at hj
        exact sr j d hj
    · rw [put_ne e] at hb
      exact c'.at_ b o hb
  · have hba : b ≠ a := fun q => c'.nw ha' (q ▸ zz)
    rw [put_ne hba]
    exact c'.fz b zz
  · by_cases e : b = a
    · exact .inl (by rw [e, ha]; simp)
    · rw [put_ne e] at zz
      exact f'.dom b zz
end
end DL
namespace DL
open PySem PySem.Spec PyProof.Rows L2
/-- each item goes to f of it, and the store stays -/
def Each (C : Ctx) (scope : Scope) (own : List (Str × Nat)) (tg elt : Expr) (Γ : Gm) (ds : List D) (L1 : Lp) (f : D → D) : Prop := ∀ (i : Nat) (d : D), ds[i]? = some d → ∃ Γ3 ws, (∀ j ∈ ws, j ∈ own.map (·.2)) ∧ ∀ s H Cc cl fp, AG (bctx C scope s H Cc cl fp) tg d (wipeG Γ (own.map (·.2))) Γ3 ws ∧ AV (bctx C scope s H Cc cl fp) elt Γ3 L1 (f d)
section
variable {C : Ctx} {Γ Γ1 Γ2 : Gm} {L : Lp} {e a b c o tg elt iter : Expr} {es ts : List Expr} {pos p1 p2 p3 : Pos} {E : AEnds} {Q : D → Lp → Prop} {scope : Scope}
theorem each1 {own : List (Str × Nat)} {ds : List D} {f : D → D} {Γ3 : D → Gm} {ws : List Nat} (hw : ∀ j ∈ ws, j ∈ own.map (·.2)) (h : ∀ (i : Nat) (d : D), ds[i]? = some d → ∀ s H Cc cl fp, AG (bctx C scope s H Cc cl fp) tg d (wipeG Γ (own.map (·.2))) (Γ3 d) ws ∧ AV (bctx C scope s H Cc cl fp) elt (Γ3 d) L (f d)) : Each C scope own tg elt Γ ds L f :=
  fun i d hd => ⟨Γ3 d, ws, hw, h i d hd⟩
theorem ae_tupLc (own : List (Str × Nat)) (hm : C.X.mg "tuple" = none) (h : AI C tg iter Γ L fun ds G L1 => ∃ f : D → D, G L1 ∧ ds.length ≤ sizeLine ∧ Each C scope own tg elt Γ ds L1 f ∧ Q (.tup (ds.map f)) L1)
    (ok : BlkOk C.X.N C.X.env.scope scope own := by (dsimp only [fctx, bctx, cxOf, envOfC, compEnvC, Cx.blk]; exact blkOk_by (by decide +kernel))) (hs : ∀ x, foldedSetIterable iter C.X.env x = pure x := by intro _; rfl) (hg : Gl C.X "tuple" := by rfl)
    (he : starEach [.ListComp elt [⟨tg, iter, [], 0⟩] scope p2] C.X.env = [(false, eval (.ListComp elt [⟨tg, iter, [], 0⟩] scope p2) C.X.env)] := by rfl) :
    AE C (.Call (.Name "tuple" p1) [.ListComp elt [⟨tg, iter, [], 0⟩] scope p2] [] pos) Γ L Q := by
  refine AE.drop (ae_callT call_tuple_of hm (aa_cons (ae_lc own ?_ ok hs) he) (hg := hg) (he := he))
  refine fun F σ H okk RV go => h _ σ H okk RV fun J H' L' ds G c f it ⟨g, hG, hz, hf, q⟩ => go J H' L' ds G c f it (lc_map g hG hz hf fun p hp => ?_)
  exact aa_nil (c_tupL put_same ⟨L', le_put hp, q⟩)
theorem ae_allLc (own : List (Str × Nat)) (hm : C.X.mg "all" = none) (h : AI C tg iter Γ L fun ds G L1 => ∃ f : D → Bool, G L1 ∧ ds.length ≤ sizeLine ∧ Each C scope own tg elt Γ ds L1 (fun d => .bl (f d)) ∧ Q (.bl (ds.all f)) L1)
    (ok : BlkOk C.X.N C.X.env.scope scope own := by (dsimp only [fctx, bctx, cxOf, envOfC, compEnvC, Cx.blk]; exact blkOk_by (by decide +kernel))) (hs : ∀ x, foldedSetIterable iter C.X.env x = pure x := by intro _; rfl) (hg : Gl C.X "all" := by rfl)
    (he : starEach [.ListComp elt [⟨tg, iter, [], 0⟩] scope p2] C.X.env = [(false, eval (.ListComp elt [⟨tg, iter, [], 0⟩] scope p2) C.X.env)] := by rfl) :
    AE C (.Call (.Name "all" p1) [.ListComp elt [⟨tg, iter, [], 0⟩] scope p2] [] pos) Γ L Q := by
  refine AE.drop (ae_callB (cr_all C.calm) hm (aa_cons (ae_lc own ?_ ok hs) he) (hg := hg) (he := he))
  refine fun F σ H okk RV go => h _ σ H okk RV fun J H' L' ds G c f it ⟨g, hG, hz, hf, q⟩ => go J H' L' ds G c f it (lc_map _ hG hz hf fun p hp => ?_)
  refine aa_nil (c_all (bs := ds.map g) (by rw [List.map_map]; exact put_same) ⟨L', le_put hp, ?_⟩)
  rw [List.all_map]
  exact q
theorem ae_anyLc (own : List (Str × Nat)) (hm : C.X.mg "any" = none) (h : AI C tg iter Γ L fun ds G L1 => ∃ f : D → Bool, G L1 ∧ ds.length ≤ sizeLine ∧ Each C scope own tg elt Γ ds L1 (fun d => .bl (f d)) ∧ Q (.bl (ds.any f)) L1)
    (ok : BlkOk C.X.N C.X.env.scope scope own := by (dsimp only [fctx, bctx, cxOf, envOfC, compEnvC, Cx.blk]; exact blkOk_by (by decide +kernel))) (hs : ∀ x, foldedSetIterable iter C.X.env x = pure x := by intro _; rfl) (hg : Gl C.X "any" := by rfl)
    (he : starEach [.ListComp elt [⟨tg, iter, [], 0⟩] scope p2] C.X.env = [(false, eval (.ListComp elt [⟨tg, iter, [], 0⟩] scope p2) C.X.env)] := by rfl) :
    AE C (.Call (.Name "any" p1) [.ListComp elt [⟨tg, iter, [], 0⟩] scope p2] [] pos) Γ L Q := by
  refine AE.drop (ae_callB (cr_any C.calm) hm (aa_cons (ae_lc own ?_ ok hs) he) (hg := hg) (he := he))
  refine fun F σ H okk RV go => h _ σ H okk RV fun J H' L' ds G c f it ⟨g, hG, hz, hf, q⟩ => go J H' L' ds G c f it (lc_map _ hG hz hf fun p hp => ?_)
  refine aa_nil (c_any (bs := ds.map g) (by rw [List.map_map]; exact put_same) ⟨L', le_put hp, ?_⟩)
  rw [List.any_map]
  exact q
end
end DL
namespace DL
open PySem PySem.Spec PyProof.Rows L2
section
variable {C : Ctx} {Γ : Gm} {L : Lp} {Q : D → Lp → Prop}
abbrev rNotN : R2 := fun x y H Q => y = .non ∧ Q (.bl (!decide (x = .non))) H
theorem r_notN {x : D} {k : Bool} (hk : match x with | .non => k = false | _ => k = true) (q : Q (.bl k) L) : L2R C rNotN x .non L Q := fun F vx vy H c rx ry QV go => by
  refine ⟨ry.nonE, ?_⟩
  have e : (!decide (vx = V.non)) = k := by
    cases rx <;> simp only at hk <;> subst hk <;> simp
  rw [e]
  exact go _ _ H L (.bl _) c (.refl L H) q
theorem pys_map {α : Type} (f : α → D) : ∀ xs : List α, pys (xs.map f) = xs.map fun x => py (f x)
  | [] => by rw [List.map_nil, pys, List.map_nil]
  | x :: xs => by rw [List.map_cons, pys, pys_map f xs, List.map_cons]
theorem okDs_map {α : Type} (f : α → D) : ∀ xs : List α, (∀ x ∈ xs, okD (f x) = true) → okDs (xs.map f) = true
  | [], _ => by rw [List.map_nil, okDs]
  | x :: xs, h => by rw [List.map_cons, okDs, h x List.mem_cons_self, okDs_map f xs fun y hy => h y (List.mem_cons_of_mem _ hy)]; rfl
theorem r_eqNil {xs : List D} (hx : okD (.tup xs) = true) (dx : (py (.tup xs)).depth ≤ 64) (q : Q (.bl xs.isEmpty) L) : L2R C (rEqD C.X.K) (.tup xs) (.tup []) L Q := by
  refine r_eqD hx (by rw [okD, okDs]) dx (by decide) ?_
  have e : PyData.eqv (py (.tup xs)) (py (.tup [])) = xs.isEmpty := by
    rw [py, py, pys]
    cases xs with
    | nil => rw [pys, PyData.eqv, PyData.eqvAll]; rfl
    | cons x xs => rw [pys, PyData.eqv, PyData.eqvAll]; rfl
  rw [e]
  exact q
end
end DL
namespace DL
open PySem PySem.Spec PyProof.Rows L2
section
variable {C : Ctx} {Γ : Gm} {L : Lp} {Q : D → Lp → Prop} {e : Expr} {pos : Pos}
theorem ae_neg (h : AE C e Γ L fun d L1 => ∃ i : Int, d = .int i ∧ Q (.int (-i)) L1) : AE C (.UnaryOp .USub e pos) Γ L Q := fun F σ H ok QV go =>
  we_of (pe_un un_neg pe_we) (h _ σ H ok _ fun v d H1 L1 r c f ⟨i, ed, q⟩ => by
    subst ed
    exact ⟨i, r.intE, go _ _ H1 L1 (.int _) c f q⟩)
end
end DL
namespace DL
open PySem PySem.Spec PyProof.Rows L2
section
variable {C : Ctx} {Γ : Gm} {L : Lp} {Q : D → Lp → Prop} {o e : Expr} {pos apos : Pos}
theorem ae_append (h : AE C o Γ L fun x L1 => ∃ p zs, x = .ptr p ∧ L1 p = some (.lst zs) ∧ AE C e Γ L1 fun y L2 => ∃ xs, L2 p = some (.lst xs) ∧ xs.length < sizeLine ∧ Q .non (put L2 p (.lst (xs ++ [y]))))
    (hp : PE C.X (.Call (.Attribute o "append" apos) [e] [] pos) (tBM C.X.K "list" rAppend (WE C.X o) (WA C.X [e])) := by exact pe_bm PySem.F.plainAttrs_list PySem.F.slot_list_append PySem.F.type_list_append mt_append pe_we pa_we)
    (hs : starEach [e] C.X.env = [(false, eval e C.X.env)] := by rfl) : AE C (.Call (.Attribute o "append" apos) [e] [] pos) Γ L Q :=
  ae_bm (id := "list.append") hp (h.mono fun x L1 ⟨p, zs, ex, hz, h2⟩ => by
    subst ex
    exact ⟨.inl ⟨rfl, zs, hz⟩, aa_cons (h2.mono fun y L2 ⟨xs, hx, hl, q⟩ => aa_nil (m_append hx hl q)) hs⟩)
theorem ae_extT (h : AE C o Γ L fun x L1 => ∃ p zs, x = .ptr p ∧ L1 p = some (.lst zs) ∧ AE C e Γ L1 fun y L2 => ∃ xs ys, y = .tup ys ∧ L2 p = some (.lst xs) ∧ xs.length + ys.length ≤ sizeLine ∧ Q .non (put L2 p (.lst (xs ++ ys))))
    (hp : PE C.X (.Call (.Attribute o "extend" apos) [e] [] pos) (tBM C.X.K "list" (rExtT C.X.K) (WE C.X o) (WA C.X [e])) := by exact pe_bm PySem.F.plainAttrs_list PySem.F.slot_list_extend PySem.F.type_list_extend mt_extendT pe_we pa_we)
    (hs : starEach [e] C.X.env = [(false, eval e C.X.env)] := by rfl) : AE C (.Call (.Attribute o "extend" apos) [e] [] pos) Γ L Q :=
  ae_bm (id := "list.extend") hp (h.mono fun x L1 ⟨p, zs, ex, hz, h2⟩ => by
    subst ex
    exact ⟨.inl ⟨rfl, zs, hz⟩, aa_cons (h2.mono fun y L2 ⟨xs, ys, ey, hx, hl, q⟩ => aa_nil (by subst ey; exact m_extendT hx hl q)) hs⟩)
theorem ae_extL (h : AE C o Γ L fun x L1 => ∃ p zs, x = .ptr p ∧ L1 p = some (.lst zs) ∧ AE C e Γ L1 fun y L2 => ∃ xs b ys, y = .ptr b ∧ L2 p = some (.lst xs) ∧ L2 b = some (.lst ys) ∧ xs.length + ys.length ≤ sizeLine ∧ Q .non (put L2 p (.lst (xs ++ ys))))
    (hp : PE C.X (.Call (.Attribute o "extend" apos) [e] [] pos) (tBM C.X.K "list" rExtend (WE C.X o) (WA C.X [e])) := by exact pe_bm PySem.F.plainAttrs_list PySem.F.slot_list_extend PySem.F.type_list_extend mt_extend pe_we pa_we)
    (hs : starEach [e] C.X.env = [(false, eval e C.X.env)] := by rfl) : AE C (.Call (.Attribute o "extend" apos) [e] [] pos) Γ L Q :=
  ae_bm (id := "list.extend") hp (h.mono fun x L1 ⟨p, zs, ex, hz, h2⟩ => by
    subst ex
    exact ⟨.inl ⟨rfl, zs, hz⟩, aa_cons (h2.mono fun y L2 ⟨xs, b, ys, ey, hx, hy, hl, q⟩ => aa_nil (by subst ey; exact m_extendL hx hy hl q)) hs⟩)
end
theorem sl_eq : sizeLine = 16777216 := rfl
end DL
namespace DL
open PySem PySem.Spec PyProof.Rows L2
section
variable {C : Ctx} {Γ : Gm} {L : Lp} {a b c : Expr} {pos : Pos}
theorem at_chain {op op' : CmpOp} {r r' : R2} {Q : Bool → Lp → Prop} (ho : OpR C.X (compareOp op) r) (ho' : OpR C.X (compareOp op') r')
    (h : AE C a Γ L fun x L1 => AE C b Γ L1 fun y L2 => L2R C r x y L2 fun d L3 => ∃ k, d = .bl k ∧ (k = true → AE C c Γ L3 fun z L4 => L2R C r' y z L4 fun d L5 => ∃ k, d = .bl k ∧ Q k L5) ∧ (k = false → Q false L3))
    (hp : PT C.X (.Compare a [op, op'] [b, c] pos) (tTest (tChain r r' (WE C.X a) (WE C.X b) (WE C.X c)))) : AT C (.Compare a [op, op'] [b, c] pos) Γ L Q := fun F σ H ok QV go =>
  wt_of hp (h _ σ H ok _ fun vx x H1 L1 rx c1 f1 q1 => q1 _ σ H1 (ok.step c1 f1) _ fun vy y H2 L2 ry c2 f2 q2 => q2 _ vx vy H2 c2 (rx.mono f2.mv) ry _ fun v d H3 L3 r3 c3 f3 ⟨k, ek, k1, k2⟩ => by
    subst ek
    refine ⟨k, r3.blE, ?_⟩
    cases k with
    | true =>
      have o3 := ok.step c3 ((f1.trans f2).trans f3)
      exact (k1 rfl) _ σ H3 o3 _ fun vz z H4 L4 rz c4 f4 q4 => q4 _ vy vz H4 c4 ((ry.mono f3.mv).mono f4.mv) rz _ fun w e H5 L5 r5 c5 f5 ⟨k', ee, q5⟩ => by
        subst ee
        exact ⟨k', r5.blE, go k' H5 L5 c5 ((((f1.trans f2).trans f3).trans f4).trans f5) q5⟩
    | false => exact ⟨false, rfl, go false H3 L3 c3 ((f1.trans f2).trans f3) (k2 rfl)⟩)
end
end DL
namespace DL
open PySem PySem.Spec PyProof.Rows L2
/-- d is a dict with these pairs, of the store or frozen -/
def DR (L : Lp) (d : D) (kds : List (List Key × D)) : Prop := (∃ t, d = .ptr t ∧ L t = some (.dct kds)) ∨ d = .fdct kds
/-- d is a list of these things -/
def LR (L : Lp) (d : D) (ds : List D) : Prop := (∃ t, d = .ptr t ∧ L t = some (.lst ds)) ∨ d = .flst ds
theorem DR.st {L : Lp} {t : Addr} {kds : List (List Key × D)} (h : L t = some (.dct kds)) : DR L (.ptr t) kds := .inl ⟨t, rfl, h⟩
theorem DR.fz {L : Lp} {kds : List (List Key × D)} : DR L (.fdct kds) kds := .inr rfl
theorem LR.st {L : Lp} {t : Addr} {ds : List D} (h : L t = some (.lst ds)) : LR L (.ptr t) ds := .inl ⟨t, rfl, h⟩
theorem LR.fz {L : Lp} {ds : List D} : LR L (.flst ds) ds := .inr rfl
theorem DR.put {L : Lp} {d : D} {kds : List (List Key × D)} (h : DR L d kds) {a : Addr} {o : MO} (n : L a = none) : DR (put L a o) d kds := by
  rcases h with ⟨t, e, h⟩ | h
  · exact .inl ⟨t, e, by rw [put_ne (ne_of_free h n)]; exact h⟩
  · exact .inr h
theorem LR.put {L : Lp} {d : D} {ds : List D} (h : LR L d ds) {a : Addr} {o : MO} (n : L a = none) : LR (put L a o) d ds := by
  rcases h with ⟨t, e, h⟩ | h
  · exact .inl ⟨t, e, by rw [put_ne (ne_of_free h n)]; exact h⟩
  · exact .inr h
/-- .. an object that is no dict written -/
theorem DR.wr {L : Lp} {d : D} {kds : List (List Key × D)} (h : DR L d kds) {a : Addr} {o u : MO} (n : L a = some u) (nd : ∀ k, u ≠ .dct k) : DR (DL.put L a o) d kds := by
  rcases h with ⟨t, e, h⟩ | h
  · refine .inl ⟨t, e, ?_⟩
    have : t ≠ a := fun z => by rw [z, n] at h; exact nd _ (Option.some.inj h)
    rw [put_ne this]; exact h
  · exact .inr h
theorem DR.le {L L' : Lp} {d : D} {kds : List (List Key × D)} (h : DR L d kds) (le : Le L L') : DR L' d kds := by
  rcases h with ⟨t, e, h⟩ | h
  · exact .inl ⟨t, e, le _ _ h⟩
  · exact .inr h
theorem LR.le {L L' : Lp} {d : D} {ds : List D} (h : LR L d ds) (le : Le L L') : LR L' d ds := by
  rcases h with ⟨t, e, h⟩ | h
  · exact .inl ⟨t, e, le _ _ h⟩
  · exact .inr h
section
variable {C : Ctx} {Γ : Gm} {L : Lp} {Q : D → Lp → Prop} {o b e tg : Expr} {pos : Pos} {d : D} {ds : List D} {kds : List (List Key × D)}
theorem DR.at_ {F : Fz} {H : Hp} {v : V} (h : DR L d kds) (c : C.Con L F H) (r : Rep C.X.K F H v d) : ∃ a kvs, v = .ref a ∧ Rd H a (.dT kvs) ∧ KDs C.X.K F H kvs kds ∧ ∀ q ∈ kds, KOk q.1 := by
  rcases h with ⟨t, rfl, ht⟩ | rfl
  · obtain ⟨kvs, h1, h2, h3⟩ := c.at_ t _ ht
    exact ⟨t, kvs, r.ptrE, .inl h1, h2, h3⟩
  · cases r with
    | fdct hl h hk hn he hi =>
      have key : ∀ {kvs : List (List Key × V)} {kds : List (List Key × D)}, kvs.length = kds.length → (∀ (i : Nat) (v : List Key × V) (d : List Key × D), kvs[i]? = some v → kds[i]? = some d → v.1 = d.1 ∧ Rep C.X.K F H v.2 d.2) → KDs C.X.K F H kvs kds := by
        intro kvs
        induction kvs with
        | nil => intro kds hl _; cases kds with | nil => exact .nil | cons _ _ => simp at hl
        | cons v vs ih =>
          intro kds hl hh
          cases kds with
          | nil => simp at hl
          | cons d ds => exact .cons (hh 0 v d rfl rfl) (ih (by simpa using hl) fun i x y h1 h2 => hh (i + 1) x y (by simpa using h1) (by simpa using h2))
      exact ⟨_, _, rfl, .inr ⟨_, h⟩, key hn fun i v d h1 h2 => ⟨he i v d h1 h2, hi i v d h1 h2⟩, hk⟩
theorem LR.at_ {F : Fz} {H : Hp} {v : V} (h : LR L d ds) (c : C.Con L F H) (r : Rep C.X.K F H v d) : ∃ a vs, v = .ref a ∧ H a = some (.lst vs) ∧ Reps C.X.K F H vs ds ∧ ds.length ≤ sizeLine := by
  rcases h with ⟨t, rfl, ht⟩ | rfl
  · obtain ⟨vs, h1, h2, h3⟩ := c.at_ t _ ht
    exact ⟨t, vs, r.ptrE, h1, h2, h3⟩
  · cases r with
    | flst hl h hz hn hi => exact ⟨_, _, rfl, h, Reps.of_get hn hi, by rw [← hn]; exact hz⟩
theorem DGet.rt {H : Hp} {a b : Addr} {kvs : List (List Key × V)} {k : List Key} (e : Rd H a (.dT kvs)) (eb : H b = some (.tup (k.map kV))) : DGet H a (.ref b) (valV kvs k) := .inr ⟨kvs, k, b, e, rfl, eb, rfl⟩
theorem dr_in {k : List Key} (hp : DR L d kds) (q : Q (.bl (valD kds k).isSome) L) : L2R C rInDT (kD k) d L Q := fun F vx vy H c rx ry QV go => by
  obtain ⟨t, rfl, ht⟩ := kD_at rx
  obtain ⟨p, kvs, rfl, ha, ra, _⟩ := hp.at_ c ry
  refine ⟨p, valV kvs k, rfl, DGet.rt ha ht, ?_⟩
  have e : (valV kvs k).isSome = (valD kds k).isSome := by
    rcases KDs.val ra k with ⟨e1, e2⟩ | ⟨v, d, e1, e2, _⟩ <;> rw [e1, e2] <;> rfl
  rw [e]
  exact go _ _ H L (.bl _) c (.refl L H) q
theorem dr_notIn {k : List Key} (hp : DR L d kds) (q : Q (.bl (!(valD kds k).isSome)) L) : L2R C rNotInDT (kD k) d L Q := fun F vx vy H c rx ry QV go => by
  obtain ⟨t, rfl, ht⟩ := kD_at rx
  obtain ⟨p, kvs, rfl, ha, ra, _⟩ := hp.at_ c ry
  refine ⟨p, valV kvs k, rfl, DGet.rt ha ht, ?_⟩
  have e : (valV kvs k).isSome = (valD kds k).isSome := by
    rcases KDs.val ra k with ⟨e1, e2⟩ | ⟨v, d, e1, e2, _⟩ <;> rw [e1, e2] <;> rfl
  rw [e]
  exact go _ _ H L (.bl _) c (.refl L H) q
theorem dr_get {k : List Key} {x : D} (hp : DR L d kds) (hv : valD kds k = some x) (q : Q x L) : L2R C rGetDT d (kD k) L Q := fun F vx vy H c rx ry QV go => by
  obtain ⟨p, kvs, rfl, ha, ra, _⟩ := hp.at_ c rx
  obtain ⟨t, rfl, ht⟩ := kD_at ry
  rcases KDs.val ra k with ⟨_, e2⟩ | ⟨v, d', e1, e2, rv⟩
  · rw [hv] at e2
    cases e2
  · rw [hv] at e2
    cases e2
    exact ⟨p, v, rfl, e1 ▸ DGet.rt ha ht, go _ _ H L rv c (.refl L H) q⟩
theorem ae_dget (hu : C.X.A.units + 1 < cLine) (h : AE C o Γ L fun x L1 => AE C b Γ L1 fun y L2 => ∃ kds k d, y = kD k ∧ DR L2 x kds ∧ valD kds k = some d ∧ Q d L2) (hs : NoSl b := by exact fun _ _ => rfl) : AE C (.Subscript o b pos) Γ L Q :=
  ae_two (r := rGetDT) (pe_dget hu pe_we pe_we hs) (h.mono fun x L1 h1 => h1.mono fun y L2 ⟨kds, k, d, ey, hp, hv, q⟩ => by
    subst ey
    exact dr_get hp hv q)
theorem lr_len (hp : LR L d ds) (q : Q (.int ds.length) L) : LcR C (rLenQ C.X.K) [d] L Q := fun F vs H c r0 QV go => by
  obtain ⟨v, rfl, r⟩ := r0.oneE
  obtain ⟨p, ws, rfl, ha, ra, hzz⟩ := hp.at_ c r
  refine ⟨p, ws, rfl, .inl (SqL.of ha), ?_⟩
  rw [ra.length]
  exact go _ _ H L (.int _) c (.refl L H) q
abbrev rLenD : List V → Hp → VK → Prop := fun xs H Q => ∃ (p : Addr) (kvs : List (List Key × V)), xs = [.ref p] ∧ Rd H p (.dT kvs) ∧ Q (.int ((kvs.length : Nat) : Int)) H
theorem call_lenD {X : Cx} : CallR X (.builtin "len") rLenD := by
  intro pins s σ H xs us Q I r h
  obtain ⟨p, kvs, rfl, hp, q⟩ := h
  obtain ⟨u, rfl, rx⟩ := vals1 r
  obtain rfl : u = .ref p := rx
  obtain ⟨z, hd, ys, rel, dd⟩ := dt_rd I.hok hp
  have hl : kvs.length = ys.length := Paired.length rel
  refine call_len_dictH hd dd (by rw [← hl]; rw [sizeLine_eq] at z; omega) ?_
  rw [← hl]
  exact ⟨.int ((kvs.length : Nat) : Int), H, I.tok _, ⟨_, rfl⟩, q⟩
theorem dr_len (hp : DR L d kds) (q : Q (.int kds.length) L) : LcR C rLenD [d] L Q := fun F vs H c r0 QV go => by
  obtain ⟨v, rfl, r⟩ := r0.oneE
  obtain ⟨p, kvs, rfl, ha, ra, _⟩ := hp.at_ c r
  refine ⟨p, kvs, rfl, ha, ?_⟩
  rw [Paired.length ra]
  exact go _ _ H L (.int _) c (.refl L H) q
theorem lr_ix {i : Int} {x : D} (hp : LR L d ds) (h : atI ds i = some x) (q : Q x L) : L2R C (rIxL C.X.K) d (.int i) L Q := fun F vx vy H c rx ry QV go => by
  obtain ⟨p, vs, rfl, ha, ra, hz⟩ := hp.at_ c rx
  obtain ⟨v, h1, h2⟩ := atI_reps ra h
  exact ⟨p, vs, i, v, rfl, ry.intE, SqL.of ha, h1, go _ _ H L h2 c (.refl L H) q⟩
theorem lr_tup (hp : LR L d ds) (q : Q (.tup ds) L) : LcR C (rTupOf C.X.K) [d] L Q := fun F vs H c r0 QV go => by
  obtain ⟨v, rfl, r⟩ := r0.oneE
  obtain ⟨p, ws, rfl, ha, ra, hzz⟩ := hp.at_ c r
  exact ⟨p, ws, rfl, .inl ⟨SqL.of ha, fun l hl => go _ _ _ L (Rep.tupI upd_same (ra.mono (.new hl)) hzz) (c.new hl) (.new hl) q⟩⟩
theorem lr_lst (hp : LR L d ds) (q : ∀ l, L l = none → Q (.ptr l) (put L l (.lst ds))) : LcR C (rLstOf C.X.K) [d] L Q := fun F vs H c r0 QV go => by
  obtain ⟨v, rfl, r⟩ := r0.oneE
  obtain ⟨p, ws, rfl, ha, ra, hzz⟩ := hp.at_ c r
  exact ⟨p, ws, rfl, .inl (SqL.of ha), fun l hl => go _ _ _ (put L l (.lst ds)) (.ptr l) (c.newL hl ⟨ws, upd_same, ra.mono (.new hl), hzz⟩) (.newL hl) (q l (c.free hl))⟩
/-- a frozen list is walked -/
theorem ai_flst {R : List D → (Lp → Prop) → Lp → Prop} (h : AE C e Γ L fun d L1 => ∃ ds, d = .flst ds ∧ (ds.length ≤ sizeLine → R ds (fun _ => True) L1)) : AI C tg e Γ L R := fun F σ H ok RV go =>
  wi_of (pi_list pe_we) (h _ σ H ok _ fun v d H1 L1 r c f ⟨ds, ed, q⟩ => by
    subst ed
    cases r with
    | @flst p vs _ hl ha hzz hn hi =>
      have ra := Reps.of_get hn hi
      refine ⟨p, rfl, ⟨vs, SqL.of ha⟩, go _ H1 L1 ds _ c f (fun i H2 L2 s2 c2 g2 => ?_) (q (by rw [← hn]; exact hzz))⟩
      have hq : SqL C.X.K H2 p vs := SqL.of (s2.fk _ _ hl ha)
      refine ⟨fun hi => ⟨vs, vs[i]'(by rw [hn]; exact hi), hq, List.getElem?_eq_getElem _⟩, fun hi => ⟨vs, hq, by rw [hn, hi]; exact Nat.le_refl _⟩, fun x H' y hi => ?_⟩
      obtain ⟨e1, y⟩ := y
      subst e1
      obtain ⟨d, hd, rd⟩ := ra.getV (y vs hq)
      exact ⟨d, hd, rd.mono s2.mv, .inl rfl⟩)
end
end DL
namespace DL
open PySem PySem.Spec PyProof.Rows L2
/-! ### the plain things: words, texts, cells, rules -/
abbrev Wd := Str
abbrev Cell := List Wd
abbrev Rl := List (List Wd × List Cell)
def dW (ws : List Wd) : D := .tup (ws.map .str)
def dC (cs : List Cell) : D := .tup (cs.map dW)
def dRu (r : List Wd × List Cell) : D := .tup [dW r.1, dC r.2]
def dR (rs : Rl) : D := .tup (rs.map dRu)
def kS (ws : List Wd) : List Key := ws.map .inr
def tbl (rs : Rl) : List (List Key × D) := rs.map fun r => (kS r.1, dC r.2)
theorem kD_kS (ws : List Wd) : kD (kS ws) = dW ws := by
  unfold kD kS dW
  rw [List.map_map]
  rfl
theorem kS_inj {a b : List Wd} (h : kS a = kS b) : a = b := by
  unfold kS at h
  exact (List.map_inj_right fun x y e => Sum.inr.inj e).mp h
theorem cut_nn {α : Type} (xs : List α) (a b : Nat) : cut xs (some (a : Int)) (some (b : Int)) = (xs.drop a).take (b - a) := by
  unfold cut
  have h1 : HT.sIx xs.length 0 (some (a : Int)) = min a xs.length := by
    unfold HT.sIx
    simp
    omega
  have h2 : HT.sIx xs.length xs.length (some (b : Int)) = min b xs.length := by
    unfold HT.sIx
    simp
    omega
  rw [h1, h2]
  by_cases h : a ≤ xs.length
  · rw [Nat.min_eq_left h]
    apply List.ext_getElem?
    intro i
    simp only [List.getElem?_take, List.getElem?_drop]
    by_cases hb : b ≤ xs.length
    · rw [Nat.min_eq_left hb]
    · rw [Nat.min_eq_right (by omega)]
      by_cases c1 : i < xs.length - a
      · rw [if_pos c1, if_pos (by omega)]
      · rw [if_neg c1]
        split
        · rw [List.getElem?_eq_none (by omega)]
        · rfl
  · have e : min a xs.length = xs.length := Nat.min_eq_right (by omega)
    rw [e, List.drop_eq_nil_of_le (Nat.le_refl _), List.drop_eq_nil_of_le (by omega : xs.length ≤ a)]
    simp
theorem cut_from {α : Type} (xs : List α) (a : Nat) : cut xs (some (a : Int)) none = xs.drop a := by
  have h : cut xs (some (a : Int)) none = cut xs (some (a : Int)) (some (xs.length : Int)) := by
    unfold cut
    have e : HT.sIx xs.length xs.length (some (xs.length : Int)) = xs.length := by
      unfold HT.sIx
      simp
      intro h
      omega
    rw [e]
    rfl
  rw [h, cut_nn]
  apply List.take_of_length_le
  rw [List.length_drop]
  exact Nat.le_refl _
theorem cut_to {α : Type} (xs : List α) (b : Nat) : cut xs none (some (b : Int)) = xs.take b := by
  have h : cut xs none (some (b : Int)) = cut xs (some ((0 : Nat) : Int)) (some (b : Int)) := by
    unfold cut HT.sIx
    simp
  rw [h, cut_nn]
  simp
/-- what the rules say of a key -/
def lk (rs : Rl) (k : List Wd) : Option (List Cell) := (rs.find? fun r => decide (r.1 = k)).map (·.2)
theorem val_tbl (rs : Rl) (k : List Wd) : valD (tbl rs) (kS k) = (lk rs k).map dC := by
  unfold valD tbl lk
  induction rs with
  | nil => rfl
  | cons r rs ih =>
    rw [List.map_cons]
    by_cases e : r.1 = k
    · rw [List.find?_cons_of_pos (by simp [e]), List.find?_cons_of_pos (by simp [e])]
      rfl
    · rw [List.find?_cons_of_neg (by simpa using fun z => e (kS_inj z)), List.find?_cons_of_neg (by simpa using e)]
      exact ih
theorem isSome_tbl (rs : Rl) (k : List Wd) : (valD (tbl rs) (kS k)).isSome = (lk rs k).isSome := by
  rw [val_tbl]
  cases lk rs k <;> rfl
/-- the words that stand at a place, one a cell -/
def wAt (cs : List Cell) (a m : Nat) : Option (List Wd) :=
  if ((cs.drop a).take m).length < m ∨ ((cs.drop a).take m).any (fun c => decide (c.length ≠ 1)) = true then none else some (((cs.drop a).take m).map fun c => c.headD Str.empty)
theorem wAt_len {cs : List Cell} {a m : Nat} {ws : List Wd} (h : wAt cs a m = some ws) : ws.length = m := by
  unfold wAt at h
  split at h
  · cases h
  · rename_i hc
    cases h
    rw [List.length_map]
    have h1 : ((cs.drop a).take m).length ≤ m := by rw [List.length_take]; omega
    have h2 : ¬ ((cs.drop a).take m).length < m := fun z => hc (.inl z)
    omega
def fits (rs : Rl) (cs : List Cell) (a m : Nat) : Bool := match wAt cs a m with | some w => (lk rs w).isSome | none => false
def szAt (rs : Rl) (cs : List Cell) (a : Nat) : Nat := if fits rs cs a 3 then 3 else if fits rs cs a 2 then 2 else if fits rs cs a 1 then 1 else 0
def kAt (rs : Rl) (cs : List Cell) (a : Nat) : List Wd := if szAt rs cs a = 0 then [] else (wAt cs a (szAt rs cs a)).getD []
theorem fits_w {rs : Rl} {cs : List Cell} {a m : Nat} (h : fits rs cs a m = true) : ∃ w z, wAt cs a m = some w ∧ lk rs w = some z := by
  unfold fits at h
  cases e : wAt cs a m with
  | none => rw [e] at h; cases h
  | some w =>
    rw [e] at h
    cases e2 : lk rs w with
    | none => simp [e2] at h
    | some z => exact ⟨w, z, rfl, e2⟩
theorem szAt_fits {rs : Rl} {cs : List Cell} {a : Nat} (h : szAt rs cs a ≠ 0) : fits rs cs a (szAt rs cs a) = true := by
  unfold szAt at h ⊢
  by_cases h3 : fits rs cs a 3 = true
  · rw [if_pos h3]; exact h3
  · rw [if_neg h3] at h ⊢
    by_cases h2 : fits rs cs a 2 = true
    · rw [if_pos h2]; exact h2
    · rw [if_neg h2] at h ⊢
      by_cases h1 : fits rs cs a 1 = true
      · rw [if_pos h1]; exact h1
      · rw [if_neg h1] at h
        exact absurd rfl h
theorem szAt_le (rs : Rl) (cs : List Cell) (a : Nat) : szAt rs cs a ≤ 3 := by
  unfold szAt
  split
  · omega
  · split
    · omega
    · split <;> omega
theorem kAt_some {rs : Rl} {cs : List Cell} {a : Nat} (h : szAt rs cs a ≠ 0) : ∃ z, wAt cs a (szAt rs cs a) = some (kAt rs cs a) ∧ lk rs (kAt rs cs a) = some z ∧ (kAt rs cs a).length = szAt rs cs a := by
  obtain ⟨w, z, h1, h2⟩ := fits_w (szAt_fits h)
  have e : kAt rs cs a = w := by
    unfold kAt
    rw [if_neg h, h1]
    rfl
  rw [e]
  exact ⟨z, h1, h2, wAt_len h1⟩
theorem kAt_none {rs : Rl} {cs : List Cell} {a : Nat} (h : szAt rs cs a = 0) : kAt rs cs a = [] := by
  unfold kAt
  rw [if_pos h]
/-- rewriting from the left, with fuel -/
def rwF (rs : Rl) (cs : List Cell) : Nat → Nat → List Cell
  | 0, _ => []
  | n + 1, a => if a < cs.length then (if szAt rs cs a = 0 then (cs.getD a []) :: rwF rs cs n (a + 1) else (lk rs (kAt rs cs a)).getD [] ++ rwF rs cs n (a + szAt rs cs a)) else []
def rw1 (rs : Rl) (cs : List Cell) : List Cell := rwF rs cs cs.length 0
theorem rwF_end {rs : Rl} {cs : List Cell} {n a : Nat} (h : cs.length ≤ a) : rwF rs cs n a = [] := by
  cases n with
  | zero => rfl
  | succ n =>
    show (if a < cs.length then _ else _) = _
    rw [if_neg (by omega)]
theorem rwF_0 {rs : Rl} {cs : List Cell} {n a : Nat} (h : a < cs.length) (h0 : szAt rs cs a = 0) : rwF rs cs (n + 1) a = cs.getD a [] :: rwF rs cs n (a + 1) := by
  show (if a < cs.length then _ else _) = _
  rw [if_pos h, if_pos h0]
theorem rwF_1 {rs : Rl} {cs : List Cell} {n a : Nat} {z : List Cell} (h : a < cs.length) (h0 : szAt rs cs a ≠ 0) (hz : lk rs (kAt rs cs a) = some z) : rwF rs cs (n + 1) a = z ++ rwF rs cs n (a + szAt rs cs a) := by
  show (if a < cs.length then _ else _) = _
  rw [if_pos h, if_neg h0, hz]
  rfl
theorem lk_mem {rs : Rl} {k : List Wd} {z : List Cell} (h : lk rs k = some z) : (k, z) ∈ rs := by
  unfold lk at h
  cases e : rs.find? (fun r => decide (r.1 = k)) with
  | none => rw [e] at h; cases h
  | some r =>
    rw [e] at h
    cases h
    have h1 := List.find?_some e
    have h2 := List.mem_of_find?_eq_some e
    have : r.1 = k := of_decide_eq_true h1
    rw [← this]
    exact h2
/-- rules of which each writes at most two cells -/
def RL2 (rs : Rl) : Prop := ∀ r ∈ rs, r.2.length ≤ 2
theorem RL2.lk {rs : Rl} (h : RL2 rs) {k : List Wd} {z : List Cell} (e : lk rs k = some z) : z.length ≤ 2 := h _ (lk_mem e)
end DL
namespace DL
open PySem PySem.Spec PyProof.Rows L2
theorem okD_dW (ws : List Wd) : okD (dW ws) = true := by
  unfold dW
  rw [okD]
  exact okDs_map _ _ fun x _ => by rw [okD]
theorem okD_dC (cs : List Cell) : okD (dC cs) = true := by
  unfold dC
  rw [okD]
  exact okDs_map _ _ fun x _ => okD_dW x
theorem okD_dRu (r : List Wd × List Cell) : okD (dRu r) = true := by
  unfold dRu
  rw [okD, okDs, okDs, okDs, okD_dW, okD_dC]
  rfl
theorem okD_dR (rs : Rl) : okD (dR rs) = true := by
  unfold dR
  rw [okD]
  exact okDs_map _ _ fun x _ => okD_dRu x
theorem dep_all {ds : List PyData} {n : Nat} (h : ∀ d ∈ ds, d.depth ≤ n) : (PyData.tuple ds).depth ≤ n + 1 := by
  have key : ∀ ds : List PyData, (∀ d ∈ ds, d.depth ≤ n) → PyData.depthAll ds ≤ n := by
    intro ds
    induction ds with
    | nil => intro _; rw [PyData.depthAll]; exact Nat.zero_le _
    | cons d ds ih =>
      intro h
      rw [PyData.depthAll]
      exact Nat.max_le.mpr ⟨h d List.mem_cons_self, ih fun x hx => h x (List.mem_cons_of_mem _ hx)⟩
  rw [PyData.depth]
  have := key ds h
  omega
theorem dep_dW (ws : List Wd) : (py (dW ws)).depth ≤ 2 := by
  unfold dW
  rw [py, pys_map]
  refine dep_all fun d hd => ?_
  obtain ⟨x, _, rfl⟩ := List.mem_map.mp hd
  rw [py, PyData.depth]
  first | exact Nat.le_refl _ | exact Nat.zero_le _
theorem dep_dC (cs : List Cell) : (py (dC cs)).depth ≤ 3 := by
  unfold dC
  rw [py, pys_map]
  refine dep_all fun d hd => ?_
  obtain ⟨x, _, rfl⟩ := List.mem_map.mp hd
  exact dep_dW x
theorem dep_dRu (r : List Wd × List Cell) : (py (dRu r)).depth ≤ 4 := by
  unfold dRu
  rw [py, pys, pys, pys]
  refine dep_all fun d hd => ?_
  rcases List.mem_cons.mp hd with e | hd
  · rw [e]; exact Nat.le_succ_of_le (dep_dW _)
  · rw [List.mem_singleton] at hd
    rw [hd]
    exact dep_dC _
theorem dep_dR (rs : Rl) : (py (dR rs)).depth ≤ 5 := by
  unfold dR
  rw [py, pys_map]
  refine dep_all fun d hd => ?_
  obtain ⟨x, _, rfl⟩ := List.mem_map.mp hd
  exact dep_dRu x
end DL
namespace DL
open PySem PySem.Spec PyProof.Rows L2
/-- the rules with a rule set -/
def putR (rs : Rl) (k : List Wd) (z : List Cell) : Rl := if rs.any (fun r => decide (r.1 = k)) then rs.map fun r => if r.1 = k then (r.1, z) else r else rs ++ [(k, z)]
theorem any_tbl (rs : Rl) (k : List Wd) : (tbl rs).any (fun kv => decide (kv.1 = kS k)) = rs.any fun r => decide (r.1 = k) := by
  unfold tbl
  rw [List.any_map]
  congr 1
  funext r
  show decide (kS r.1 = kS k) = decide (r.1 = k)
  by_cases e : r.1 = k
  · rw [e, decide_eq_true rfl, decide_eq_true rfl]
  · rw [decide_eq_false e, decide_eq_false fun z => e (kS_inj z)]
theorem put_tbl (rs : Rl) (k : List Wd) (z : List Cell) : putD (tbl rs) (kS k) (dC z) = tbl (putR rs k z) := by
  unfold putD putR
  rw [any_tbl]
  split
  · unfold tbl
    rw [List.map_map, List.map_map]
    refine List.map_congr_left fun r _ => ?_
    show (if kS r.1 = kS k then (kS r.1, dC z) else (kS r.1, dC r.2)) = _
    by_cases e : r.1 = k
    · rw [if_pos (by rw [e])]
      show _ = (kS (if r.1 = k then (r.1, z) else r).1, dC (if r.1 = k then (r.1, z) else r).2)
      rw [if_pos e]
    · rw [if_neg fun q => e (kS_inj q)]
      show _ = (kS (if r.1 = k then (r.1, z) else r).1, dC (if r.1 = k then (r.1, z) else r).2)
      rw [if_neg e]
  · unfold tbl
    rw [List.map_append]
    rfl
section
variable {C : Ctx} {Γ : Gm} {L : Lp} {Q : D → Lp → Prop} {o b : Expr} {pos : Pos}
theorem r_inW {p : D} {rs : Rl} {k : List Wd} (hp : DR L p (tbl rs)) (q : Q (.bl (lk rs k).isSome) L) : L2R C rInDT (dW k) p L Q := by
  rw [← kD_kS]
  refine dr_in hp ?_
  rw [isSome_tbl]
  exact q
theorem r_notInW {p : D} {rs : Rl} {k : List Wd} (hp : DR L p (tbl rs)) (q : Q (.bl (!(lk rs k).isSome)) L) : L2R C rNotInDT (dW k) p L Q := by
  rw [← kD_kS]
  refine dr_notIn hp ?_
  rw [isSome_tbl]
  exact q
theorem ae_getW (hu : C.X.A.units + 1 < cLine) (h : AE C o Γ L fun x L1 => AE C b Γ L1 fun y L2 => ∃ rs k z, y = dW k ∧ DR L2 x (tbl rs) ∧ lk rs k = some z ∧ Q (dC z) L2) (hs : NoSl b := by exact fun _ _ => rfl) : AE C (.Subscript o b pos) Γ L Q :=
  ae_dget hu (h.mono fun x L1 h1 => h1.mono fun y L2 ⟨rs, k, z, ey, hp, hl, q⟩ => ⟨tbl rs, kS k, dC z, by rw [kD_kS]; exact ey, hp, by rw [val_tbl, hl]; rfl, q⟩) hs
theorem w_W {p : Addr} {rs : Rl} {k : List Wd} {z : List Cell} {Q : Lp → Prop} (hp : L p = some (.dct (tbl rs))) (hz : rs.length < sizeLine) (q : Q (put L p (.dct (tbl (putR rs k z))))) : L3R C rPutDT (.ptr p) (dW k) (dC z) L Q := by
  rw [← kD_kS]
  refine w_DT hp (by unfold tbl; rw [List.length_map]; exact hz) ?_
  rw [put_tbl]
  exact q
end
end DL
namespace DL
open PySem PySem.Spec PyProof.Rows L2
def rwAll (rss : List Rl) (cs : List Cell) : List Cell := rss.foldl (fun cs rs => rw1 rs cs) cs
theorem wAt_end {cs : List Cell} {a m : Nat} {ws : List Wd} (h : wAt cs a m = some ws) (hm : 0 < m) : a + m ≤ cs.length := by
  unfold wAt at h
  split at h
  · cases h
  · rename_i hc
    have h2 : ¬ ((cs.drop a).take m).length < m := fun z => hc (.inl z)
    rw [List.length_take, List.length_drop] at h2
    omega
theorem rwF_len {rs : Rl} (hR : RL2 rs) (cs : List Cell) : ∀ n a, (rwF rs cs n a).length ≤ 2 * (cs.length - a)
  | 0, a => Nat.zero_le _
  | n + 1, a => by
    by_cases h : a < cs.length
    · by_cases h0 : szAt rs cs a = 0
      · rw [rwF_0 h h0, List.length_cons]
        have := rwF_len hR cs n (a + 1)
        omega
      · obtain ⟨z, h1, h2, h3⟩ := kAt_some h0
        have h4 := wAt_end h1 (by omega)
        have h5 := hR.lk h2
        rw [rwF_1 h h0 h2, List.length_append]
        have := rwF_len hR cs n (a + szAt rs cs a)
        omega
    · rw [rwF_end (by omega)]
      exact Nat.zero_le _
theorem rw1_len {rs : Rl} (hR : RL2 rs) (cs : List Cell) : (rw1 rs cs).length ≤ 2 * cs.length := by
  have := rwF_len hR cs cs.length 0
  unfold rw1
  omega
theorem rwAll_len : ∀ (rss : List Rl) (cs : List Cell), (∀ rs ∈ rss, RL2 rs) → (rwAll rss cs).length ≤ cs.length * 2 ^ rss.length
  | [], cs, _ => by
    rw [List.length_nil, Nat.pow_zero, Nat.mul_one]
    exact Nat.le_refl _
  | rs :: rss, cs, h => by
    have h1 := rw1_len (h rs List.mem_cons_self) cs
    have h2 := rwAll_len rss (rw1 rs cs) fun r hr => h r (List.mem_cons_of_mem _ hr)
    show (rwAll rss (rw1 rs cs)).length ≤ _
    rw [List.length_cons, Nat.pow_succ]
    have h3 : (rw1 rs cs).length * 2 ^ rss.length ≤ (2 * cs.length) * 2 ^ rss.length := Nat.mul_le_mul_right _ h1
    have h4 : (2 * cs.length) * 2 ^ rss.length = cs.length * (2 ^ rss.length * 2) := by rw [Nat.mul_comm 2, Nat.mul_assoc, Nat.mul_comm 2]
    omega
theorem rwAll_snoc (rss : List Rl) (rs : Rl) (cs : List Cell) : rwAll (rss ++ [rs]) cs = rw1 rs (rwAll rss cs) := by
  unfold rwAll
  rw [List.foldl_append]
  rfl
end DL
namespace DL
open PySem PySem.Spec PyProof.Rows L2
def abc : List Nat := ("abcdefghijklmnopqrstuvwxyz" : Str).cps.toList
/-- a word -/
def wdS (x : Str) : Bool := decide (1 ≤ x.length) && decide (x.length ≤ 8) && x.cps.toList.all fun k => decide (k ∈ abc)
def wdD : D → Bool
  | .str x => wdS x
  | _ => false
def txD : D → Bool
  | .tup ds => ds.all wdD
  | _ => false
theorem txD_dW {d : D} (h : txD d = true) : ∃ ws : List Wd, d = dW ws ∧ ∀ x ∈ ws, wdS x = true := by
  cases d with
  | tup ds =>
    have key : ∀ ds : List D, ds.all wdD = true → ∃ ws : List Wd, ds = ws.map .str ∧ ∀ x ∈ ws, wdS x = true := by
      intro ds
      induction ds with
      | nil => intro _; exact ⟨[], rfl, fun x hx => nomatch hx⟩
      | cons d ds ih =>
        intro h
        rw [List.all_cons, Bool.and_eq_true] at h
        obtain ⟨ws, e, hw⟩ := ih h.2
        cases d with
        | str x =>
          refine ⟨x :: ws, by rw [e]; rfl, fun y hy => ?_⟩
          rcases List.mem_cons.mp hy with z | z
          · rw [z]; exact h.1
          · exact hw y z
        | _ => exact absurd h.1 (by simp [wdD])
    obtain ⟨ws, e, hw⟩ := key ds h
    exact ⟨ws, by rw [e]; rfl, hw⟩
  | _ => simp [txD] at h
theorem txD_of {ws : List Wd} (h : ∀ x ∈ ws, wdS x = true) : txD (dW ws) = true := by
  show (ws.map D.str).all wdD = true
  rw [List.all_map, List.all_eq_true]
  exact h
/-- one behind the other they rise -/
def adj : List Wd → Bool
  | x :: y :: r => decide (x.cps.toList < y.cps.toList) && adj (y :: r)
  | _ => true
theorem adj_rise : ∀ {ws : List Wd}, Rise ws → adj ws = true
  | [], _ => rfl
  | [_], _ => rfl
  | x :: y :: r, h => by
    obtain ⟨h1, h2⟩ := List.pairwise_cons.mp h
    show (decide _ && adj (y :: r)) = true
    rw [adj_rise h2, decide_eq_true (h1 y List.mem_cons_self)]
    rfl
def ltP : D → Bool
  | .tup [.str x, .str y] => decide (x.cps.toList < y.cps.toList)
  | _ => false
theorem adj_zip : ∀ ws : List Wd, (zipD (ws.map .str) ((ws.drop 1).map .str)).all ltP = adj ws
  | [] => rfl
  | [_] => rfl
  | x :: y :: r => by
    show (decide _ && (zipD ((y :: r).map .str) (((y :: r).drop 1).map .str)).all ltP) = _
    rw [adj_zip (y :: r)]
    rfl
def ceD (d : D) : Bool := txD d && match d with | .tup ds => decide (ds.length ≤ 3) && adj (ds.map fun d => match d with | .str x => x | _ => Str.empty) | _ => false
theorem ceD_dW (ws : List Wd) : ceD (dW ws) = ((ws.all wdS) && decide (ws.length ≤ 3) && adj ws) := by
  unfold ceD
  have e1 : txD (dW ws) = ws.all wdS := by
    show (ws.map D.str).all wdD = _
    rw [List.all_map]
    rfl
  have e2 : ((ws.map D.str).map fun d => match d with | .str x => x | _ => Str.empty) = ws := by
    rw [List.map_map]
    exact List.map_id _
  rw [e1]
  show (_ && (decide ((ws.map D.str).length ≤ 3) && adj _)) = _
  rw [e2, List.length_map, Bool.and_assoc]
def csD : D → Bool
  | .tup ds => decide (ds.length ≤ 2) && ds.all ceD
  | _ => false
def kyD : D → Bool
  | .tup ds => ds.all wdD && decide (1 ≤ ds.length) && decide (ds.length ≤ 3)
  | _ => false
end DL
namespace DL
open PySem PySem.Spec PyProof.Rows L2
theorem signs_len (x : Str) : (sgnsOf x).length = x.length := by
  unfold sgnsOf
  rw [List.length_map, Array.length_toList]
  rfl
theorem signs_get {x : Str} {i : Nat} {d : D} (h : (sgnsOf x)[i]? = some d) : ∃ k, x.cps.toList[i]? = some k ∧ d = .str (sgn k) := by
  unfold sgnsOf at h
  rw [List.getElem?_map] at h
  cases e : x.cps.toList[i]? with
  | none => rw [e] at h; cases h
  | some k => rw [e] at h; cases h; exact ⟨k, rfl, rfl⟩
theorem okD_isi {C : Ctx} {L : Lp} {Q : D → Lp → Prop} {d : D} {T : String} {k : Bool} (h : okD d = true) (hk : kitB (tyD d) T = some k) (q : Q (.bl k) L) : LcR C (rIsi C.X.K) [d, .ty T] L Q :=
  c_isi (by cases d <;> first | trivial | (rw [okD] at h; cases h)) hk q
theorem kit_str {d : D} (h : okD d = true) : kitB (tyD d) "str" = some (match d with | .str _ => true | _ => false) := by
  cases d with
  | non => exact (by decide +kernel : kitB "NoneType" "str" = some false)
  | bl b => exact (by decide +kernel : kitB "bool" "str" = some false)
  | int i => exact (by decide +kernel : kitB "int" "str" = some false)
  | str x => exact (by decide +kernel : kitB "str" "str" = some true)
  | tup ds => exact (by decide +kernel : kitB "tuple" "str" = some false)
  | ty n => simp [okD] at h
  | ptr a => simp [okD] at h
  | ilst ns => simp [okD] at h
  | obj _ _ => simp [okD] at h
  | flst _ => simp [okD] at h
  | fdct _ => simp [okD] at h
  | kdct _ => simp [okD] at h
  | wds _ => simp [okD] at h
theorem kit_tup {d : D} (h : okD d = true) : kitB (tyD d) "tuple" = some (match d with | .tup _ => true | _ => false) := by
  cases d with
  | non => exact (by decide +kernel : kitB "NoneType" "tuple" = some false)
  | bl b => exact (by decide +kernel : kitB "bool" "tuple" = some false)
  | int i => exact (by decide +kernel : kitB "int" "tuple" = some false)
  | str x => exact (by decide +kernel : kitB "str" "tuple" = some false)
  | tup ds => exact (by decide +kernel : kitB "tuple" "tuple" = some true)
  | ty n => simp [okD] at h
  | ptr a => simp [okD] at h
  | ilst ns => simp [okD] at h
  | obj _ _ => simp [okD] at h
  | flst _ => simp [okD] at h
  | fdct _ => simp [okD] at h
  | kdct _ => simp [okD] at h
  | wds _ => simp [okD] at h
theorem okDs_get {ds : List D} (h : okDs ds = true) {i : Nat} {d : D} (hd : ds[i]? = some d) : okD d = true := okDs_mem h d (List.mem_of_getElem? hd)
end DL
namespace DL
open PySem PySem.Spec PyProof.Rows L2
theorem cut_one {α : Type} (xs : List α) : cut xs (some 1) none = xs.drop 1 := cut_from xs 1
def cellOfD (d : D) : List Wd := match d with | .tup ds => (ds.map fun d => match d with | .str x => x | _ => Str.empty) | _ => []
/-- a rule, rules: what the program asks of them -/
def ruD : D → Bool
  | .tup [k, c] => kyD k && csD c
  | _ => false
/-- the order of keys -/
def ltK (a b : List Wd) : Bool := PySem.W.dataLt (py (dW a)) (py (dW b))
def adjK : List (List Wd) → Bool
  | x :: y :: r => ltK x y && adjK (y :: r)
  | _ => true
def rsOk (rs : Rl) : Bool := decide (rs.length ≤ 6) && (rs.all fun r => kyD (dW r.1) && csD (dC r.2)) && adjK (rs.map (·.1))
end DL
namespace DL
open PySem PySem.Spec PyProof.Rows L2
def wsD (m : Nat) (d : D) : Bool := txD d && (match d with | .tup xs => decide (xs.length ≤ m) && adj (cellOfD d) | _ => false)
theorem wsD_dW (m : Nat) (ws : List Wd) (h : txD (dW ws) = true) : wsD m (dW ws) = (decide (ws.length ≤ m) && adj ws) := by
  have e2 : cellOfD (dW ws) = ws := by
    show ((ws.map D.str).map fun d => match d with | .str x => x | _ => Str.empty) = ws
    rw [List.map_map]
    exact List.map_id _
  unfold wsD
  rw [h, e2]
  show (true && (decide ((ws.map D.str).length ≤ m) && adj ws)) = _
  rw [List.length_map, Bool.true_and]
theorem ceD_ws (d : D) : ceD d = wsD 3 d := by cases d <;> rfl
theorem wsD_no {m : Nat} {d : D} (h : txD d = false) : wsD m d = false := by
  unfold wsD
  rw [h]
  rfl
end DL
namespace DL
open PySem PySem.Spec PyProof.Rows L2
/-! ### the order of keys -/
theorem py_dW (ws : List Wd) : py (dW ws) = .tuple (ws.map PyData.str) := by
  unfold dW
  rw [py, pys_map]
  refine congrArg PyData.tuple (List.map_congr_left fun x _ => ?_)
  rw [py]
theorem alike_strs : ∀ a b : List Wd, PySem.W.alikeAll (a.map PyData.str) (b.map PyData.str) = true
  | [], _ => by rw [List.map_nil, PySem.W.alikeAll]
  | _ :: _, [] => by rw [List.map_nil, List.map_cons, PySem.W.alikeAll]
  | x :: a, y :: b => by
    rw [List.map_cons, List.map_cons, PySem.W.alikeAll, PySem.W.alike, alike_strs a b]
    rfl
theorem alike_dW (a b : List Wd) : PySem.W.alike (py (dW a)) (py (dW b)) = true := by
  rw [py_dW, py_dW, PySem.W.alike]
  exact alike_strs a b
def tks (a : List Wd) : List (Int ⊕ List Nat) := PySem.W.keyToks (py (dW a))
theorem tks_inj {a b : List Wd} (h : tks a = tks b) : a = b := by
  unfold tks at h
  rw [py_dW, py_dW, PySem.W.keyToks, PySem.W.keyToks] at h
  have key : ∀ a b : List Wd, PySem.W.keyToksAll (a.map PyData.str) = PySem.W.keyToksAll (b.map PyData.str) → a = b := by
    intro a
    induction a with
    | nil =>
      intro b h
      cases b with
      | nil => rfl
      | cons y b =>
        rw [List.map_nil, List.map_cons, PySem.W.keyToksAll, PySem.W.keyToksAll] at h
        have := List.cons.inj h
        exact absurd (Sum.inl.inj this.1) (by decide)
    | cons x a ih =>
      intro b h
      cases b with
      | nil =>
        rw [List.map_nil, List.map_cons, PySem.W.keyToksAll, PySem.W.keyToksAll] at h
        have := List.cons.inj h
        exact absurd (Sum.inl.inj this.1) (by decide)
      | cons y b =>
        rw [List.map_cons, List.map_cons, PySem.W.keyToksAll, PySem.W.keyToksAll, PySem.W.keyToks, PySem.W.keyToks] at h
        have h1 := (List.cons.inj h).2
        have h2 := List.cons.inj (show (Sum.inr x.cps.toList : Int ⊕ List Nat) :: PySem.W.keyToksAll (a.map PyData.str) = Sum.inr y.cps.toList :: PySem.W.keyToksAll (b.map PyData.str) from h1)
        rw [PySem.W.str_of_cps (Sum.inr.inj h2.1), ih b h2.2]
  exact key a b h
theorem ltK_tks (a b : List Wd) : ltK a b = PyProof.Rows.lexLt itemOrd (tks a) (tks b) := rfl
theorem ltK_irr (a : List Wd) : ltK a a = false := (listOrd itemOrd).irrefl (tks a)
theorem ltK_trans {a b c : List Wd} (h1 : ltK a b = true) (h2 : ltK b c = true) : ltK a c = true := (listOrd itemOrd).trans (tks a) (tks b) (tks c) h1 h2
theorem ltK_total {a b : List Wd} (h1 : ltK a b = false) (h2 : ltK b a = false) : a = b := tks_inj ((listOrd itemOrd).total (tks a) (tks b) h1 h2)
theorem leD_dW (a b : List Wd) : leD (dW a) (dW b) = !ltK b a := rfl
def leR (a b : List Wd × List Cell) : Bool := !ltK b.1 a.1
def srt (rs : Rl) : Rl := rs.mergeSort leR
theorem leR_trans (a b c : List Wd × List Cell) (h1 : leR a b = true) (h2 : leR b c = true) : leR a c = true := by
  unfold leR at *
  rw [Bool.not_eq_true'] at *
  cases h : ltK c.1 a.1 with
  | false => rfl
  | true =>
    rcases (listOrd itemOrd).negTrans (tks c.1) (tks b.1) (tks a.1) h with z | z
    · exact absurd (show ltK c.1 b.1 = true from z) (by rw [h2]; decide)
    · exact absurd (show ltK b.1 a.1 = true from z) (by rw [h1]; decide)
theorem leR_total (a b : List Wd × List Cell) : (leR a b || leR b a) = true := by
  unfold leR
  cases h : ltK b.1 a.1 with
  | false => rfl
  | true =>
    cases h2 : ltK a.1 b.1 with
    | false => rfl
    | true =>
      have := ltK_trans h h2
      rw [ltK_irr] at this
      cases this
/-- keys that rise -/
def RiseK (rs : Rl) : Prop := rs.Pairwise fun a b => ltK a.1 b.1 = true
theorem adjK_rise : ∀ {ks : List (List Wd)}, ks.Pairwise (fun a b => ltK a b = true) → adjK ks = true
  | [], _ => rfl
  | [_], _ => rfl
  | x :: y :: r, h => by
    obtain ⟨h1, h2⟩ := List.pairwise_cons.mp h
    show (ltK x y && adjK (y :: r)) = true
    rw [adjK_rise h2, h1 y List.mem_cons_self]
    rfl
theorem adjK_pair : ∀ {ks : List (List Wd)}, adjK ks = true → ks.Pairwise (fun a b => ltK a b = true)
  | [], _ => List.Pairwise.nil
  | [_], _ => List.pairwise_singleton _ _
  | x :: y :: r, h => by
    have h : (ltK x y && adjK (y :: r)) = true := h
    rw [Bool.and_eq_true] at h
    have ih := adjK_pair h.2
    refine List.pairwise_cons.mpr ⟨fun z hz => ?_, ih⟩
    rcases List.mem_cons.mp hz with e | hz
    · rw [e]; exact h.1
    · exact ltK_trans h.1 ((List.pairwise_cons.mp ih).1 z hz)
theorem riseK_nodup {rs : Rl} (h : RiseK rs) : (rs.map (·.1)).Nodup := by
  refine List.pairwise_map.mpr (List.Pairwise.imp (fun {a b} hab e => ?_) h)
  rw [e, ltK_irr] at hab
  cases hab
theorem srt_self {rs : Rl} (h : RiseK rs) : srt rs = rs := List.mergeSort_of_pairwise (List.Pairwise.imp (fun {a b} hab => by
  unfold leR
  cases h2 : ltK b.1 a.1 with
  | false => rfl
  | true =>
    have := ltK_trans hab h2
    rw [ltK_irr] at this
    cases this) h)
theorem srt_perm (rs : Rl) : (srt rs).Perm rs := List.mergeSort_perm rs leR
theorem srt_rise {rs : Rl} (nd : (rs.map (·.1)).Nodup) : RiseK (srt rs) := by
  have h := List.pairwise_mergeSort leR_trans leR_total rs
  have nd2 : ((srt rs).map (·.1)).Nodup := ((srt_perm rs).map (·.1)).nodup_iff.mpr nd
  have nd3 := List.pairwise_map.mp nd2
  refine List.Pairwise.imp₂ (fun {a b} h1 h2 => ?_) h nd3
  unfold leR at h1
  rw [Bool.not_eq_true'] at h1
  cases h3 : ltK a.1 b.1 with
  | true => rfl
  | false => exact absurd (ltK_total h3 h1) h2
theorem lk_self {rs : Rl} (nd : (rs.map (·.1)).Nodup) {r : List Wd × List Cell} (h : r ∈ rs) : lk rs r.1 = some r.2 := by
  unfold lk
  induction rs with
  | nil => cases h
  | cons x rs ih =>
    rw [List.map_cons, List.nodup_cons] at nd
    rcases List.mem_cons.mp h with e | h
    · subst e
      rw [List.find?_cons_of_pos (by simp)]
      rfl
    · have : x.1 ≠ r.1 := fun e => nd.1 (by rw [e]; exact List.mem_map.mpr ⟨r, h, rfl⟩)
      rw [List.find?_cons_of_neg (by simpa using this)]
      exact ih nd.2 h
theorem sort_keys (rs : Rl) : ((tbl rs).map fun p => kD p.1).mergeSort leD = (srt rs).map fun r => dW r.1 := by
  have e : (tbl rs).map (fun p => kD p.1) = rs.map fun r => dW r.1 := by
    unfold tbl
    rw [List.map_map]
    exact List.map_congr_left fun r _ => kD_kS r.1
  rw [e]
  exact (List.map_mergeSort (r := leR) (s := leD) (f := fun r : List Wd × List Cell => dW r.1) (l := rs) fun a _ b _ => rfl).symm
section
variable {C : Ctx} {Γ : Gm} {L : Lp} {Q : D → Lp → Prop}
/-- sorted(table) -/
theorem sortable_keys {rs : Rl} (hk : ∀ r ∈ rs, r.1 ≠ []) : PySem.W.Sortable ((rs.map fun r => dW r.1).map py) := by
  refine .inl fun d hd => ?_
  obtain ⟨x, hx, rfl⟩ := List.mem_map.mp hd
  obtain ⟨r, hr, rfl⟩ := List.mem_map.mp hx
  rw [py_dW]
  cases e : r.1 with
  | nil => exact absurd e (hk r hr)
  | cons y ys => exact ⟨_, _, rfl⟩
theorem alike_keys (rs : Rl) : PySem.W.AllAlike ((rs.map fun r => dW r.1).map py) := fun d hd d' hd' => by
  obtain ⟨x, hx, rfl⟩ := List.mem_map.mp hd
  obtain ⟨r, hr, rfl⟩ := List.mem_map.mp hx
  obtain ⟨x', hx', rfl⟩ := List.mem_map.mp hd'
  obtain ⟨r', hr', rfl⟩ := List.mem_map.mp hx'
  exact alike_dW _ _
theorem tbl_keys (rs : Rl) : (tbl rs).map (fun p => kD p.1) = rs.map fun r => dW r.1 := by
  unfold tbl
  rw [List.map_map]
  exact List.map_congr_left fun r _ => kD_kS r.1
theorem c_sortW {p : D} {rs : Rl} (hp : DR L p (tbl rs)) (hz : rs.length ≤ sizeLine) (hk : ∀ r ∈ rs, r.1 ≠ []) (q : ∀ l, L l = none → Q (.ptr l) (put L l (.lst ((srt rs).map fun r => dW r.1)))) : LcR C (rSortDT C.X.K) [p] L Q := fun F vs H c r0 QV go => by
  obtain ⟨v, rfl, r⟩ := r0.oneE
  obtain ⟨a, kvs, rfl, ha, ra, hks⟩ := hp.at_ c r
  have ek : kvs.map (fun p => kD p.1) = rs.map fun r => dW r.1 := by
    rw [← tbl_keys, show kvs.map (fun p => kD p.1) = (kvs.map (·.1)).map kD by rw [List.map_map]; rfl, KDs.fst ra, List.map_map]
    rfl
  refine ⟨a, kvs, _, F, rfl, ha, rfl, fun x hx => ?_, ?_, ?_, ?_, ?_, fun l ys hl ry => ?_⟩
  · have : x.1 ∈ (tbl rs).map (·.1) := by rw [← KDs.fst ra]; exact List.mem_map.mpr ⟨x, hx, rfl⟩
    obtain ⟨y, hy, e⟩ := List.mem_map.mp this
    rw [← e]
    exact hks y hy
  · rw [ek]; exact okDs_map _ _ fun x _ => okD_dW _
  · rw [ek]; exact alike_keys rs
  · rw [ek]; exact sortable_keys hk
  · rw [ek]
    intro d hd
    obtain ⟨r, _, rfl⟩ := List.mem_map.mp hd
    exact Nat.le_trans (dep_dW _) (by decide)
  · rw [ek, ← tbl_keys, sort_keys] at ry
    exact go _ _ _ (put L l (.lst ((srt rs).map fun r => dW r.1))) (.ptr l) (c.newL hl ⟨ys, upd_same, ry.mono (.new hl), by rw [List.length_map]; unfold srt; rw [List.length_mergeSort]; exact hz⟩) (.newL hl) (q l (c.free hl))
/-- sorted(list of keys) -/
theorem c_sortKL {p : Addr} {rs : Rl} (hp : L p = some (.lst (rs.map fun r => dW r.1))) (hk : ∀ r ∈ rs, r.1 ≠ []) (q : ∀ l, L l = none → Q (.ptr l) (put L l (.lst ((srt rs).map fun r => dW r.1)))) : LcR C (rSortD C.X.K) [.ptr p] L Q := by
  refine c_sortD hp (okDs_map _ _ fun x _ => okD_dW _) (alike_keys rs) (sortable_keys hk) (fun d hd => ?_) fun l hl => ?_
  · obtain ⟨r, _, rfl⟩ := List.mem_map.mp hd
    exact Nat.le_trans (dep_dW _) (by decide)
  · have e : (rs.map fun r => dW r.1).mergeSort leD = (srt rs).map fun r => dW r.1 := by rw [← tbl_keys]; exact sort_keys rs
    rw [e]
    exact q l hl
end

/-! ### rules as data -/
def ltR : D → Bool
  | .tup [.tup (a :: _), .tup (b :: _)] => PySem.W.dataLt (py a) (py b)
  | _ => false
theorem zip_adjK : ∀ rs : Rl, (zipD (rs.map dRu) ((rs.drop 1).map dRu)).all ltR = adjK (rs.map (·.1))
  | [] => rfl
  | [_] => rfl
  | x :: y :: r => by
    show (PySem.W.dataLt (py (dW x.1)) (py (dW y.1)) && (zipD ((y :: r).map dRu) (((y :: r).drop 1).map dRu)).all ltR) = _
    rw [zip_adjK (y :: r)]
    rfl
theorem csD_dC {d : D} (h : csD d = true) : ∃ cs : List Cell, d = dC cs := by
  cases d with
  | tup ds =>
    have h2 : (decide (ds.length ≤ 2) && ds.all ceD) = true := h
    rw [Bool.and_eq_true] at h2
    have key : ∀ ds : List D, ds.all ceD = true → ∃ cs : List Cell, ds = cs.map dW := by
      intro ds
      induction ds with
      | nil => intro _; exact ⟨[], rfl⟩
      | cons d ds ih =>
        intro h
        rw [List.all_cons, Bool.and_eq_true] at h
        obtain ⟨cs, e⟩ := ih h.2
        have ht : txD d = true := by
          have := h.1
          unfold ceD at this
          rw [Bool.and_eq_true] at this
          exact this.1
        obtain ⟨ws, rfl, _⟩ := txD_dW ht
        exact ⟨ws :: cs, by rw [e]; rfl⟩
    obtain ⟨cs, e⟩ := key ds h2.2
    exact ⟨cs, by rw [e]; rfl⟩
  | _ => simp [csD] at h
theorem kyD_dW {d : D} (h : kyD d = true) : ∃ ws : List Wd, d = dW ws := by
  cases d with
  | tup ds =>
    have h2 : (ds.all wdD && decide (1 ≤ ds.length) && decide (ds.length ≤ 3)) = true := h
    rw [Bool.and_eq_true, Bool.and_eq_true] at h2
    obtain ⟨ws, e, _⟩ := txD_dW (d := .tup ds) h2.1.1
    exact ⟨ws, e⟩
  | _ => simp [kyD] at h
theorem ruD_dRu {d : D} (h : ruD d = true) : ∃ r, d = dRu r := by
  unfold ruD at h
  split at h
  · rw [Bool.and_eq_true] at h
    obtain ⟨ws, rfl⟩ := kyD_dW h.1
    obtain ⟨cs, rfl⟩ := csD_dC h.2
    exact ⟨(ws, cs), rfl⟩
  · cases h
theorem rules_dR : ∀ {ds : List D}, ds.all ruD = true → ∃ rs : Rl, ds = rs.map dRu
  | [], _ => ⟨[], rfl⟩
  | d :: ds, h => by
    rw [List.all_cons, Bool.and_eq_true] at h
    obtain ⟨rs, e⟩ := rules_dR h.2
    obtain ⟨r, rfl⟩ := ruD_dRu h.1
    exact ⟨r :: rs, by rw [e]; rfl⟩
def rsD : D → Bool
  | .tup ds => decide (ds.length ≤ 6) && ds.all ruD && (zipD ds (ds.drop 1)).all ltR
  | _ => false
theorem rsD_dR (rs : Rl) : rsD (dR rs) = rsOk rs := by
  show (decide ((rs.map dRu).length ≤ 6) && (rs.map dRu).all ruD && (zipD (rs.map dRu) ((rs.map dRu).drop 1)).all ltR) = _
  rw [← List.map_drop, zip_adjK, List.length_map, List.all_map]
  rfl
/-- what rules that are taken are like -/
structure RuOk (rs : Rl) : Prop where
  len : rs.length ≤ 6
  key : ∀ r ∈ rs, kyD (dW r.1) = true
  cel : ∀ r ∈ rs, csD (dC r.2) = true
  up : RiseK rs
theorem rsOk_of {rs : Rl} (h : RuOk rs) : rsOk rs = true := by
  unfold rsOk
  rw [decide_eq_true h.len, Bool.true_and, Bool.and_eq_true, List.all_eq_true]
  refine ⟨fun r hr => ?_, adjK_rise (List.pairwise_map.mpr h.up)⟩
  rw [h.key r hr, h.cel r hr]
  rfl
theorem ruOk_of {rs : Rl} (h : rsOk rs = true) : RuOk rs := by
  unfold rsOk at h
  rw [Bool.and_eq_true, Bool.and_eq_true, List.all_eq_true] at h
  refine ⟨of_decide_eq_true h.1.1, fun r hr => ?_, fun r hr => ?_, List.pairwise_map.mp (adjK_pair h.2)⟩
  · have := h.1.2 r hr
    rw [Bool.and_eq_true] at this
    exact this.1
  · have := h.1.2 r hr
    rw [Bool.and_eq_true] at this
    exact this.2
theorem kyD_iff {ws : List Wd} (h : kyD (dW ws) = true) : (∀ x ∈ ws, wdS x = true) ∧ 1 ≤ ws.length ∧ ws.length ≤ 3 := by
  have h2 : ((ws.map D.str).all wdD && decide (1 ≤ (ws.map D.str).length) && decide ((ws.map D.str).length ≤ 3)) = true := h
  rw [Bool.and_eq_true, Bool.and_eq_true, List.length_map, List.all_map, List.all_eq_true] at h2
  exact ⟨h2.1.1, of_decide_eq_true h2.1.2, of_decide_eq_true h2.2⟩
theorem csD_iff {cs : List Cell} (h : csD (dC cs) = true) : cs.length ≤ 2 ∧ ∀ c ∈ cs, ceD (dW c) = true := by
  have h2 : (decide ((cs.map dW).length ≤ 2) && (cs.map dW).all ceD) = true := h
  rw [Bool.and_eq_true, List.length_map, List.all_map, List.all_eq_true] at h2
  exact ⟨of_decide_eq_true h2.1, h2.2⟩
theorem RuOk.r2 {rs : Rl} (h : RuOk rs) : RL2 rs := fun r hr => (csD_iff (h.cel r hr)).1
theorem RuOk.ne {rs : Rl} (h : RuOk rs) : ∀ r ∈ rs, r.1 ≠ [] := fun r hr e => by
  have := (kyD_iff (h.key r hr)).2.1
  rw [e] at this
  exact absurd this (by decide)
theorem RuOk.nd {rs : Rl} (h : RuOk rs) : (rs.map (·.1)).Nodup := riseK_nodup h.up
end DL
namespace DL
open PySem PySem.Spec PyProof.Rows L2
/-- a def as it stands, its defaults whatever they are -/
structure FunX (K : PySem.W.Frag) (x qual : Str) (st : Stmt) (f : Addr) (fd : FuncData) : Prop where
  ex : ∃ (oc : Value) (od : Option Addr) (dV kV doc pm : Value) (an : Option Addr) (cdv ct : Value) (osl : Array (Option Value)),
    fd = PySem.W.fnOf x qual (defArgs st) (defBody st) (defScope st) dV kV doc pm an cdv ct ∧ K.lookup f = some ⟨oc, od, .func fd, osl⟩ ∧ PySem.W.codeIn K cdv qual = true
  kp : PySem.W.keepIn K (.ref f) = true
theorem FunX.of {K : PySem.W.Frag} {x qual : Str} {st : Stmt} {f : Addr} {fd : FuncData} (F : Fun K x qual st f fd) : FunX K x qual st f fd := by
  obtain ⟨⟨oc, od, kV, doc, pm, an, cdv, ct, osl, h⟩, kp⟩ := F
  exact ⟨⟨oc, od, .none, kV, doc, pm, an, cdv, ct, osl, h⟩, kp⟩
theorem FunX.binds {K : PySem.W.Frag} {x qual : Str} {st : Stmt} {f : Addr} {fd : FuncData} {ps : List Str} (F : FunX K x qual st f fd)
    (h : ∀ (dV kV doc pm : Value) (an : Option Addr) (cdv ct : Value) (us : List Value), us.length = ps.length → bindArgs (PySem.W.fnOf x qual (defArgs st) (defBody st) (defScope st) dV kV doc pm an cdv ct) ⟨us, []⟩ = pure (ps.zip us)) : Binds K fd ps [] := by
  obtain ⟨oc, od, dV, kV, doc, pm, an, cdv, ct, osl, rfl, lk, hcd⟩ := F.ex
  exact .all (h dV kV doc pm an cdv ct)
theorem fnAX {P : Program} {w : World} {K : PySem.W.Frag} {mg : Str → Option Value} {base : Heap} {x qual : Str} {st : Stmt} {f : Addr} {fd : FuncData} {N ps : List Str} {k : Nat} {sp : SpA} (F : FunX K x qual st f fd) (S : FnScope N ps (defScope st)) (hb : Binds K fd ps [])
    (len : ∀ ds L Q R, sp ds L Q R → ds.length = ps.length)
    (hbody : ∀ (cdv : Value) (A : Around) (outer : List Env) (s : Shared) (H : Hp) (E : XK) (ds : List D) (L : Lp) (Q : D → Lp → Prop) (R : Value → List (Str × D) → Lp → Prop), Room k (A.deeper (envOfC qual (defScope st) s.heap.objs.size f cdv)) → sp ds L Q R →
      ASs (fctx P w K mg base N qual (defScope st) f cdv A outer s H E S.nd R) (defBody st) (startG N ds) L (endsOf Q)) : FnA P w K mg base (k + 1) f sp := by
  have G : FnOk P w K mg base (L2.CX P w) (k + 1) f fd ps (toSp P w K sp) := by
    obtain ⟨oc, od, dV, kV, doc, pm, an, cdv, ct, osl, rfl, lk, hcd⟩ := F.ex
    refine fn_of lk hcd S (fun vs H Q E ⟨ds, L, Z, Q', R', r, _, h, _⟩ => by rw [r.length]; exact len _ _ _ _ h) fun A outer s H vs Q E hr ⟨ds, L, Z, Q', R', r, c, h, hq, he⟩ => ?_
    refine ⟨_, pss_we, hbody cdv A outer s H E ds L Q' R' hr h _ (L2.start N vs) H ⟨sl_start r, c, ⟨fun cls d σ' H' Γ' L' fs _ c' f' xd q => he cls fs L' q d H' xd c' f'⟩⟩ _ ⟨?_, ?_, ?_, ?_⟩⟩
    · rintro Z' σ' H' Γ' L' ok' f' ⟨L2, le, q⟩
      exact hq .non L2 q .non H' .non (ok'.con.le le) (f'.leR le)
    · rintro Z' v d H' L' rv c' f' ⟨L2, le, q⟩
      exact hq d L2 q v H' rv (c'.le le) (f'.leR le)
    · rintro _ _ _ _ _ _ _ z
      exact z.elim
    · rintro _ _ _ _ _ _ _ z
      exact z.elim
  exact (G.raw hb .nil).imp fun vs H Q E h => by rw [List.append_nil]; exact h
end DL
namespace DL
open PySem PySem.Spec PyProof.Rows L2
/-- as fnA, the raw form -/
theorem fnAok {P : Program} {w : World} {K : PySem.W.Frag} {mg : Str → Option Value} {base : Heap} {x qual : Str} {st : Stmt} {f : Addr} {fd : FuncData} {N ps : List Str} {k : Nat} {sp : SpA} (F : Fun K x qual st f fd) (S : FnScope N ps (defScope st))
    (len : ∀ ds L Q R, sp ds L Q R → ds.length = ps.length)
    (hbody : ∀ (cdv : Value) (A : Around) (outer : List Env) (s : Shared) (H : Hp) (E : XK) (ds : List D) (L : Lp) (Q : D → Lp → Prop) (R : Value → List (Str × D) → Lp → Prop), Room k (A.deeper (envOfC qual (defScope st) s.heap.objs.size f cdv)) → sp ds L Q R →
      ASs (fctx P w K mg base N qual (defScope st) f cdv A outer s H E S.nd R) (defBody st) (startG N ds) L (endsOf Q)) : FnOk P w K mg base (L2.CX P w) (k + 1) f fd ps (toSp P w K sp) := by
  refine F.okX S (fun vs H Q E ⟨ds, L, Z, Q', R', r, _, h, _⟩ => by rw [r.length]; exact len _ _ _ _ h) fun cdv A outer s H vs Q E hr ⟨ds, L, Z, Q', R', r, c, h, hq, he⟩ => ?_
  refine ⟨_, pss_we, hbody cdv A outer s H E ds L Q' R' hr h _ (L2.start N vs) H ⟨sl_start r, c, ⟨fun cls d σ' H' Γ' L' fs _ c' f' xd q => he cls fs L' q d H' xd c' f'⟩⟩ _ ⟨?_, ?_, ?_, ?_⟩⟩
  · rintro Z' σ' H' Γ' L' ok' f' ⟨L2, le, q⟩
    exact hq .non L2 q .non H' .non (ok'.con.le le) (f'.leR le)
  · rintro Z' v d H' L' rv c' f' ⟨L2, le, q⟩
    exact hq d L2 q v H' rv (c'.le le) (f'.leR le)
  · rintro _ _ _ _ _ _ _ z
    exact z.elim
  · rintro _ _ _ _ _ _ _ z
    exact z.elim
/-- the law's promise at its script -/
theorem law_sp {P : Program} {w : World} {K : PySem.W.Frag} {H : Hp} {a : Addr} {ns : List Int} {sp : SpA} (hO : Only H) (hS : SqL K H a (ns.map V.int)) (h : ∀ Q R, Q (.bl true) (fun _ => none) → sp [.ilst ns] (fun _ => none) Q R) : toSp P w K sp [.ref a] H (fun v _ => v = .bl true) fun _ _ _ => False := by
  refine ⟨[.ilst ns], fun _ => none, fun _ => False, fun d _ => d = .bl true, fun _ _ _ => False, .cons (.ilst ?_) .nil, ⟨fun a o e => (nomatch e), fun a z => z.elim⟩, h _ _ rfl, fun d L' ed v H' rv _ _ => by subst ed; exact rv.blE, fun _ _ _ z => z.elim⟩
  rcases hS with (h1 | ⟨o, h1⟩) | h1
  · rcases hO a with z | ⟨o, xs, z⟩ <;> rw [h1] at z <;> cases z
  · exact .inl ⟨o, h1⟩
  · exact .inr h1
theorem law_cx {P : Program} {w : World} {H : Hp} {s : Shared} {e : Value} {s' : Shared} (z : L2.CX P w [] H s (fun _ _ _ => False) e s') : False := by
  obtain ⟨_, _, _, _, _, _, _, _, _, _, _, _, z⟩ := z
  exact z
end DL
namespace DL
open PySem PySem.Spec PyProof.Rows L2
/-- a def with defaults of which none is used -/
theorem binds_d {K : PySem.W.Frag} {fd : FuncData} {ps : List Str} {T : Addr} {o : Obj} {its : Array Value} {n : Nat} (lT : K.lookup T = some o) (oT : o.data = .seq its n)
    (h : ∀ us : List Value, us.length = ps.length → ∃ k, bindArgs fd ⟨us, []⟩ = seqItems? (.ref T) >>= k ∧ k (some its) = pure (ps.zip us)) : Binds K fd ps [] := fun s us X hl => by
  rw [List.append_nil] at hl ⊢
  obtain ⟨k, e1, e2⟩ := h us hl
  refine BindsTo.of_looks fun M => ?_
  rw [e1]
  exact looks_items X lT oT (.of_pure e2)
end DL
namespace DL
open PySem PySem.Spec PyProof.Rows L2
/-! ### late choice: which rule of an operator applies is told behind its operands -/
theorem orO {X : Cx} {f : Value → Value → Sem Value} {r r' : R2} (h : OpR X f r) (h' : OpR X f r') : OpR X f (fun x y H Q => r x y H Q ∨ r' x y H Q) := fun pins s σ H x y v u Q I rx ry q =>
  q.elim (h pins s σ H x y v u Q I rx ry) (h' pins s σ H x y v u Q I rx ry)
theorem orC {X : Cx} {f : Value} {r r' : List V → Hp → VK → Prop} (h : CallR X f r) (h' : CallR X f r') : CallR X f (fun xs H Q => r xs H Q ∨ r' xs H Q) := fun pins s σ H xs us Q I rx q =>
  q.elim (h pins s σ H xs us Q I rx) (h' pins s σ H xs us Q I rx)
theorem ix_dT {X : Cx} (hu : X.A.units + 1 < cLine) : IxR X rGetDT := fun value slice pins s σ H x y v u Q I rx ry h hs => by
  obtain ⟨a, w, ex, g, q⟩ := h
  subst ex
  obtain rfl : v = Value.ref a := rx
  exact tail_any (dict_typeIs I g) PySem.F.slot_dict_getitem.lookup (d_getItem hu I g ry fun w' s3 I3 rw' => ⟨w, H, I3, rw', q⟩) hs
section
variable {C : Ctx} {Γ : Gm} {L : Lp} {e a b c o : Expr} {es : List Expr} {pos : Pos} {st : Stmt} {sts : List Stmt} {E : AEnds} {Q : D → Lp → Prop} {x y : D} {r r' : R2}
theorem L2R.le (h : L2R C r x y L Q) : L2R C (fun x y H Q => r x y H Q ∨ r' x y H Q) x y L Q := fun F vx vy H c rx ry QV go => .inl (h F vx vy H c rx ry QV go)
theorem L2R.ri (h : L2R C r' x y L Q) : L2R C (fun x y H Q => r x y H Q ∨ r' x y H Q) x y L Q := fun F vx vy H c rx ry QV go => .inr (h F vx vy H c rx ry QV go)
theorem LcR.le {r r' : List V → Hp → VK → Prop} {xs : List D} (h : LcR C r xs L Q) : LcR C (fun xs H Q => r xs H Q ∨ r' xs H Q) xs L Q := fun F vs H c rx QV go => .inl (h F vs H c rx QV go)
theorem LcR.ri {r r' : List V → Hp → VK → Prop} {xs : List D} (h : LcR C r' xs L Q) : LcR C (fun xs H Q => r xs H Q ∨ r' xs H Q) xs L Q := fun F vs H c rx QV go => .inr (h F vs H c rx QV go)

/-! a + b -/
@[irreducible] def rAddA (K : PySem.W.Frag) : R2 := fun x y H Q => rI0 (fun i j => .int (i + j)) x y H Q ∨ (fun x y H Q => rAddS x y H Q ∨ (fun x y H Q => rCatA K x y H Q ∨ rCat x y H Q) x y H Q) x y H Q
theorem op_addA {X : Cx} : OpR X (binaryOp .Add) (rAddA X.K) := by
  unfold rAddA
  exact orO op_add (orO op_add_str (orO op_catA op_cat))
theorem add_I {i j : Int} (q : Q (.int (i + j)) L) : L2R C (rAddA C.X.K) (.int i) (.int j) L Q := by
  unfold rAddA
  exact .le (r_add q)
theorem add_S {i j : Str} (q : Q (.str (i ++ j)) L) (h : i.length + j.length ≤ sizeLine) : L2R C (rAddA C.X.K) (.str i) (.str j) L Q := by
  unfold rAddA
  exact .ri (.le (r_addS h q))
theorem add_T {xs ys : List D} (q : Q (.tup (xs ++ ys)) L) (h : xs.length + ys.length ≤ sizeLine) : L2R C (rAddA C.X.K) (.tup xs) (.tup ys) L Q := by
  unfold rAddA
  exact .ri (.ri (.le (r_catT h q)))
theorem add_L {p z : Addr} {xs ys : List D} (hp : L p = some (.lst xs)) (hz : L z = some (.lst ys)) (q : ∀ l, L l = none → Q (.ptr l) (put L l (.lst (xs ++ ys)))) (h : xs.length + ys.length ≤ sizeLine) : L2R C (rAddA C.X.K) (.ptr p) (.ptr z) L Q := by
  unfold rAddA
  exact .ri (.ri (.ri fun F vx vy H c rx ry QV go => by
  obtain ⟨vs, ha, ra, _⟩ := c.at_ p _ hp
  obtain ⟨ws, hb, rb, _⟩ := c.at_ z _ hz
  refine ⟨p, z, vs, ws, rx.ptrE, ry.ptrE, ha, hb, by rw [ra.length, rb.length]; exact h, fun l hl => ?_⟩
  exact go _ _ _ (put L l (.lst (xs ++ ys))) (.ptr l) (c.newL hl ⟨_, upd_same, (ra.append rb).mono (.new hl), by rw [List.length_append]; exact h⟩) (.newL hl) (q l (c.free hl))))
/-! a - b, a * b, .. of ints; text * n -/
@[irreducible] def rMulA : R2 := fun x y H Q => rI CMul (fun i j => .int (i * j)) x y H Q ∨ rMulS x y H Q
theorem op_mulA {X : Cx} : OpR X (binaryOp .Mult) rMulA := by
  unfold rMulA
  exact orO op_mul op_mulS
theorem mul_I {i j : Int} (q : Q (.int (i * j)) L) (h : CMul i j) : L2R C rMulA (.int i) (.int j) L Q := by
  unfold rMulA
  exact .le (r_mul h q)
theorem mul_S {z : Str} {n : Int} (q : Q (.str (repS z n.toNat)) L) (h0 : 0 ≤ n) (h1 : n ≤ 1000000) (hz : z.length * n.toNat ≤ 1000000) : L2R C rMulA (.str z) (.int n) L Q := by
  unfold rMulA
  exact .ri (r_mulS h0 h1 hz q)

/-! ### plain data: of texts, ints, None and tuples alone; equality -/
mutual
def plD : D → Bool
  | .non => true
  | .int _ => true
  | .str _ => true
  | .tup ds => plDs ds
  | _ => false
def plDs : List D → Bool
  | [] => true
  | d :: ds => plD d && plDs ds
end
mutual
theorem plD_ok : ∀ d : D, plD d = true → okD d = true
  | .non, _ => by rw [okD]
  | .int _, _ => by rw [okD]
  | .str _, _ => by rw [okD]
  | .tup ds, h => by rw [plD] at h; rw [okD]; exact plDs_ok ds h
  | .bl _, h => by simp [plD] at h
  | .ty _, h => by simp [plD] at h
  | .ptr _, h => by simp [plD] at h
  | .ilst _, h => by simp [plD] at h
  | .obj _ _, h => by simp [plD] at h
  | .flst _, h => by simp [plD] at h
  | .fdct _, h => by simp [plD] at h
  | .kdct _, h => by simp [plD] at h
  | .wds _, h => by simp [plD] at h
theorem plDs_ok : ∀ ds : List D, plDs ds = true → okDs ds = true
  | [], _ => by rw [okDs]
  | d :: ds, h => by
    rw [plDs, Bool.and_eq_true] at h
    rw [okDs, plD_ok d h.1, plDs_ok ds h.2]
    rfl
end
theorem plDs_map {α : Type} (f : α → D) : ∀ xs : List α, (∀ x ∈ xs, plD (f x) = true) → plDs (xs.map f) = true
  | [], _ => by rw [List.map_nil, plDs]
  | x :: xs, h => by rw [List.map_cons, plDs, h x List.mem_cons_self, plDs_map f xs fun y hy => h y (List.mem_cons_of_mem _ hy)]; rfl
end
end DL
namespace DL
open PySem PySem.Spec PyProof.Rows L2
mutual
theorem eqv_pl : ∀ (x y : D), plD x = true → plD y = true → PyData.eqv (py x) (py y) = true → x = y
  | .non, .non, _, _, _ => rfl
  | .int i, .int j, _, _, h => by
    rw [py, py, PyData.eqv] at h
    rw [eq_of_beq h]
  | .str x, .str y, _, _, h => by
    rw [py, py, PyData.eqv] at h
    rw [eq_of_beq h]
  | .tup xs, .tup ys, hx, hy, h => by
    rw [plD] at hx hy
    rw [py, py, PyData.eqv] at h
    rw [eqvs_pl xs ys hx hy h]
  | .non, .int _, _, _, h => by simp [py, PyData.eqv] at h
  | .non, .str _, _, _, h => by simp [py, PyData.eqv] at h
  | .non, .tup _, _, _, h => by simp [py, PyData.eqv] at h
  | .int _, .non, _, _, h => by simp [py, PyData.eqv] at h
  | .int _, .str _, _, _, h => by simp [py, PyData.eqv] at h
  | .int _, .tup _, _, _, h => by simp [py, PyData.eqv] at h
  | .str _, .non, _, _, h => by simp [py, PyData.eqv] at h
  | .str _, .int _, _, _, h => by simp [py, PyData.eqv] at h
  | .str _, .tup _, _, _, h => by simp [py, PyData.eqv] at h
  | .tup _, .non, _, _, h => by simp [py, PyData.eqv] at h
  | .tup _, .int _, _, _, h => by simp [py, PyData.eqv] at h
  | .tup _, .str _, _, _, h => by simp [py, PyData.eqv] at h
  | .bl _, _, hx, _, _ => by simp [plD] at hx
  | .ty _, _, hx, _, _ => by simp [plD] at hx
  | .ptr _, _, hx, _, _ => by simp [plD] at hx
  | .ilst _, _, hx, _, _ => by simp [plD] at hx
  | .obj _ _, _, hx, _, _ => by simp [plD] at hx
  | .flst _, _, hx, _, _ => by simp [plD] at hx
  | .fdct _, _, hx, _, _ => by simp [plD] at hx
  | .kdct _, _, hx, _, _ => by simp [plD] at hx
  | .wds _, _, hx, _, _ => by simp [plD] at hx
  | _, .bl _, _, hy, _ => by simp [plD] at hy
  | _, .ty _, _, hy, _ => by simp [plD] at hy
  | _, .ptr _, _, hy, _ => by simp [plD] at hy
  | _, .ilst _, _, hy, _ => by simp [plD] at hy
  | _, .obj _ _, _, hy, _ => by simp [plD] at hy
  | _, .flst _, _, hy, _ => by simp [plD] at hy
  | _, .fdct _, _, hy, _ => by simp [plD] at hy
  | _, .kdct _, _, hy, _ => by simp [plD] at hy
  | _, .wds _, _, hy, _ => by simp [plD] at hy
theorem eqvs_pl : ∀ (xs ys : List D), plDs xs = true → plDs ys = true → PyData.eqvAll (pys xs) (pys ys) = true → xs = ys
  | [], [], _, _, _ => rfl
  | x :: xs, y :: ys, hx, hy, h => by
    rw [plDs, Bool.and_eq_true] at hx hy
    rw [pys, pys, PyData.eqvAll, Bool.and_eq_true] at h
    rw [eqv_pl x y hx.1 hy.1 h.1, eqvs_pl xs ys hx.2 hy.2 h.2]
  | [], _ :: _, _, _, h => by simp [pys, PyData.eqvAll] at h
  | _ :: _, [], _, _, h => by simp [pys, PyData.eqvAll] at h
end
mutual
theorem eqv_rf : ∀ (x : D), plD x = true → PyData.eqv (py x) (py x) = true
  | .non, _ => by rw [py, PyData.eqv]
  | .int i, _ => by rw [py, PyData.eqv]; exact beq_self_eq_true i
  | .str x, _ => by rw [py, PyData.eqv]; exact beq_self_eq_true x
  | .tup xs, hx => by
    rw [plD] at hx
    rw [py, PyData.eqv]
    exact eqvs_rf xs hx
  | .bl _, hx => by simp [plD] at hx
  | .ty _, hx => by simp [plD] at hx
  | .ptr _, hx => by simp [plD] at hx
  | .ilst _, hx => by simp [plD] at hx
  | .obj _ _, hx => by simp [plD] at hx
  | .flst _, hx => by simp [plD] at hx
  | .fdct _, hx => by simp [plD] at hx
  | .kdct _, hx => by simp [plD] at hx
  | .wds _, hx => by simp [plD] at hx
theorem eqvs_rf : ∀ (xs : List D), plDs xs = true → PyData.eqvAll (pys xs) (pys xs) = true
  | [], _ => by rw [pys, PyData.eqvAll]
  | x :: xs, hx => by
    rw [plDs, Bool.and_eq_true] at hx
    rw [pys, PyData.eqvAll, eqv_rf x hx.1, eqvs_rf xs hx.2]
    rfl
end
theorem eqv_iff {x y : D} (hx : plD x = true) (hy : plD y = true) : PyData.eqv (py x) (py y) = true ↔ x = y := ⟨eqv_pl x y hx hy, fun e => by subst e; exact eqv_rf x hx⟩
/-! ### kinds of plain data -/
class Enc (α : Type) where
  enc : α → D
  pl : ∀ x, plD (enc x) = true
  inj : ∀ x y, enc x = enc y → x = y
  dep : Nat
  dpt : ∀ x, (py (enc x)).depth ≤ dep
open Enc
instance : Enc Str := ⟨.str, fun _ => by rw [plD], fun _ _ h => D.str.inj h, 1, fun _ => by rw [py, PyData.depth]; decide⟩
instance : Enc Int := ⟨.int, fun _ => by rw [plD], fun _ _ h => D.int.inj h, 1, fun _ => by rw [py, PyData.depth]; decide⟩
instance : Enc Nat := ⟨fun n => .int n, fun _ => by rw [plD], fun _ _ h => Int.ofNat.inj (D.int.inj h), 1, fun _ => by rw [py, PyData.depth]; decide⟩
theorem depAll {ds : List PyData} {n : Nat} (h : ∀ d ∈ ds, d.depth ≤ n) : (PyData.tuple ds).depth ≤ n + 1 := by
  have key : ∀ ds : List PyData, (∀ d ∈ ds, d.depth ≤ n) → PyData.depthAll ds ≤ n := by
    intro ds
    induction ds with
    | nil => intro _; rw [PyData.depthAll]; exact Nat.zero_le _
    | cons d ds ih =>
      intro h
      rw [PyData.depthAll]
      exact Nat.max_le.mpr ⟨h d List.mem_cons_self, ih fun x hx => h x (List.mem_cons_of_mem _ hx)⟩
  rw [PyData.depth]
  have := key ds h
  omega
theorem map_encinj {α : Type} [Enc α] : ∀ xs ys : List α, xs.map (enc (α := α)) = ys.map enc → xs = ys
  | [], [], _ => rfl
  | x :: xs, y :: ys, h => by
    rw [List.map_cons, List.map_cons] at h
    injection h with h1 h2
    rw [inj x y h1, map_encinj xs ys h2]
  | [], _ :: _, h => by cases h
  | _ :: _, [], h => by cases h
instance encL {α : Type} [Enc α] : Enc (List α) := ⟨fun xs => .tup (xs.map enc), fun xs => by rw [plD]; exact plDs_map _ _ fun x _ => pl x, fun xs ys h => map_encinj xs ys (D.tup.inj h), dep α + 1, fun xs => by
  rw [py, pys_map]
  refine depAll fun d hd => ?_
  obtain ⟨x, _, rfl⟩ := List.mem_map.mp hd
  exact dpt x⟩
instance encP {α β : Type} [Enc α] [Enc β] : Enc (α × β) := ⟨fun p => .tup [enc p.1, enc p.2], fun p => by rw [plD, plDs, plDs, plDs, pl, pl]; rfl, fun p q h => by
  have h := D.tup.inj h
  injection h with h1 h2
  injection h2 with h2 _
  exact Prod.ext (inj _ _ h1) (inj _ _ h2), max (dep α) (dep β) + 1, fun p => by
  rw [py, pys, pys, pys]
  refine depAll fun d hd => ?_
  rcases List.mem_cons.mp hd with e | hd
  · rw [e]; exact Nat.le_trans (dpt _) (Nat.le_max_left _ _)
  · rw [List.mem_singleton.mp hd]; exact Nat.le_trans (dpt _) (Nat.le_max_right _ _)⟩
/-- three beside one another -/
structure T3 (α β γ : Type) where
  a : α
  b : β
  c : γ
instance encT {α β γ : Type} [Enc α] [Enc β] [Enc γ] : Enc (T3 α β γ) := ⟨fun p => .tup [enc p.a, enc p.b, enc p.c], fun p => by rw [plD, plDs, plDs, plDs, plDs, pl, pl, pl]; rfl, fun p q h => by
  have h := D.tup.inj h
  injection h with h1 h2
  injection h2 with h2 h3
  injection h3 with h3 _
  cases p
  cases q
  congr 1
  · exact inj _ _ h1
  · exact inj _ _ h2
  · exact inj _ _ h3, max (dep α) (max (dep β) (dep γ)) + 1, fun p => by
  rw [py, pys, pys, pys, pys]
  refine depAll fun d hd => ?_
  rcases List.mem_cons.mp hd with e | hd
  · rw [e]; exact Nat.le_trans (dpt _) (Nat.le_max_left _ _)
  · rcases List.mem_cons.mp hd with e | hd
    · rw [e]; exact Nat.le_trans (dpt _) (Nat.le_trans (Nat.le_max_left _ _) (Nat.le_max_right _ _))
    · rw [List.mem_singleton.mp hd]; exact Nat.le_trans (dpt _) (Nat.le_trans (Nat.le_max_right _ _) (Nat.le_max_right _ _))⟩
theorem enc_ok {α : Type} [Enc α] (x : α) : okD (enc x) = true := plD_ok _ (pl x)
theorem eqv_enc {α : Type} [Enc α] (x y : α) : PyData.eqv (py (enc x)) (py (enc y)) = true ↔ x = y := (eqv_iff (pl x) (pl y)).trans ⟨inj x y, fun e => by rw [e]⟩

theorem eqv_dec {α : Type} [Enc α] [DecidableEq α] (x y : α) : PyData.eqv (py (enc x)) (py (enc y)) = decide (x = y) := by
  by_cases h : x = y
  · rw [decide_eq_true h]; exact (eqv_enc x y).mpr h
  · rw [decide_eq_false h]
    cases e : PyData.eqv (py (enc x)) (py (enc y)) with
    | false => rfl
    | true => exact absurd ((eqv_enc x y).mp e) h
section
variable {C : Ctx} {Γ : Gm} {L : Lp} {Q : D → Lp → Prop} {x y : D}
@[irreducible] def rEqA (K : PySem.W.Frag) : R2 := fun x y H Q => rEq x y H Q ∨ rEqD K x y H Q
theorem op_eqA {X : Cx} (hu : X.A.units + 64 < cLine) : OpR X (compareOp .Eq) (rEqA X.K) := by
  unfold rEqA
  exact orO op_eq (op_eqD hu)
@[irreducible] def rNeA (K : PySem.W.Frag) : R2 := fun x y H Q => rNe x y H Q ∨ rNeD K x y H Q
theorem op_neA {X : Cx} (hu : X.A.units + 64 < cLine) : OpR X (compareOp .NotEq) (rNeA X.K) := by
  unfold rNeA
  exact orO op_ne (op_neD hu)
theorem eq_I {i j : Int} (q : Q (.bl (decide (i = j))) L) : L2R C (rEqA C.X.K) (.int i) (.int j) L Q := by
  unfold rEqA
  exact .le (r_eqI q)
theorem ne_I {i j : Int} (q : Q (.bl (!decide (i = j))) L) : L2R C (rNeA C.X.K) (.int i) (.int j) L Q := by
  unfold rNeA
  exact .le (r_neI q)
theorem eq_S {i j : Str} (q : Q (.bl (decide (i = j))) L) : L2R C (rEqA C.X.K) (.str i) (.str j) L Q := by
  unfold rEqA
  exact .le (r_eqS q)
theorem ne_S {i j : Str} (q : Q (.bl (!decide (i = j))) L) : L2R C (rNeA C.X.K) (.str i) (.str j) L Q := by
  unfold rNeA
  exact .le (r_neS q)
theorem eq_D (hx : okD x = true) (hy : okD y = true) (dx : (py x).depth ≤ 64) (dy : (py y).depth ≤ 64) (q : Q (.bl (PyData.eqv (py x) (py y))) L) : L2R C (rEqA C.X.K) x y L Q := by
  unfold rEqA
  exact .ri (r_eqD hx hy dx dy q)
theorem ne_D (hx : okD x = true) (hy : okD y = true) (dx : (py x).depth ≤ 64) (dy : (py y).depth ≤ 64) (q : Q (.bl (!PyData.eqv (py x) (py y))) L) : L2R C (rNeA C.X.K) x y L Q := by
  unfold rNeA
  exact .ri (r_neD hx hy dx dy q)
theorem eq_self (hx : okD x = true) (dx : (py x).depth ≤ 64) (q : Q (.bl true) L) : L2R C (rEqA C.X.K) x x L Q := by
  unfold rEqA
  exact .ri (r_eqSame hx dx q)
theorem ne_self (hx : okD x = true) (dx : (py x).depth ≤ 64) (q : Q (.bl false) L) : L2R C (rNeA C.X.K) x x L Q := by
  unfold rNeA
  exact .ri (r_neSame hx dx q)

theorem eq_E {α : Type} [Enc α] [DecidableEq α] {x y : α} (q : Q (.bl (decide (x = y))) L) (h : dep α ≤ 64 := by decide) : L2R C (rEqA C.X.K) (enc x) (enc y) L Q := by
  exact eq_D (enc_ok x) (enc_ok y) (Nat.le_trans (dpt x) h) (Nat.le_trans (dpt y) h) (by rw [eqv_dec]; exact q)

theorem ne_E {α : Type} [Enc α] [DecidableEq α] {x y : α} (q : Q (.bl (!decide (x = y))) L) (h : dep α ≤ 64 := by decide) : L2R C (rNeA C.X.K) (enc x) (enc y) L Q := by
  exact ne_D (enc_ok x) (enc_ok y) (Nat.le_trans (dpt x) h) (Nat.le_trans (dpt y) h) (by rw [eqv_dec]; exact q)
end
end DL
namespace DL
open PySem PySem.Spec PyProof.Rows L2
section
variable {C : Ctx} {Γ : Gm} {L : Lp} {e a b c o tg iter elt : Expr} {es : List Expr} {pos p p1 p2 : Pos} {st : Stmt} {sts : List Stmt} {E : AEnds} {Q : D → Lp → Prop} {x y : D}
/-! ### a < b -/
@[irreducible] def rLtA (K : PySem.W.Frag) : R2 := fun x y H Q => rI0 (fun i j => .bl (decide (i < j))) x y H Q ∨ (fun x y H Q => rLtS x y H Q ∨ rLtD K x y H Q) x y H Q
theorem op_ltA {X : Cx} (hu : X.A.units + 64 < cLine) : OpR X (compareOp .Lt) (rLtA X.K) := by
  unfold rLtA
  exact orO op_lt (orO op_lt_str (op_ltD hu))
theorem lt_I {i j : Int} (q : Q (.bl (decide (i < j))) L) : L2R C (rLtA C.X.K) (.int i) (.int j) L Q := by
  unfold rLtA
  exact .le (r_lt q)
theorem lt_S {i j : Str} (q : Q (.bl (decide (i.cps.toList < j.cps.toList))) L) : L2R C (rLtA C.X.K) (.str i) (.str j) L Q := by
  unfold rLtA
  exact .ri (.le (r_ltS q))
theorem lt_D (hx : okD x = true) (hy : okD y = true) (hal : PySem.W.alike (py x) (py y) = true) (hn : py x ≠ .none) (dx : (py x).depth ≤ 64) (q : Q (.bl (PySem.W.dataLt (py x) (py y))) L) : L2R C (rLtA C.X.K) x y L Q := by
  unfold rLtA
  exact .ri (.ri (r_ltD hx hy hal hn dx q))
/-! ### x is None -/
abbrev rIsN : R2 := fun x y H Q => y = .non ∧ Q (.bl (decide (x = .non))) H
def isN : D → Bool
  | .non => true
  | _ => false
theorem is_N (q : Q (.bl (isN x)) L) : L2R C rIsN x .non L Q := fun F vx vy H c rx ry QV go => by
  refine ⟨ry.nonE, ?_⟩
  have e : decide (vx = V.non) = isN x := by
    cases rx <;> simp [isN]
  rw [e]
  exact go _ _ H L (.bl _) c (.refl L H) q
theorem not_N (q : Q (.bl (!isN x)) L) : L2R C rNotN x .non L Q := fun F vx vy H c rx ry QV go => by
  refine ⟨ry.nonE, ?_⟩
  have e : (!decide (vx = V.non)) = !isN x := by
    cases rx <;> simp [isN]
  rw [e]
  exact go _ _ H L (.bl _) c (.refl L H) q
/-! ### x[i] -/
@[irreducible] def rIxA (K : PySem.W.Frag) : R2 := fun x y H Q => rIxT K x y H Q ∨ (fun x y H Q => rIxL K x y H Q ∨ (fun x y H Q => rIxS x y H Q ∨ rGetDT x y H Q) x y H Q) x y H Q
theorem ix_A {X : Cx} (hu : X.A.units + 1 < cLine) : IxR X (rIxA X.K) := by
  unfold rIxA
  exact ix_tup.or (ix_list.or (ix_str.or (ix_dT hu)))
theorem ixa_T {xs : List D} {i : Int} {d : D} (q : Q d L) (h : atI xs i = some d) : L2R C (rIxA C.X.K) (.tup xs) (.int i) L Q := by
  unfold rIxA
  exact .le (r_ixT h q)
theorem ixa_L {p : Addr} {xs : List D} {i : Int} {d : D} (hp : L p = some (.lst xs)) (q : Q d L) (h : atI xs i = some d) : L2R C (rIxA C.X.K) (.ptr p) (.int i) L Q := by
  unfold rIxA
  exact .ri (.le (r_ixL hp h q))
theorem ixa_N {ns : List Int} {i k : Int} (q : Q (.int k) L) (h : atI ns i = some k) : L2R C (rIxA C.X.K) (.ilst ns) (.int i) L Q := by
  unfold rIxA
  exact .ri (.le (r_ixN h q))
theorem ixa_S {z : Str} {i : Int} {k : Nat} (q : Q (.str ⟨#[k]⟩) L) (h : atI z.cps.toList i = some k) : L2R C (rIxA C.X.K) (.str z) (.int i) L Q := by
  unfold rIxA
  exact .ri (.ri (.le (r_ixS h q)))
theorem ixa_D {p : Addr} {kds : List (List Key × D)} {k : List Key} {d : D} (hp : L p = some (.dct kds)) (q : Q d L) (hv : valD kds k = some d) : L2R C (rIxA C.X.K) (.ptr p) (kD k) L Q := by
  unfold rIxA
  exact .ri (.ri (.ri fun F vx vy H c rx ry QV go => by
  obtain ⟨kvs, ha, ra, _⟩ := c.at_ p _ hp
  obtain ⟨t, rfl, ht⟩ := kD_at ry
  rcases KDs.val ra k with ⟨_, e2⟩ | ⟨v, d', e1, e2, rv⟩
  · rw [hv] at e2
    cases e2
  · rw [hv] at e2
    cases e2
    exact ⟨p, v, rx.ptrE, e1 ▸ DGet.t ha ht, go _ _ H L rv c (.refl L H) q⟩))
/-! ### x[i:j] -/
@[irreducible] def rSlAA (K : PySem.W.Frag) : V → Option Int → Option Int → Hp → VK → Prop := fun x lo hi H Q => rSlA K x lo hi H Q ∨ (fun x lo hi H Q => rSlL K x lo hi H Q ∨ rSlS x lo hi H Q) x lo hi H Q
theorem sl_A {X : Cx} : SlR X (rSlAA X.K) := by
  unfold rSlAA
  exact sl_tupA.or (sl_list.or sl_str)
theorem sla_T {xs : List D} {lo hi : Option Int} (q : Q (.tup (cut xs lo hi)) L) : LsR C (rSlAA C.X.K) (.tup xs) lo hi L Q := by
  unfold rSlAA
  exact fun F v H c r QV go => .inl (s_tup q F v H c r QV go)
theorem sla_L {p : Addr} {xs : List D} {lo hi : Option Int} (hp : L p = some (.lst xs)) (q : ∀ l, L l = none → Q (.ptr l) (put L l (.lst (cut xs lo hi)))) : LsR C (rSlAA C.X.K) (.ptr p) lo hi L Q := by
  unfold rSlAA
  exact fun F v H c r QV go => .inr (.inl (s_lst hp q F v H c r QV go))
theorem sla_S {z : Str} {lo hi : Option Int} (q : Q (.str (cutS z lo hi)) L) : LsR C (rSlAA C.X.K) (.str z) lo hi L Q := by
  unfold rSlAA
  exact fun F v H c r QV go => .inr (.inr (s_str q F v H c r QV go))
/-! ### ints: <=, >, >=, - -/
@[irreducible] def rLeA : R2 := rI0 fun i j => .bl (decide (i ≤ j))
theorem op_leA {X : Cx} : OpR X (compareOp .LtE) rLeA := by
  unfold rLeA
  exact op_le
theorem le_I {i j : Int} (q : Q (.bl (decide (i ≤ j))) L) : L2R C rLeA (.int i) (.int j) L Q := by
  unfold rLeA
  exact r_le q
@[irreducible] def rGtA : R2 := rI0 fun i j => .bl (decide (j < i))
theorem op_gtA {X : Cx} : OpR X (compareOp .Gt) rGtA := by
  unfold rGtA
  exact op_gt
theorem gt_I {i j : Int} (q : Q (.bl (decide (j < i))) L) : L2R C rGtA (.int i) (.int j) L Q := by
  unfold rGtA
  exact r_gt q
@[irreducible] def rGeA : R2 := rI0 fun i j => .bl (decide (j ≤ i))
theorem op_geA {X : Cx} : OpR X (compareOp .GtE) rGeA := by
  unfold rGeA
  exact op_ge
theorem ge_I {i j : Int} (q : Q (.bl (decide (j ≤ i))) L) : L2R C rGeA (.int i) (.int j) L Q := by
  unfold rGeA
  exact r_ge q
@[irreducible] def rSubA : R2 := rI0 fun i j => .int (i - j)
theorem op_subA {X : Cx} : OpR X (binaryOp .Sub) rSubA := by
  unfold rSubA
  exact op_sub
theorem sub_I {i j : Int} (q : Q (.int (i - j)) L) : L2R C rSubA (.int i) (.int j) L Q := by
  unfold rSubA
  exact r_sub q
@[irreducible] def rModA : R2 := rI (fun _ j => 0 < j) fun i j => .int (i % j)
theorem op_modA {X : Cx} : OpR X (binaryOp .Mod) rModA := by
  unfold rModA
  exact op_mod
theorem mod_I {i j : Int} (q : Q (.int (i % j)) L) (h : 0 < j) : L2R C rModA (.int i) (.int j) L Q := by
  unfold rModA
  exact r_mod h q
@[irreducible] def rDivA : R2 := rI CDiv fun i j => .int (i / j)
theorem op_divA {X : Cx} : OpR X (binaryOp .FloorDiv) rDivA := by
  unfold rDivA
  exact op_fdiv
theorem div_I {i j : Int} (q : Q (.int (i / j)) L) (h : CDiv i j) : L2R C rDivA (.int i) (.int j) L Q := by
  unfold rDivA
  exact r_fdiv h q
@[irreducible] def rIsA : R2 := rIsN
theorem op_isA {X : Cx} : OpR X (compareOp .Is) rIsA := by
  unfold rIsA
  exact op_isN
theorem isa_N (q : Q (.bl (isN x)) L) : L2R C rIsA x .non L Q := by
  unfold rIsA
  exact is_N q
@[irreducible] def rIsNotA : R2 := rNotN
theorem op_isNotA {X : Cx} : OpR X (compareOp .IsNot) rIsNotA := by
  unfold rIsNotA
  exact op_notN
theorem isnota_N (q : Q (.bl (!isN x)) L) : L2R C rIsNotA x .non L Q := by
  unfold rIsNotA
  exact not_N q
/-! ### len(x) -/
@[irreducible] def rLenA (K : PySem.W.Frag) : List V → Hp → VK → Prop := fun xs H Q => rLenQ K xs H Q ∨ (fun xs H Q => rLenSt xs H Q ∨ rLenD xs H Q) xs H Q
theorem call_lenA {X : Cx} : CallR X (.builtin "len") (rLenA X.K) := by
  unfold rLenA
  exact orC call_len_seq (orC call_len_str call_lenD)
end
end DL
namespace DL
open PySem PySem.Spec PyProof.Rows L2
abbrev cl (x : Str) : List Nat := x.cps.toList
theorem cl_len (x : Str) : (cl x).length = x.length := Array.length_toList ..
def abcW (ks : List Nat) : Bool := ks.all fun k => decide (k ∈ abc)
theorem wdS_cl (x : Str) : wdS x = (decide (1 ≤ (cl x).length) && decide ((cl x).length ≤ 8) && abcW (cl x)) := by
  rw [cl_len]
  rfl
theorem wdS_of {x : Str} (h1 : 1 ≤ (cl x).length) (h2 : (cl x).length ≤ 8) (h3 : abcW (cl x) = true) : wdS x = true := by
  rw [wdS_cl, decide_eq_true h1, decide_eq_true h2, h3]
  rfl
theorem wdS_iff {x : Str} (h : wdS x = true) : 1 ≤ (cl x).length ∧ (cl x).length ≤ 8 ∧ abcW (cl x) = true := by
  rw [wdS_cl, Bool.and_eq_true, Bool.and_eq_true] at h
  exact ⟨of_decide_eq_true h.1.1, of_decide_eq_true h.1.2, h.2⟩
theorem abcW_app (a b : List Nat) : abcW (a ++ b) = (abcW a && abcW b) := List.all_append
theorem abcW_mem {a : List Nat} (h : abcW a = true) : ∀ k ∈ a, k ∈ abc := fun k hk => of_decide_eq_true (List.all_eq_true.mp h k hk)
theorem abcW_of {a : List Nat} (h : ∀ k ∈ a, k ∈ abc) : abcW a = true := List.all_eq_true.mpr fun k hk => decide_eq_true (h k hk)
theorem cl_join (ks : List Nat) : cl (Txt.join Str.empty (ks.map sgn)) = ks := by
  rw [TL.join_eq]
  have h := TL.tl_join Str.empty (ks.map sgn)
  have e : ∀ ks : List Nat, TL.joinL (TL.tl Str.empty) ((ks.map sgn).map TL.tl) = ks := by
    intro ks
    induction ks with
    | nil => rfl
    | cons k ks ih =>
      cases ks with
      | nil => rfl
      | cons k2 ks =>
        show [k] ++ ([] ++ TL.joinL (TL.tl Str.empty) (((k2 :: ks).map sgn).map TL.tl)) = _
        rw [ih]
        rfl
  exact h.trans (e ks)
theorem cl_rep (x : Str) (n : Nat) : cl (repS x n) = (List.replicate n (cl x)).flatten := by
  unfold repS cl
  simp
theorem cl_app (x y : Str) : cl (x ++ y) = cl x ++ cl y := by
  show (x.cps ++ y.cps).toList = _
  simp
theorem cl_cut (z : Str) (lo hi : Option Int) : cl (cutS z lo hi) = cut (cl z) lo hi := by
  unfold cutS cl cut
  simp
  rfl
theorem cl_sgn (k : Nat) : cl (sgn k) = [k] := rfl
theorem cut_mem {α : Type} {xs : List α} {lo hi : Option Int} {x : α} (h : x ∈ cut xs lo hi) : x ∈ xs := by
  unfold cut at h
  exact List.mem_of_mem_drop (List.mem_of_mem_take h)
theorem abcW_cut {a : List Nat} (h : abcW a = true) (lo hi : Option Int) : abcW (cut a lo hi) = true := abcW_of fun k hk => abcW_mem h k (cut_mem hk)
theorem signs_mem {x : Str} {d : D} (h : d ∈ sgnsOf x) : ∃ k, k ∈ cl x ∧ d = .str (sgn k) := by
  unfold sgnsOf at h
  obtain ⟨k, hk, rfl⟩ := List.mem_map.mp h
  exact ⟨k, hk, rfl⟩
/-- some letter is not there -/
theorem filter_len {α : Type} [DecidableEq α] (l : List α) (nd : l.Nodup) : ∀ ys : List α, l.length ≤ (l.filter fun x => !decide (x ∈ ys)).length + ys.length
  | [] => by
    rw [List.filter_eq_self.mpr (by simp)]
    exact Nat.le_refl _
  | y :: ys => by
    have ih := filter_len l nd ys
    have e : (l.filter fun x => !decide (x ∈ y :: ys)) = (l.filter fun x => !decide (x ∈ ys)).filter fun x => !decide (x = y) := by
      rw [List.filter_filter]
      congr 1
      funext x
      by_cases h1 : x = y <;> by_cases h2 : x ∈ ys <;> simp [h1, h2]
    have nd2 : (l.filter fun x => !decide (x ∈ ys)).Nodup := nd.filter _
    have h3 : ∀ m : List α, m.Nodup → m.length ≤ (m.filter fun x => !decide (x = y)).length + 1 := by
      intro m
      induction m with
      | nil => intro _; exact Nat.zero_le _
      | cons x m ihm =>
        intro hm
        obtain ⟨h1, h2⟩ := List.nodup_cons.mp hm
        by_cases hx : x = y
        · rw [List.filter_cons_of_neg (by simp [hx]), List.length_cons]
          have : m.filter (fun x => !decide (x = y)) = m := List.filter_eq_self.mpr fun z hz => by
            have : z ≠ y := fun e => h1 (by rw [hx, ← e]; exact hz)
            simp [this]
          rw [this]
          exact Nat.le_refl _
        · rw [List.filter_cons_of_pos (by simp [hx]), List.length_cons, List.length_cons]
          have := ihm h2
          omega
    have := h3 _ nd2
    rw [e, List.length_cons]
    omega
theorem sum_sgn : ∀ ks : List Nat, ((ks.map sgn).map (·.length)).sum = ks.length
  | [] => rfl
  | k :: ks => by
    rw [List.map_cons, List.map_cons, List.sum_cons, sum_sgn ks, List.length_cons]
    show 1 + _ = _
    omega
theorem abc_nodup : (abc.map sgn).Nodup := by decide +kernel
theorem abc_len : abc.length = 26 := by decide +kernel
theorem abc_ne : ∀ ys : List Str, ys.length < 26 → ∃ k r, (abc.map sgn).filter (fun x => !decide (x ∈ ys)) = sgn k :: r ∧ k ∈ abc := fun ys h => by
  have h1 := filter_len (abc.map sgn) abc_nodup ys
  rw [List.length_map, abc_len] at h1
  cases e : (abc.map sgn).filter (fun x => !decide (x ∈ ys)) with
  | nil => rw [e] at h1; simp at h1; omega
  | cons x r =>
    have hx : x ∈ (abc.map sgn).filter (fun x => !decide (x ∈ ys)) := by rw [e]; exact List.mem_cons_self
    obtain ⟨k, hk, rfl⟩ := List.mem_map.mp (List.mem_filter.mp hx).1
    exact ⟨k, r, rfl, hk⟩
section
variable {C : Ctx} {Γ : Gm} {L : Lp} {Q : D → Lp → Prop}
theorem inV_strs (x : Str) (ys : List Str) : inV (.str x) (ys.map V.str) = decide (x ∈ ys) := by
  unfold inV
  rw [List.any_map]
  induction ys with
  | nil => rfl
  | cons y ys ih =>
    rw [List.any_cons, ih]
    show ((y == x) || _) = _
    by_cases h : x = y
    · subst h; simp
    · have : (y == x) = false := by simpa using fun e => h e.symm
      rw [this]
      simp [h]
theorem r_inL {p : Addr} {x : Str} {ys : List Str} (hp : L p = some (.lst (ys.map D.str))) (q : Q (.bl (decide (x ∈ ys))) L) : L2R C (rIn C.X.K false) (.str x) (.ptr p) L Q := fun F vx vy H c rx ry QV go => by
  obtain ⟨ws, ha, ra, _⟩ := c.at_ p _ hp
  have e := reps_strs ra
  subst e
  refine ⟨p, _, ry.ptrE, .inl (SqL.of ha), by rw [rx.strE]; rfl, by rw [List.all_map]; exact List.all_eq_true.mpr fun _ _ => rfl, ?_⟩
  rw [rx.strE]
  show QV (.bl (inV (.str x) (ys.map V.str))) H
  rw [inV_strs]
  exact go _ _ H L (.bl _) c (.refl L H) q
theorem r_notInL {p : Addr} {x : Str} {ys : List Str} (hp : L p = some (.lst (ys.map D.str))) (q : Q (.bl (!decide (x ∈ ys))) L) : L2R C (rIn C.X.K true) (.str x) (.ptr p) L Q := fun F vx vy H c rx ry QV go => by
  obtain ⟨ws, ha, ra, _⟩ := c.at_ p _ hp
  have e := reps_strs ra
  subst e
  refine ⟨p, _, ry.ptrE, .inl (SqL.of ha), by rw [rx.strE]; rfl, by rw [List.all_map]; exact List.all_eq_true.mpr fun _ _ => rfl, ?_⟩
  rw [rx.strE]
  show QV (.bl (!inV (.str x) (ys.map V.str))) H
  rw [inV_strs]
  exact go _ _ H L (.bl _) c (.refl L H) q
end
end DL
namespace DL
open PySem PySem.Spec PyProof.Rows L2
theorem as_mid {C : Ctx} {Γ : Gm} {L : Lp} {E : AEnds} {st : Stmt} {sts : List Stmt} (M : Gm → Lp → Prop) (h : AS C st Γ L { E with nx := M }) (h2 : ∀ Γ' L', M Γ' L' → ASs C sts Γ' L' E) : ASs C (st :: sts) Γ L E :=
  as_cons fun F σ H ok DD go => h F σ H ok DD ⟨fun s H2 Γ2 L2 o f q => go.nx s H2 Γ2 L2 o f (h2 _ _ q), go.rt, go.bk, go.ct⟩
/-- a store where p has been drawn from and n is new -/
def St2 (L : Lp) (p : Addr) (mo : MO) (n : Addr) (x : MO) : Lp := put (put L p mo) n x
theorem St2.p {L : Lp} {p n : Addr} {mo x : MO} (h : n ≠ p) : St2 L p mo n x p = some mo := by
  unfold St2
  rw [put_ne (Ne.symm h), put_same]
theorem St2.n {L : Lp} {p n : Addr} {mo x : MO} : St2 L p mo n x n = some x := put_same
theorem St2.putP {L : Lp} {p n : Addr} {mo mo' x : MO} (h : n ≠ p) : put (St2 L p mo n x) p mo' = St2 L p mo' n x := by
  unfold St2
  rw [put_comm h, put_put]
theorem St2.putN {L : Lp} {p n : Addr} {mo x x' : MO} : put (St2 L p mo n x) n x' = St2 L p mo n x' := put_put
theorem St2.le {L : Lp} {p n : Addr} {mo x : MO} (h : L n = none) (hn : n ≠ p) : Le (put L p mo) (St2 L p mo n x) := le_put (by rw [put_ne hn]; exact h)
end DL
namespace DL
open PySem PySem.Spec PyProof.Rows L2
theorem cellOfD_dW (ws : List Wd) : cellOfD (dW ws) = ws := by
  show ((ws.map D.str).map fun d => match d with | .str x => x | _ => Str.empty) = ws
  rw [List.map_map]
  exact List.map_id _
theorem putR_keys {rs : Rl} {k : List Wd} {z : List Cell} : (putR rs k z).map (·.1) = if rs.any (fun r => decide (r.1 = k)) then rs.map (·.1) else rs.map (·.1) ++ [k] := by
  unfold putR
  split
  · rw [List.map_map]
    refine List.map_congr_left fun r _ => ?_
    show (if r.1 = k then (r.1, z) else r).1 = r.1
    split <;> rfl
  · rw [List.map_append]
    rfl
theorem putR_nodup {rs : Rl} {k : List Wd} {z : List Cell} (nd : (rs.map (·.1)).Nodup) : ((putR rs k z).map (·.1)).Nodup := by
  rw [putR_keys]
  split
  · exact nd
  · rename_i h
    refine List.nodup_append.mpr ⟨nd, by simp, fun a ha b hb e => h ?_⟩
    rw [List.mem_singleton] at hb
    obtain ⟨r, hr, hre⟩ := List.mem_map.mp ha
    exact List.any_eq_true.mpr ⟨r, hr, decide_eq_true (by rw [hre, e, hb])⟩
theorem putR_len (rs : Rl) (k : List Wd) (z : List Cell) : (putR rs k z).length ≤ rs.length + 1 := by
  unfold putR
  split
  · rw [List.length_map]; omega
  · rw [List.length_append]; exact Nat.le_refl _
theorem putR_mem {rs : Rl} {k : List Wd} {z : List Cell} {r : List Wd × List Cell} (h : r ∈ putR rs k z) : r = (k, z) ∨ r ∈ rs := by
  unfold putR at h
  split at h
  · obtain ⟨x, hx, e⟩ := List.mem_map.mp h
    split at e
    · rename_i e2
      exact .inl (by rw [← e, e2])
    · exact .inr (by rw [← e]; exact hx)
  · rcases List.mem_append.mp h with h | h
    · exact .inr h
    · exact .inl (List.mem_singleton.mp h)
theorem tbl_len (rs : Rl) : (tbl rs).length = rs.length := List.length_map ..
/-- what the law's pair list becomes as a dict -/
theorem mergeD_tbl {rs : Rl} (nd : (rs.map (·.1)).Nodup) : mergeD [] (tbl rs) = tbl rs := by
  have key : ∀ (more done : Rl), ((done ++ more).map (·.1)).Nodup → mergeD (tbl done) (tbl more) = tbl (done ++ more) := by
    intro more
    induction more with
    | nil => intro done _; rw [List.append_nil]; rfl
    | cons r more ih =>
      intro done nd
      show mergeD (putD (tbl done) (kS r.1) (dC r.2)) (tbl more) = _
      rw [put_tbl]
      have e : putR done r.1 r.2 = done ++ [r] := by
        unfold putR
        have : done.any (fun x => decide (x.1 = r.1)) = false := by
          rw [List.any_eq_false]
          intro x hx hxe
          have hxe := of_decide_eq_true hxe
          rw [List.map_append, List.nodup_append] at nd
          exact nd.2.2 x.1 (List.mem_map.mpr ⟨x, hx, rfl⟩) r.1 (by rw [List.map_cons]; exact List.mem_cons_self) hxe
        rw [this]
        rfl
      rw [e, ih (done ++ [r]) (by rw [List.append_assoc]; exact nd), List.append_assoc]
      rfl
  exact key rs [] nd
end DL
namespace DL
open PySem PySem.Spec PyProof.Rows L2
section
variable {C : Ctx} {Γ : Gm} {L : Lp} {Q : D → Lp → Prop}
/-- xs != [] -/
theorem r_neNilL {p b : Addr} {xs : List D} (hp : L p = some (.lst xs)) (hb : L b = some (.lst [])) (ok : okDs xs = true) (dep : ∀ x ∈ xs, (py x).depth ≤ 10) (q : Q (.bl (!xs.isEmpty)) L) : L2R C (rNeD C.X.K) (.ptr p) (.ptr b) L Q := fun F vx vy H c rx ry QV go => by
  obtain ⟨ws, ha, ra, _⟩ := c.at_ p _ hp
  obtain ⟨us, hu, ru, _⟩ := c.at_ b _ hb
  cases ru
  obtain ⟨h1, h2⟩ := Reps.dp xs ws ok ra
  rw [rx.ptrE, ry.ptrE]
  have hd : (PyData.list (pys xs)).depth ≤ 64 := by
    have key : ∀ ds : List D, (∀ x ∈ ds, (py x).depth ≤ 10) → PyData.depthAll (pys ds) ≤ 10 := by
      intro ds
      induction ds with
      | nil => intro _; rw [pys, PyData.depthAll]; exact Nat.zero_le _
      | cons d ds ih =>
        intro h
        rw [pys, PyData.depthAll]
        exact Nat.max_le.mpr ⟨h d List.mem_cons_self, ih fun x hx => h x (List.mem_cons_of_mem _ hx)⟩
    rw [PyData.depth]
    have := key xs dep
    omega
  refine ⟨.list (pys xs), .list [], .lst (SqL.of ha) h1, .lst (SqL.of hu) .nil, shaped_of (by rw [PyData.canLay0]; exact h2) hd, shaped_of (by decide) (by decide), ?_⟩
  have e : PyData.eqv (.list (pys xs)) (.list []) = xs.isEmpty := by
    cases xs with
    | nil => rw [pys, PyData.eqv, PyData.eqvAll]; rfl
    | cons x xs => rw [pys, PyData.eqv, PyData.eqvAll]; rfl
  rw [e]
  exact go _ _ H L (.bl _) c (.refl L H) q
end
def hd0 (c : Cell) : Wd := c.headD Str.empty
theorem fits_eq (rs : Rl) (cs : List Cell) (a m : Nat) : fits rs cs a m = (decide (((cs.drop a).take m).length = m) && ((cs.drop a).take m).all (fun c => decide (c.length = 1)) && (lk rs (((cs.drop a).take m).map hd0)).isSome) := by
  unfold fits wAt
  have hle : ((cs.drop a).take m).length ≤ m := by rw [List.length_take]; omega
  generalize (cs.drop a).take m = sm at hle ⊢
  have e : sm.any (fun c => decide (c.length ≠ 1)) = !sm.all (fun c => decide (c.length = 1)) := by
    rw [List.not_all_eq_any_not]
    congr 1
    funext c
    by_cases h : c.length = 1 <;> simp [h]
  rw [e]
  by_cases h1 : sm.length = m
  · rw [decide_eq_true h1]
    cases h2 : sm.all (fun c => decide (c.length = 1)) with
    | true =>
      rw [if_neg (by rintro (z | z); · omega
                     · exact absurd z (by decide))]
      rfl
    | false =>
      rw [if_pos (.inr rfl)]
      rfl
  · rw [decide_eq_false h1, if_pos (.inl (by omega))]
    rfl
theorem wAt_heads {cs : List Cell} {a m : Nat} {ws : List Wd} (h : wAt cs a m = some ws) : ws = ((cs.drop a).take m).map hd0 ∧ ∀ c ∈ (cs.drop a).take m, c.length = 1 := by
  unfold wAt at h
  split at h
  · cases h
  · rename_i hc
    cases h
    refine ⟨rfl, fun c hcm => ?_⟩
    have h2 : ((cs.drop a).take m).any (fun c => decide (c.length ≠ 1)) = false := by
      cases e : ((cs.drop a).take m).any (fun c => decide (c.length ≠ 1)) with
      | false => rfl
      | true => exact absurd (.inr e) hc
    have := List.any_eq_false.mp h2 c hcm
    simpa using this
def szU (rs : Rl) (cs : List Cell) (a : Nat) : Nat → Nat
  | 0 => 0
  | i + 1 => if fits rs cs a (i + 1) then i + 1 else szU rs cs a i
theorem szU_3 (rs : Rl) (cs : List Cell) (a : Nat) : szU rs cs a 3 = szAt rs cs a := rfl
theorem tbl_pD (rs : Rl) : (tbl rs).map pD = rs.map dRu := by
  unfold tbl
  rw [List.map_map]
  refine List.map_congr_left fun r _ => ?_
  show D.tup [kD (kS r.1), dC r.2] = D.tup [dW r.1, dC r.2]
  rw [kD_kS]
end DL
namespace DL
open PySem PySem.Spec PyProof.Rows L2
section
variable {C : Ctx} {Γ : Gm} {L : Lp} {e a b c o tg iter elt : Expr} {es : List Expr} {pos p p1 p2 : Pos} {st : Stmt} {sts : List Stmt} {E : AEnds} {Q : D → Lp → Prop} {x y d : D} {ds : List D} {kds : List (List Key × D)}
/-! ### x in y -/
@[irreducible] def rInA (K : PySem.W.Frag) : R2 := fun x y H Q => rInDT x y H Q ∨ (fun x y H Q => rInSign x y H Q ∨ rIn K false x y H Q) x y H Q
theorem op_inA {X : Cx} (hu : X.A.units + 1 < cLine) : OpR X (compareOp .In) (rInA X.K) := by
  unfold rInA
  exact orO (op_inDT hu) (orO op_in_sign op_in_seq)
@[irreducible] def rNotInA (K : PySem.W.Frag) : R2 := fun x y H Q => rNotInDT x y H Q ∨ rIn K true x y H Q
theorem op_notInA {X : Cx} (hu : X.A.units + 1 < cLine) : OpR X (compareOp .NotIn) (rNotInA X.K) := by
  unfold rNotInA
  exact orO (op_notInDT hu) op_notIn_seq
theorem in_W {rs : Rl} {k : List Wd} (hp : DR L d (tbl rs)) (q : Q (.bl (lk rs k).isSome) L) : L2R C (rInA C.X.K) (dW k) d L Q := by
  unfold rInA
  exact .le (r_inW hp q)
theorem notIn_W {rs : Rl} {k : List Wd} (hp : DR L d (tbl rs)) (q : Q (.bl (!(lk rs k).isSome)) L) : L2R C (rNotInA C.X.K) (dW k) d L Q := by
  unfold rNotInA
  exact .le (r_notInW hp q)
theorem in_sign {k : Nat} {z : Str} (q : Q (.bl (decide (k ∈ z.cps.toList))) L) : L2R C (rInA C.X.K) (.str (sgn k)) (.str z) L Q := by
  unfold rInA
  exact .ri (.le (r_inSign q))
theorem in_L {x : Str} {ys : List Str} (hp : LR L d (ys.map D.str)) (q : Q (.bl (decide (x ∈ ys))) L) : L2R C (rInA C.X.K) (.str x) d L Q := by
  unfold rInA
  exact .ri (.ri fun F vx vy H c rx ry QV go => by
  obtain ⟨p, ws, rfl, ha, ra, _⟩ := hp.at_ c ry
  have e := reps_strs ra
  subst e
  refine ⟨p, _, rfl, .inl (SqL.of ha), by rw [rx.strE]; rfl, by rw [List.all_map]; exact List.all_eq_true.mpr fun _ _ => rfl, ?_⟩
  rw [rx.strE]
  show QV (.bl (inV (.str x) (ys.map V.str))) H
  rw [inV_strs]
  exact go _ _ H L (.bl _) c (.refl L H) q)
theorem in_T {x : Str} {ys : List Str} (q : Q (.bl (decide (x ∈ ys))) L) : L2R C (rInA C.X.K) (.str x) (.tup (ys.map D.str)) L Q := by
  unfold rInA
  exact .ri (.ri fun F vx vy H c rx ry QV go => by
  obtain ⟨p, ws, rfl, ha, ra⟩ := ry.tupE
  have e := reps_strs ra
  subst e
  refine ⟨p, _, rfl, .inr (SqT.of ha), by rw [rx.strE]; rfl, by rw [List.all_map]; exact List.all_eq_true.mpr fun _ _ => rfl, ?_⟩
  rw [rx.strE]
  show QV (.bl (inV (.str x) (ys.map V.str))) H
  rw [inV_strs]
  exact go _ _ H L (.bl _) c (.refl L H) q)
theorem notIn_L {x : Str} {ys : List Str} (hp : LR L d (ys.map D.str)) (q : Q (.bl (!decide (x ∈ ys))) L) : L2R C (rNotInA C.X.K) (.str x) d L Q := by
  unfold rNotInA
  refine .ri fun F vx vy H c rx ry QV go => ?_
  obtain ⟨p, ws, rfl, ha, ra, _⟩ := hp.at_ c ry
  have e := reps_strs ra
  subst e
  refine ⟨p, _, rfl, .inl (SqL.of ha), by rw [rx.strE]; rfl, by rw [List.all_map]; exact List.all_eq_true.mpr fun _ _ => rfl, ?_⟩
  rw [rx.strE]
  show QV (.bl (!inV (.str x) (ys.map V.str))) H
  rw [inV_strs]
  exact go _ _ H L (.bl _) c (.refl L H) q
theorem notIn_T {x : Str} {ys : List Str} (q : Q (.bl (!decide (x ∈ ys))) L) : L2R C (rNotInA C.X.K) (.str x) (.tup (ys.map D.str)) L Q := by
  unfold rNotInA
  refine .ri fun F vx vy H c rx ry QV go => ?_
  obtain ⟨p, ws, rfl, ha, ra⟩ := ry.tupE
  have e := reps_strs ra
  subst e
  refine ⟨p, _, rfl, .inr (SqT.of ha), by rw [rx.strE]; rfl, by rw [List.all_map]; exact List.all_eq_true.mpr fun _ _ => rfl, ?_⟩
  rw [rx.strE]
  show QV (.bl (!inV (.str x) (ys.map V.str))) H
  rw [inV_strs]
  exact go _ _ H L (.bl _) c (.refl L H) q
/-! ### x[i] by LR, DR -/
theorem ixa_R {i : Int} {x : D} (hp : LR L d ds) (q : Q x L) (h : atI ds i = some x) : L2R C (rIxA C.X.K) d (.int i) L Q := by
  unfold rIxA
  exact .ri (.le (lr_ix hp h q))
theorem ixa_W {rs : Rl} {k : List Wd} {z : List Cell} (hp : DR L d (tbl rs)) (q : Q (dC z) L) (h : lk rs k = some z) : L2R C (rIxA C.X.K) d (dW k) L Q := by
  unfold rIxA
  rw [← kD_kS]
  exact .ri (.ri (.ri (dr_get hp (by rw [val_tbl, h]; rfl) q)))
/-! ### len -/
theorem len_T (q : Q (.int ds.length) L) : LcR C (rLenA C.X.K) [.tup ds] L Q := by
  unfold rLenA
  exact .le (c_lenT q)
theorem len_N {ns : List Int} (q : Q (.int ns.length) L) : LcR C (rLenA C.X.K) [.ilst ns] L Q := by
  unfold rLenA
  exact .le (c_lenN q)
theorem len_L (hp : LR L d ds) (q : Q (.int ds.length) L) : LcR C (rLenA C.X.K) [d] L Q := by
  unfold rLenA
  exact .le (lr_len hp q)
theorem len_S {z : Str} (q : Q (.int z.length) L) : LcR C (rLenA C.X.K) [.str z] L Q := by
  unfold rLenA
  exact .ri (.le (c_lenS q))
theorem len_D (hp : DR L d kds) (q : Q (.int kds.length) L) : LcR C (rLenA C.X.K) [d] L Q := by
  unfold rLenA
  exact .ri (.ri (dr_len hp q))
/-! ### temporary lists -/
/-- e is a new list, which nobody else knows -/
def AL (C : Ctx) (e : Expr) (Γ : Gm) (L : Lp) (R : List D → Lp → Prop) : Prop := AE C e Γ L fun d L2 => ∃ L1 p ds, d = .ptr p ∧ L1 p = none ∧ L2 = put L1 p (.lst ds) ∧ (ds.length ≤ sizeLine → R ds L1)
theorem ae_L (h : AL C e Γ L fun ds L1 => ∀ p, L1 p = none → Q (.ptr p) (put L1 p (.lst ds))) : AE C e Γ L Q := fun F σ H ok QV go => h F σ H ok QV fun v d H' L' r c f ⟨L1, p, ds, ed, hn, eL, q⟩ => by
  subst ed eL
  obtain ⟨_, _, _, hz⟩ := c.at_ p _ put_same
  exact go _ _ H' _ r c f (q hz p hn)
theorem AL.mono {R R' : List D → Lp → Prop} (h : AL C e Γ L R) (m : ∀ ds L1, R ds L1 → R' ds L1) : AL C e Γ L R' := AE.mono h fun d L2 ⟨L1, p, ds, e1, e2, e3, q⟩ => ⟨L1, p, ds, e1, e2, e3, fun z => m _ _ (q z)⟩
theorem al_disp {R : List D → Lp → Prop} (h : AA C es Γ L fun ds L1 => ds.length ≤ sizeLine ∧ R ds L1) : AL C (.List es pos) Γ L R := ae_lst (h.mono fun ds L1 ⟨hz, q⟩ => ⟨hz, fun p hp => ⟨L1, p, ds, rfl, hp, rfl, fun _ => q⟩⟩)
/-! what takes one -/
theorem ae_tupL (hm : C.X.mg "tuple" = none) (h : AL C e Γ L fun ds L1 => Q (.tup ds) L1) (hg : Gl C.X "tuple" := by rfl) (he : starEach [e] C.X.env = [(false, eval e C.X.env)] := by rfl) : AE C (.Call (.Name "tuple" p) [e] [] pos) Γ L Q :=
  AE.drop (ae_callT call_tuple_of hm (aa_cons (AE.mono (ae_L (Q := fun d L2 => ∃ L1 p ds, d = .ptr p ∧ L1 p = none ∧ L2 = put L1 p (.lst ds) ∧ Q (.tup ds) L1) (h.mono fun ds L1 q p hp => ⟨L1, p, ds, rfl, hp, rfl, q⟩)) fun d L2 ⟨L1, p, ds, ed, hn, eL, q⟩ => by
    subst ed eL
    exact aa_nil (c_tupL put_same ⟨L1, le_put hn, q⟩)) he) (hg := hg) (he := he))
theorem ae_allL (hm : C.X.mg "all" = none) (h : AL C e Γ L fun ds L1 => ∃ bs : List Bool, ds = bs.map D.bl ∧ Q (.bl (bs.all id)) L1) (hg : Gl C.X "all" := by rfl) (he : starEach [e] C.X.env = [(false, eval e C.X.env)] := by rfl) : AE C (.Call (.Name "all" p) [e] [] pos) Γ L Q :=
  AE.drop (ae_callB (cr_all C.calm) hm (aa_cons (AE.mono (ae_L (Q := fun d L2 => ∃ L1 p bs, d = .ptr p ∧ L1 p = none ∧ L2 = put L1 p (.lst (bs.map D.bl)) ∧ Q (.bl (bs.all id)) L1) (h.mono fun ds L1 ⟨bs, e, q⟩ p hp => ⟨L1, p, bs, rfl, hp, by rw [e], q⟩)) fun d L2 ⟨L1, p, ds, ed, hn, eL, q⟩ => by
    subst ed eL
    exact aa_nil (c_all put_same ⟨L1, le_put hn, q⟩)) he) (hg := hg) (he := he))
theorem ae_anyL (hm : C.X.mg "any" = none) (h : AL C e Γ L fun ds L1 => ∃ bs : List Bool, ds = bs.map D.bl ∧ Q (.bl (bs.any id)) L1) (hg : Gl C.X "any" := by rfl) (he : starEach [e] C.X.env = [(false, eval e C.X.env)] := by rfl) : AE C (.Call (.Name "any" p) [e] [] pos) Γ L Q :=
  AE.drop (ae_callB (cr_any C.calm) hm (aa_cons (AE.mono (ae_L (Q := fun d L2 => ∃ L1 p bs, d = .ptr p ∧ L1 p = none ∧ L2 = put L1 p (.lst (bs.map D.bl)) ∧ Q (.bl (bs.any id)) L1) (h.mono fun ds L1 ⟨bs, e, q⟩ p hp => ⟨L1, p, bs, rfl, hp, by rw [e], q⟩)) fun d L2 ⟨L1, p, ds, ed, hn, eL, q⟩ => by
    subst ed eL
    exact aa_nil (c_any put_same ⟨L1, le_put hn, q⟩)) he) (hg := hg) (he := he))
theorem ae_sumL (hm : C.X.mg "sum" = none) (h : AL C e Γ L fun ds L1 => ∃ ns : List Int, ds = ns.map D.int ∧ Q (.int ns.sum) L1) (hg : Gl C.X "sum" := by rfl) (he : starEach [e] C.X.env = [(false, eval e C.X.env)] := by rfl) : AE C (.Call (.Name "sum" p) [e] [] pos) Γ L Q :=
  AE.drop (ae_callB (cr_sum C.calm) hm (aa_cons (AE.mono (ae_L (Q := fun d L2 => ∃ L1 p bs, d = .ptr p ∧ L1 p = none ∧ L2 = put L1 p (.lst (bs.map D.int)) ∧ Q (.int bs.sum) L1) (h.mono fun ds L1 ⟨bs, e, q⟩ p hp => ⟨L1, p, bs, rfl, hp, by rw [e], q⟩)) fun d L2 ⟨L1, p, ds, ed, hn, eL, q⟩ => by
    subst ed eL
    exact aa_nil (c_sum put_same ⟨L1, le_put hn, q⟩)) he) (hg := hg) (he := he))
theorem ae_lenL (hm : C.X.mg "len" = none) (h : AL C e Γ L fun ds L1 => Q (.int ds.length) L1) (hg : Gl C.X "len" := by rfl) (he : starEach [e] C.X.env = [(false, eval e C.X.env)] := by rfl) : AE C (.Call (.Name "len" p) [e] [] pos) Γ L Q :=
  AE.drop (ae_callB call_len_seq hm (aa_cons (AE.mono (ae_L (Q := fun d L2 => ∃ L1 p ds, d = .ptr p ∧ L1 p = none ∧ L2 = put L1 p (.lst ds) ∧ Q (.int ds.length) L1) (h.mono fun ds L1 q p hp => ⟨L1, p, ds, rfl, hp, rfl, q⟩)) fun d L2 ⟨L1, p, ds, ed, hn, eL, q⟩ => by
    subst ed eL
    exact aa_nil (c_lenL put_same ⟨L1, le_put hn, q⟩)) he) (hg := hg) (he := he))
theorem AL.elim {R : List D → Lp → Prop} (h : AL C e Γ L R) : AE C e Γ L fun d L2 => ∃ L1 p ds, d = .ptr p ∧ L1 p = none ∧ L2 = put L1 p (.lst ds) ∧ ds.length ≤ sizeLine ∧ R ds L1 := fun F σ H ok QV go => h F σ H ok QV fun v d H' L' r c f ⟨L1, p, ds, ed, hn, eL, q⟩ => by
  subst ed eL
  obtain ⟨_, _, _, hz⟩ := c.at_ p _ put_same
  exact go _ _ H' _ r c f ⟨L1, p, ds, rfl, hn, rfl, hz, q hz⟩
/-- a frozen list, at once -/
theorem ae_flst (h : AL C e Γ L fun ds L1 => Q (.flst ds) L1) : AE C e Γ L Q := AE.frz (AE.mono h.elim fun d L2 ⟨L1, p, ds, ed, hn, eL, _, q⟩ => by
  subst ed eL
  refine ⟨.flst ds, L1, ?_, q⟩
  have := frz_lst (C := C) (put_same (L := L1) (a := p) (o := .lst ds))
  rwa [del_put hn] at this)
/-- a new list is walked -/
theorem ai_L {R : List D → (Lp → Prop) → Lp → Prop} (h : AL C e Γ L fun ds L1 => ds.length ≤ sizeLine → R ds (fun _ => True) L1) : AI C tg e Γ L R := ai_flst (ae_flst (h.mono fun ds L1 q => ⟨ds, rfl, q⟩))
/-! ### comprehensions -/
/-- it tests as b, and the store stays -/
def AVT (C : Ctx) (e : Expr) (Γ : Gm) (L : Lp) (b : Bool) : Prop := ∀ Q : Bool → Lp → Prop, Q b L → AT C e Γ L Q
theorem al_lc (own : List (Str × Nat)) {scope : Scope} {ifs : List Expr} {R : List D → Lp → Prop}
    (h : AI C tg iter Γ L fun ds G L1 => ∃ I : Nat → List D → Lp → Prop, I 0 [] L1 ∧ (∀ i acc L2, I i acc L2 → G L2) ∧
      (∀ i d acc L2, ds[i]? = some d → I i acc L2 → ∃ Γ3 ws, (∀ j ∈ ws, j ∈ own.map (·.2)) ∧ ∀ s H Cc cl fp, AG (bctx C scope s H Cc cl fp) tg d (wipeG Γ (own.map (·.2))) Γ3 ws ∧
        ATs (bctx C scope s H Cc cl fp) ifs Γ3 L2 fun k L3 => (k = true → ∀ s H Cc cl fp, AE (bctx C scope s H Cc cl fp) elt Γ3 L3 fun y L4 => acc.length < sizeLine ∧ I (i + 1) (acc ++ [y]) L4) ∧ (k = false → I (i + 1) acc L3)) ∧
      ∀ acc L2, I ds.length acc L2 → R acc L2)
    (ok : BlkOk C.X.N C.X.env.scope scope own := by (dsimp only [fctx, bctx, cxOf, envOfC, compEnvC, Cx.blk]; exact blkOk_by (by decide +kernel))) (hs : ∀ x, foldedSetIterable iter C.X.env x = pure x := by intro _; rfl) : AL C (.ListComp elt [⟨tg, iter, ifs, 0⟩] scope pos) Γ L R :=
  ae_lc own (fun F σ H okk RV go => h F σ H okk RV fun J H' L' ds G c f it ⟨I, h1, h2, h3, h4⟩ => go J H' L' ds G c f it ⟨I, h1, h2, h3, fun acc L2 hi p hp => ⟨L2, p, acc, rfl, hp, rfl, fun _ => h4 acc L2 hi⟩⟩) ok hs
/-- each item alone: p tells whether it is taken, f what it becomes -/
theorem lc_pure {own : List (Str × Nat)} {scope : Scope} {ifs : List Expr} {α : Type} {xs : List α} {g f : α → D} {t : α → Bool} {G : Lp → Prop} {L1 : Lp} {R : List D → Lp → Prop} {Γ3 : α → Gm} {ws : List Nat} (hG : G L1) (hz : xs.length ≤ sizeLine) (hw : ∀ j ∈ ws, j ∈ own.map (·.2))
    (hf : ∀ x ∈ xs, ∀ s H Cc cl fp, AG (bctx C scope s H Cc cl fp) tg (g x) (wipeG Γ (own.map (·.2))) (Γ3 x) ws ∧ (∀ Q : Bool → Lp → Prop, Q (t x) L1 → ATs (bctx C scope s H Cc cl fp) ifs (Γ3 x) L1 Q) ∧ (t x = true → AV (bctx C scope s H Cc cl fp) elt (Γ3 x) L1 (f x)))
    (q : R ((xs.filter t).map f) L1) : ∃ I : Nat → List D → Lp → Prop, I 0 [] L1 ∧ (∀ i acc L2, I i acc L2 → G L2) ∧
      (∀ i d acc L2, (xs.map g)[i]? = some d → I i acc L2 → ∃ Γ3 ws, (∀ j ∈ ws, j ∈ own.map (·.2)) ∧ ∀ s H Cc cl fp, AG (bctx C scope s H Cc cl fp) tg d (wipeG Γ (own.map (·.2))) Γ3 ws ∧
        ATs (bctx C scope s H Cc cl fp) ifs Γ3 L2 fun k L3 => (k = true → ∀ s H Cc cl fp, AE (bctx C scope s H Cc cl fp) elt Γ3 L3 fun y L4 => acc.length < sizeLine ∧ I (i + 1) (acc ++ [y]) L4) ∧ (k = false → I (i + 1) acc L3)) ∧
      ∀ acc L2, I (xs.map g).length acc L2 → R acc L2 := by
  refine ⟨fun i acc L2 => acc = ((xs.take i).filter t).map f ∧ L2 = L1, ⟨rfl, rfl⟩, fun i acc L2 h => by rw [h.2]; exact hG, fun i d acc L2 hd ⟨ea, el⟩ => ?_, fun acc L2 ⟨ea, el⟩ => ?_⟩
  · subst el
    rw [List.getElem?_map] at hd
    cases ex : xs[i]? with
    | none => rw [ex] at hd; cases hd
    | some x =>
      rw [ex] at hd
      cases hd
      have hi := (List.getElem?_eq_some_iff.mp ex).1
      have hm := List.mem_of_getElem? ex
      have hlen : ((xs.take i).filter t).length ≤ i := Nat.le_trans (List.length_filter_le _ _) (by rw [List.length_take]; omega)
      refine ⟨Γ3 x, ws, hw, fun s H Cc cl fp => ⟨(hf x hm s H Cc cl fp).1, (hf x hm s H Cc cl fp).2.1 _ ⟨fun ht s H Cc cl fp => (hf x hm s H Cc cl fp).2.2 ht _ ⟨?_, ?_, rfl⟩, fun hn => ⟨?_, rfl⟩⟩⟩⟩
      · rw [ea, List.length_map]
        omega
      · rw [ea, List.take_add_one, ex, List.filter_append, List.map_append]
        show _ = _ ++ ([x].filter t).map f
        rw [List.filter_cons_of_pos ht]
        rfl
      · rw [ea, List.take_add_one, ex, List.filter_append, List.map_append]
        show _ = _ ++ ([x].filter t).map f
        rw [List.filter_cons_of_neg (by rw [hn]; exact Bool.false_ne_true)]
        simp
  · subst el
    rw [ea, List.length_map, List.take_length]
    exact q
/-- [elt for x in iter] -/
theorem al_map1 (i : Nat) {x : Str} {px : Pos} {scope : Scope} {R : List D → Lp → Prop}
    (h : AI C (.Name x px) iter Γ L fun ds G L1 => ∃ (α : Type) (xs : List α) (g f : α → D), ds = xs.map g ∧ G L1 ∧ ds.length ≤ sizeLine ∧ (∀ y ∈ xs, ∀ s H Cc cl fp, AV (bctx C scope s H Cc cl fp) elt ((wipeG Γ [i]).set i (some (g y))) L1 (f y)) ∧ R (xs.map f) L1)
    (hN : C.X.N[i]? = some x := by rfl) (hag : ∀ s H Cc cl fp d Γ, AG (bctx C scope s H Cc cl fp) (.Name x px) d Γ (Γ.set i (some d)) [i] := by (intro _ _ _ _ _ _ _; exact ag_name _))
    (ok : BlkOk C.X.N C.X.env.scope scope [(x, i)] := by (dsimp only [fctx, bctx, cxOf, envOfC, compEnvC, Cx.blk]; exact blkOk_by (by decide +kernel))) (hs : ∀ x, foldedSetIterable iter C.X.env x = pure x := by intro _; rfl) : AL C (.ListComp elt [⟨.Name x px, iter, [], 0⟩] scope pos) Γ L R :=
  al_lc [(x, i)] (fun F σ H okk RV go => h F σ H okk RV fun J H' L' ds G c f it ⟨α, xs, g, f', e, hG, hz, hf, q⟩ => by
    subst e
    rw [List.length_map] at hz
    exact go J H' L' _ G c f it (lc_pure (t := fun _ => true) hG hz (fun j hj => hj) (fun y hy s H Cc cl fp => ⟨hag s H Cc cl fp _ _, fun Q q => ats_nil q, fun _ => hf y hy s H Cc cl fp⟩) (by rw [List.filter_eq_self.mpr fun _ _ => rfl]; exact q))) ok hs
/-- [elt for x in iter if c] -/
theorem al_filt1 (i : Nat) {x : Str} {px : Pos} {scope : Scope} {R : List D → Lp → Prop}
    (h : AI C (.Name x px) iter Γ L fun ds G L1 => ∃ (α : Type) (xs : List α) (g : α → D) (t : α → Bool) (f : α → D), ds = xs.map g ∧ G L1 ∧ ds.length ≤ sizeLine ∧ (∀ y ∈ xs, ∀ s H Cc cl fp, AVT (bctx C scope s H Cc cl fp) c ((wipeG Γ [i]).set i (some (g y))) L1 (t y) ∧ (t y = true → AV (bctx C scope s H Cc cl fp) elt ((wipeG Γ [i]).set i (some (g y))) L1 (f y))) ∧ R ((xs.filter t).map f) L1)
    (hN : C.X.N[i]? = some x := by rfl) (hag : ∀ s H Cc cl fp d Γ, AG (bctx C scope s H Cc cl fp) (.Name x px) d Γ (Γ.set i (some d)) [i] := by (intro _ _ _ _ _ _ _; exact ag_name _))
    (ok : BlkOk C.X.N C.X.env.scope scope [(x, i)] := by (dsimp only [fctx, bctx, cxOf, envOfC, compEnvC, Cx.blk]; exact blkOk_by (by decide +kernel))) (hs : ∀ x, foldedSetIterable iter C.X.env x = pure x := by intro _; rfl) : AL C (.ListComp elt [⟨.Name x px, iter, [c], 0⟩] scope pos) Γ L R :=
  al_lc [(x, i)] (fun F σ H okk RV go => h F σ H okk RV fun J H' L' ds G cc f it ⟨α, xs, g, t, f', e, hG, hz, hf, q⟩ => by
    subst e
    rw [List.length_map] at hz
    exact go J H' L' _ G cc f it (lc_pure (t := t) hG hz (fun j hj => hj) (fun y hy s H Cc cl fp => ⟨hag s H Cc cl fp _ _, fun Q q => ats_one ((hf y hy s H Cc cl fp).1 Q q), (hf y hy s H Cc cl fp).2⟩) q)) ok hs
/-- [elt for x, y in iter] -/
theorem al_map2 (i j : Nat) {x y : Str} {px py pt : Pos} {kt : Nat} {scope : Scope} {R : List D → Lp → Prop}
    (h : AI C (.Tuple [.Name x px, .Name y py] kt pt) iter Γ L fun ds G L1 => ∃ (α : Type) (xs : List α) (g g' f : α → D), ds = xs.map (fun z => .tup [g z, g' z]) ∧ G L1 ∧ ds.length ≤ sizeLine ∧ (∀ z ∈ xs, ∀ s H Cc cl fp, AV (bctx C scope s H Cc cl fp) elt (((wipeG Γ [i, j]).set i (some (g z))).set j (some (g' z))) L1 (f z)) ∧ R (xs.map f) L1)
    (hag : ∀ s H Cc cl fp d d' Γ, AG (bctx C scope s H Cc cl fp) (.Tuple [.Name x px, .Name y py] kt pt) (.tup [d, d']) Γ ((Γ.set i (some d)).set j (some d')) [i, j] := by (intro _ _ _ _ _ _ _ _; exact ag_tup (ags_cons (ag_name _) (ags_cons (ag_name _) ags_nil))))
    (ok : BlkOk C.X.N C.X.env.scope scope [(x, i), (y, j)] := by (dsimp only [fctx, bctx, cxOf, envOfC, compEnvC, Cx.blk]; exact blkOk_by (by decide +kernel))) (hs : ∀ x, foldedSetIterable iter C.X.env x = pure x := by intro _; rfl) : AL C (.ListComp elt [⟨.Tuple [.Name x px, .Name y py] kt pt, iter, [], 0⟩] scope pos) Γ L R :=
  al_lc [(x, i), (y, j)] (fun F σ H okk RV go => h F σ H okk RV fun J H' L' ds G c f it ⟨α, xs, g, g', f', e, hG, hz, hf, q⟩ => by
    subst e
    rw [List.length_map] at hz
    exact go J H' L' _ G c f it (lc_pure (t := fun _ => true) hG hz (fun j hj => hj) (fun y hy s H Cc cl fp => ⟨hag s H Cc cl fp _ _ _, fun Q q => ats_nil q, fun _ => hf y hy s H Cc cl fp⟩) (by rw [List.filter_eq_self.mpr fun _ _ => rfl]; exact q))) ok hs
end
end DL
namespace DL
open PySem PySem.Spec PyProof.Rows L2
section
variable {C : Ctx} {Γ : Gm} {L : Lp} {e a b c o tg iter elt : Expr} {es : List Expr} {pos p p1 p2 : Pos} {st : Stmt} {sts : List Stmt} {E : AEnds} {Q : D → Lp → Prop} {x y d : D} {ds : List D} {kds : List (List Key × D)}
theorem kds_get {F : Fz} {H : Hp} {K : PySem.W.Frag} {kvs : List (List Key × V)} {kds : List (List Key × D)} (h : KDs K F H kvs kds) {i : Nat} {k : List Key} {v : V} (e : kvs[i]? = some (k, v)) : ∃ d, kds[i]? = some (k, d) := by
  induction h generalizing i with
  | nil => simp at e
  | @cons p q l1 l2 h1 h2 ih =>
    cases i with
    | zero =>
      simp at e
      subst e
      refine ⟨q.2, ?_⟩
      have := h1.1
      simp only at this
      rw [this]
      rfl
    | succ i => exact ih (i := i) (by simpa using e)
/-- the keys of a dict that is locked -/
theorem itkt_is {t : Addr} {od : Obj} {kvs : List (List Key × V)} {L0 : Lp} {F0 : Fz} {H0 : Hp} (st : ∀ F L H, Fr L0 F0 H0 L F H → H t = some (.frz od (.dT kvs))) (rr : KDs C.X.K F0 H0 kvs kds) (hk : ∀ q ∈ kds, KOk q.1) : IsIt C (Itkt t od kvs) (kds.map fun x => kD x.1) (fun _ => True) L0 F0 H0 := by
  intro F i H L s c g
  have hl : kvs.length = kds.length := Paired.length rr
  have ht := st F L H s
  rw [List.length_map]
  refine ⟨fun h => ⟨ht, by omega⟩, fun h => ⟨ht, by omega⟩, fun x H' y hi => ?_⟩
  obtain ⟨e1, k, v, q, e2, e3, e4⟩ := y
  subst e1 e3
  obtain ⟨d, hd⟩ := kds_get rr e2
  exact ⟨kD k, by rw [List.getElem?_map, hd]; rfl, kD_rep e4 (hk _ (List.mem_of_getElem? hd)), .inl rfl⟩
theorem ai_fdct {R : List D → (Lp → Prop) → Lp → Prop} (h : AE C e Γ L fun d L1 => ∃ kds, d = .fdct kds ∧ R (kds.map fun x => kD x.1) (fun _ => True) L1) : AI C tg e Γ L R := fun F σ H ok RV go =>
  wi_of (pi_keys pe_we) (h _ σ H ok _ fun v d H1 L1 r c f ⟨kds, ed, q⟩ => by
    subst ed
    obtain ⟨a, kvs, ea, hrd, rr, hk⟩ := DR.fz.at_ c r
    cases r with
    | @fdct a' kvs' _ o hl ha hk' hn he hi =>
      cases ea
      have ekv : kvs = kvs' := by
        rcases hrd with z | ⟨o', z⟩
        · rw [ha] at z; cases z
        · rw [ha] at z; cases z; rfl
      subst ekv
      exact ⟨_, o, rfl, .inr ⟨kvs, ha, go _ H1 L1 _ _ c f (itkt_is (fun F2 L2 H2 s => s.fk _ _ hl ha) rr hk) q⟩⟩)
theorem unlock {F : Fz} {H : Hp} {t : Addr} {od : Obj} {kvs : List (List Key × V)} (c : C.Con L F H) (ht : H t = some (.frz od (.dT kvs))) (fD : ¬ F t) (rr : KDs C.X.K F H kvs kds) (hk : ∀ q ∈ kds, KOk q.1) : Mv F H F (upd H t (.dT kvs)) ∧ C.Con (put L t (.dct kds)) F (upd H t (.dT kvs)) := by
  have ne : ∀ b u, H b = some u → u ≠ .frz od (.dT kvs) → b ≠ t := fun b u eb nd q => by rw [q, ht] at eb; exact nd (Option.some.inj eb).symm
  have st : Stay H (upd H t (.dT kvs)) := ⟨fun b vs eb => by rw [upd_ne (ne b _ eb fun z => nomatch z)]; exact eb, fun b o xs eb => by rw [upd_ne (ne b _ eb fun z => by cases z)]; exact eb, fun b eb => by rw [upd_ne (ne b _ eb fun z => nomatch z)]; exact eb⟩
  have mv : Mv F H F (upd H t (.dT kvs)) := .hid st fD
  refine ⟨mv, ⟨fun b u eb => ?_, fun b z => ?_⟩⟩
  · by_cases hb : b = t
    · subst hb
      rw [put_same] at eb
      cases eb
      exact ⟨kvs, upd_same, KDs.mono mv rr, hk⟩
    · rw [put_ne hb] at eb
      exact (c.at_ b u eb).mono mv (upd_ne hb)
  · have hb : b ≠ t := fun q => fD (q ▸ z)
    rw [put_ne hb, upd_ne hb]
    exact c.fz b z
theorem put_del {t q : Addr} {u w : MO} (ht : L t = some u) (hq : del L t q = none) (hqt : q ≠ t) : put (put (del L t) q w) t u = put L q w := by
  funext b
  unfold put del
  by_cases h1 : b = t
  · rw [if_pos h1, h1, if_neg (fun z => hqt z.symm), ht]
  · rw [if_neg h1, if_neg h1]
/-- [elt for x in d], d a dict: x its keys -/
theorem al_keys1 (i : Nat) {x : Str} {px : Pos} {scope : Scope} {R : List D → Lp → Prop} {α : Type} {xs : List α} {g f : α → D} (hd : DR L d kds) (hi : ∀ L', AV C iter Γ L' d) (ek : (kds.map fun x => kD x.1) = xs.map g) (hz : xs.length ≤ sizeLine)
    (hf : ∀ L', Le L' L → ∀ y ∈ xs, ∀ s H Cc cl fp, AV (bctx C scope s H Cc cl fp) elt ((wipeG Γ [i]).set i (some (g y))) L' (f y)) (q : R (xs.map f) L)
    (hN : C.X.N[i]? = some x := by rfl) (hag : ∀ s H Cc cl fp d Γ, AG (bctx C scope s H Cc cl fp) (.Name x px) d Γ (Γ.set i (some d)) [i] := by (intro _ _ _ _ _ _ _; exact ag_name _))
    (ok : BlkOk C.X.N C.X.env.scope scope [(x, i)] := by (dsimp only [fctx, bctx, cxOf, envOfC, compEnvC, Cx.blk]; exact blkOk_by (by decide +kernel))) (hs : ∀ x, foldedSetIterable iter C.X.env x = pure x := by intro _; rfl) : AL C (.ListComp elt [⟨.Name x px, iter, [], 0⟩] scope pos) Γ L R := by
  rcases hd with ⟨t, rfl, ht⟩ | rfl
  · intro F σ H okk QV go
    obtain ⟨kvs, e, rr, hk⟩ := okk.con.at_ t _ ht
    have nft := okk.con.nw ht
    refine we_of (pe_lock (pe_lc (g := gB C scope (.Name x px)) (tt := ttB C scope []) (te := teB C scope elt) C.calm C.nd pi_wi ok (fun s H0 Cc cl fp => ⟨fun pins s1 σ1 H1 v u Q1 I r q => (q s H0 Cc cl fp).run pins s1 u I r⟩) (fun s H0 Cc cl fp => ⟨fun pins s1 σ1 H1 Q1 I q => (q s H0 Cc cl fp).run pins s1 I⟩) (fun s H0 Cc cl fp => ⟨fun pins s1 σ1 H1 Q1 I q => (q s H0 Cc cl fp).run pins s1 I⟩) hs)) ⟨t, .dT kvs, e, True.intro, fun od => ?_⟩
    have ne : ∀ b u, H b = some u → (∀ k, u ≠ .dT k) → b ≠ t := fun b u eb nd z => by rw [z, e] at eb; exact nd _ (Option.some.inj eb).symm
    have st : Stay H (upd H t (.frz od (.dT kvs))) := ⟨fun b vs eb => by rw [upd_ne (ne b _ eb fun _ z => nomatch z)]; exact eb, fun b o xs eb => by rw [upd_ne (ne b _ eb fun _ z => nomatch z)]; exact eb, fun b eb => by rw [upd_ne (ne b _ eb fun _ z => nomatch z)]; exact eb⟩
    have mv : Mv F H F (upd H t (.frz od (.dT kvs))) := .hid st nft
    have fr : Fr L F H (del L t) F (upd H t (.frz od (.dT kvs))) := ⟨fun b u eb _ nb => by rw [upd_ne (fun z => by rw [z, ht] at nb; cases nb)]; exact eb, fun b z => upd_live z, st, fun b z => .inl ((del_le t).ne z), mv.fz, mv.fk, fun b z => .inl z⟩
    have c1 : C.Con (del L t) F (upd H t (.frz od (.dT kvs))) := ((okk.con.le (del_le t)).hid st del_same nft)
    have ok1 : Ok C Γ (del L t) F σ (upd H t (.frz od (.dT kvs))) := ⟨okk.sl.mono mv, c1, okk.lr.step fr⟩
    have rr1 := KDs.mono mv rr
    refine lc_read0 (own := [(x, i)]) (Q := fun d L2 => ∃ q, d = .ptr q ∧ del L t q = none ∧ L2 = put (del L t) q (.lst (xs.map f))) ok1 (fun v d H' L' r c f2 ⟨q', ed, hq, eL⟩ => ?_) (fun RV g2 => ?_)
    · subst ed eL
      obtain ⟨lt, ft, ht'⟩ := f2.hid upd_same (fun _ z => nomatch z) del_same nft
      have hqt : q' ≠ t := fun z => by rw [z, put_same] at lt; cases lt
      obtain ⟨mv2, c2⟩ := unlock c ht' ft (KDs.mono f2.mv rr1) hk
      rw [put_del ht hq hqt] at c2
      have hq0 : L q' = none := by rw [del_ne hqt] at hq; exact hq
      refine ⟨ht', go v (.ptr q') _ _ (r.mono mv2) c2 ?_ ⟨L, q', _, rfl, hq0, rfl, fun _ => q⟩⟩
      refine ⟨fun b u eb no nb => ?_, fun b z => upd_live (f2.live b (upd_live z)), (st.trans f2.stay).trans mv2.stay, fun b z => ?_, fun b z => f2.fz b z, fun b u z eb => mv2.fk b u (f2.fz b z) (f2.fk b u z (mv.fk b u z eb)), fun b z => ?_⟩
      · have hb : b ≠ t := fun z => by rw [z, ht] at nb; cases nb
        rw [upd_ne hb]
        exact f2.keep b u (by rw [upd_ne hb]; exact eb) no (by rw [del_ne hb]; exact nb)
      · by_cases hb : b = q'
        · rw [hb]
          rcases f2.dom q' (by rw [put_same]; simp) with z2 | z2
          · exact absurd hq z2
          · rw [upd_ne hqt] at z2
            exact .inr z2
        · rw [put_ne hb] at z
          exact .inl z
      · rcases f2.off b z with z | z | z
        · exact .inl z
        · exact .inr (.inl ((del_le t).ne z))
        · by_cases hb : b = t
          · rw [hb, upd_same] at z; cases z
          · rw [upd_ne hb] at z
            exact .inr (.inr z)
    · refine wi_of (pi_keys pe_we) (hi (del L t) (fun d L2 => d = .ptr t ∧ L2 = del L t) ⟨rfl, rfl⟩ _ σ _ ok1 _ fun v d H2 L2 r2 c2 f2 ⟨ed, eL⟩ => ?_)
      subst ed eL
      have ht2 := f2.keep t _ upd_same (fun _ z => nomatch z) del_same
      refine ⟨t, od, r2.ptrE, .inr ⟨kvs, ht2, g2 _ H2 _ (kds.map fun x => kD x.1) (fun _ => True) c2 f2 (itkt_is (fun F3 L3 H3 s => s.keep t _ ht2 (fun _ z => nomatch z) del_same) (KDs.mono f2.mv rr1) hk) ?_⟩⟩
      rw [ek]
      obtain ⟨I, i0, i1, i2, i3⟩ := lc_pure (C := C) (tg := .Name x px) (Γ := Γ) (elt := elt) (own := [(x, i)]) (scope := scope) (ifs := []) (xs := xs) (g := g) (f := f) (t := fun _ => true) (G := fun _ => True) (L1 := del L t) (R := fun acc L2 => acc = xs.map f ∧ L2 = del L t) (Γ3 := fun y => (wipeG Γ [i]).set i (some (g y))) (ws := [i]) trivial hz (fun j hj => hj) (fun y hy s H Cc cl fp => ⟨hag s H Cc cl fp _ _, fun Q q => ats_nil q, fun _ => hf (del L t) (del_le t) y hy s H Cc cl fp⟩) ⟨by rw [List.filter_eq_self.mpr fun _ _ => rfl], rfl⟩
      refine ⟨I, i0, i1, i2, fun acc L2 hI p hp => ?_⟩
      obtain ⟨e1, e2⟩ := i3 acc L2 hI
      subst e1 e2
      exact ⟨p, rfl, hp, rfl⟩
  · exact al_map1 i (ai_fdct (hi L _ ⟨kds, rfl, α, xs, g, f, ek, trivial, by rw [ek, List.length_map]; exact hz, fun y hy s H Cc cl fp => hf L (.refl L) y hy s H Cc cl fp, q⟩)) hN hag ok hs
end
end DL
namespace DL
open PySem PySem.Spec PyProof.Rows L2
section
variable {C : Ctx} {Γ : Gm} {L : Lp} {a b c e : Expr} {pos : Pos} {Q : D → Lp → Prop}
theorem ae_eq (hu : C.X.A.units + 64 < cLine) (h : AE C a Γ L fun x L1 => AE C b Γ L1 fun y L2 => L2R C (rEqA C.X.K) x y L2 Q) (hm : behindInMarks .Eq b = false := by rfl) : AE C (.Compare a [.Eq] [b] pos) Γ L Q := ae_cmp (op_eqA hu) hm h
theorem at_eq (hu : C.X.A.units + 64 < cLine) {Q : Bool → Lp → Prop} (h : AE C a Γ L fun x L1 => AE C b Γ L1 fun y L2 => L2R C (rEqA C.X.K) x y L2 fun d L3 => ∃ k, d = .bl k ∧ Q k L3) (hm : behindInMarks .Eq b = false := by rfl) : AT C (.Compare a [.Eq] [b] pos) Γ L Q := at_cmp (op_eqA hu) hm h
theorem ae_ne (hu : C.X.A.units + 64 < cLine) (h : AE C a Γ L fun x L1 => AE C b Γ L1 fun y L2 => L2R C (rNeA C.X.K) x y L2 Q) (hm : behindInMarks .NotEq b = false := by rfl) : AE C (.Compare a [.NotEq] [b] pos) Γ L Q := ae_cmp (op_neA hu) hm h
theorem at_ne (hu : C.X.A.units + 64 < cLine) {Q : Bool → Lp → Prop} (h : AE C a Γ L fun x L1 => AE C b Γ L1 fun y L2 => L2R C (rNeA C.X.K) x y L2 fun d L3 => ∃ k, d = .bl k ∧ Q k L3) (hm : behindInMarks .NotEq b = false := by rfl) : AT C (.Compare a [.NotEq] [b] pos) Γ L Q := at_cmp (op_neA hu) hm h
theorem ae_lt (hu : C.X.A.units + 64 < cLine) (h : AE C a Γ L fun x L1 => AE C b Γ L1 fun y L2 => L2R C (rLtA C.X.K) x y L2 Q) (hm : behindInMarks .Lt b = false := by rfl) : AE C (.Compare a [.Lt] [b] pos) Γ L Q := ae_cmp (op_ltA hu) hm h
theorem at_lt (hu : C.X.A.units + 64 < cLine) {Q : Bool → Lp → Prop} (h : AE C a Γ L fun x L1 => AE C b Γ L1 fun y L2 => L2R C (rLtA C.X.K) x y L2 fun d L3 => ∃ k, d = .bl k ∧ Q k L3) (hm : behindInMarks .Lt b = false := by rfl) : AT C (.Compare a [.Lt] [b] pos) Γ L Q := at_cmp (op_ltA hu) hm h
theorem ae_le (h : AE C a Γ L fun x L1 => AE C b Γ L1 fun y L2 => L2R C (rLeA) x y L2 Q) (hm : behindInMarks .LtE b = false := by rfl) : AE C (.Compare a [.LtE] [b] pos) Γ L Q := ae_cmp (op_leA) hm h
theorem at_le {Q : Bool → Lp → Prop} (h : AE C a Γ L fun x L1 => AE C b Γ L1 fun y L2 => L2R C (rLeA) x y L2 fun d L3 => ∃ k, d = .bl k ∧ Q k L3) (hm : behindInMarks .LtE b = false := by rfl) : AT C (.Compare a [.LtE] [b] pos) Γ L Q := at_cmp (op_leA) hm h
theorem ae_gt (h : AE C a Γ L fun x L1 => AE C b Γ L1 fun y L2 => L2R C (rGtA) x y L2 Q) (hm : behindInMarks .Gt b = false := by rfl) : AE C (.Compare a [.Gt] [b] pos) Γ L Q := ae_cmp (op_gtA) hm h
theorem at_gt {Q : Bool → Lp → Prop} (h : AE C a Γ L fun x L1 => AE C b Γ L1 fun y L2 => L2R C (rGtA) x y L2 fun d L3 => ∃ k, d = .bl k ∧ Q k L3) (hm : behindInMarks .Gt b = false := by rfl) : AT C (.Compare a [.Gt] [b] pos) Γ L Q := at_cmp (op_gtA) hm h
theorem ae_ge (h : AE C a Γ L fun x L1 => AE C b Γ L1 fun y L2 => L2R C (rGeA) x y L2 Q) (hm : behindInMarks .GtE b = false := by rfl) : AE C (.Compare a [.GtE] [b] pos) Γ L Q := ae_cmp (op_geA) hm h
theorem at_ge {Q : Bool → Lp → Prop} (h : AE C a Γ L fun x L1 => AE C b Γ L1 fun y L2 => L2R C (rGeA) x y L2 fun d L3 => ∃ k, d = .bl k ∧ Q k L3) (hm : behindInMarks .GtE b = false := by rfl) : AT C (.Compare a [.GtE] [b] pos) Γ L Q := at_cmp (op_geA) hm h
theorem ae_in (hu : C.X.A.units + 1 < cLine) (h : AE C a Γ L fun x L1 => AE C b Γ L1 fun y L2 => L2R C (rInA C.X.K) x y L2 Q) (hm : behindInMarks .In b = false := by rfl) : AE C (.Compare a [.In] [b] pos) Γ L Q := ae_cmp (op_inA hu) hm h
theorem at_in (hu : C.X.A.units + 1 < cLine) {Q : Bool → Lp → Prop} (h : AE C a Γ L fun x L1 => AE C b Γ L1 fun y L2 => L2R C (rInA C.X.K) x y L2 fun d L3 => ∃ k, d = .bl k ∧ Q k L3) (hm : behindInMarks .In b = false := by rfl) : AT C (.Compare a [.In] [b] pos) Γ L Q := at_cmp (op_inA hu) hm h
theorem ae_nin (hu : C.X.A.units + 1 < cLine) (h : AE C a Γ L fun x L1 => AE C b Γ L1 fun y L2 => L2R C (rNotInA C.X.K) x y L2 Q) (hm : behindInMarks .NotIn b = false := by rfl) : AE C (.Compare a [.NotIn] [b] pos) Γ L Q := ae_cmp (op_notInA hu) hm h
theorem at_nin (hu : C.X.A.units + 1 < cLine) {Q : Bool → Lp → Prop} (h : AE C a Γ L fun x L1 => AE C b Γ L1 fun y L2 => L2R C (rNotInA C.X.K) x y L2 fun d L3 => ∃ k, d = .bl k ∧ Q k L3) (hm : behindInMarks .NotIn b = false := by rfl) : AT C (.Compare a [.NotIn] [b] pos) Γ L Q := at_cmp (op_notInA hu) hm h
theorem ae_is (h : AE C a Γ L fun x L1 => AE C b Γ L1 fun y L2 => L2R C (rIsA) x y L2 Q) (hm : behindInMarks .Is b = false := by rfl) : AE C (.Compare a [.Is] [b] pos) Γ L Q := ae_cmp (op_isA) hm h
theorem at_is {Q : Bool → Lp → Prop} (h : AE C a Γ L fun x L1 => AE C b Γ L1 fun y L2 => L2R C (rIsA) x y L2 fun d L3 => ∃ k, d = .bl k ∧ Q k L3) (hm : behindInMarks .Is b = false := by rfl) : AT C (.Compare a [.Is] [b] pos) Γ L Q := at_cmp (op_isA) hm h
theorem ae_isn (h : AE C a Γ L fun x L1 => AE C b Γ L1 fun y L2 => L2R C (rIsNotA) x y L2 Q) (hm : behindInMarks .IsNot b = false := by rfl) : AE C (.Compare a [.IsNot] [b] pos) Γ L Q := ae_cmp (op_isNotA) hm h
theorem at_isn {Q : Bool → Lp → Prop} (h : AE C a Γ L fun x L1 => AE C b Γ L1 fun y L2 => L2R C (rIsNotA) x y L2 fun d L3 => ∃ k, d = .bl k ∧ Q k L3) (hm : behindInMarks .IsNot b = false := by rfl) : AT C (.Compare a [.IsNot] [b] pos) Γ L Q := at_cmp (op_isNotA) hm h
theorem ae_add (h : AE C a Γ L fun x L1 => AE C b Γ L1 fun y L2 => L2R C (rAddA C.X.K) x y L2 Q) : AE C (.BinOp a .Add b pos) Γ L Q := ae_bin op_addA h
theorem ae_sub (h : AE C a Γ L fun x L1 => AE C b Γ L1 fun y L2 => L2R C (rSubA) x y L2 Q) : AE C (.BinOp a .Sub b pos) Γ L Q := ae_bin op_subA h
theorem ae_mul (h : AE C a Γ L fun x L1 => AE C b Γ L1 fun y L2 => L2R C (rMulA) x y L2 Q) : AE C (.BinOp a .Mult b pos) Γ L Q := ae_bin op_mulA h
theorem ae_mod (h : AE C a Γ L fun x L1 => AE C b Γ L1 fun y L2 => L2R C (rModA) x y L2 Q) : AE C (.BinOp a .Mod b pos) Γ L Q := ae_bin op_modA h
theorem ae_div (h : AE C a Γ L fun x L1 => AE C b Γ L1 fun y L2 => L2R C (rDivA) x y L2 Q) : AE C (.BinOp a .FloorDiv b pos) Γ L Q := ae_bin op_divA h
theorem ae_c_len {p : Pos} (hm : C.X.mg "len" = none) (h : AE C a Γ L fun x L1 => LcR C (rLenA C.X.K) [x] L1 Q) (hg : Gl C.X "len" := by rfl) (he : starEach [a] C.X.env = [(false, eval a C.X.env)] := by rfl) : AE C (.Call (.Name "len" p) [a] [] pos) Γ L Q := ae_callB call_lenA hm (aa_cons (h.mono fun x L1 q => aa_nil q) he) (hg := hg) (he := he)
theorem ae_c_int {p : Pos} (hm : C.X.mg "int" = none) (h : AE C a Γ L fun x L1 => LcR C (rInt1) [x] L1 Q) (hg : Gl C.X "int" := by rfl) (he : starEach [a] C.X.env = [(false, eval a C.X.env)] := by rfl) : AE C (.Call (.Name "int" p) [a] [] pos) Γ L Q := ae_callT call_int1 hm (aa_cons (h.mono fun x L1 q => aa_nil q) he) (hg := hg) (he := he)
theorem ae_c_abs {p : Pos} (hm : C.X.mg "abs" = none) (h : AE C a Γ L fun x L1 => LcR C (rAbs) [x] L1 Q) (hg : Gl C.X "abs" := by rfl) (he : starEach [a] C.X.env = [(false, eval a C.X.env)] := by rfl) : AE C (.Call (.Name "abs" p) [a] [] pos) Γ L Q := ae_callB call_abs hm (aa_cons (h.mono fun x L1 q => aa_nil q) he) (hg := hg) (he := he)
theorem ae_c_tuple {p : Pos} (hm : C.X.mg "tuple" = none) (h : AE C a Γ L fun x L1 => LcR C (rTupOf C.X.K) [x] L1 Q) (hg : Gl C.X "tuple" := by rfl) (he : starEach [a] C.X.env = [(false, eval a C.X.env)] := by rfl) : AE C (.Call (.Name "tuple" p) [a] [] pos) Γ L Q := ae_callT call_tuple_of hm (aa_cons (h.mono fun x L1 q => aa_nil q) he) (hg := hg) (he := he)
theorem ae_c_max {p : Pos} (hm : C.X.mg "max" = none) (h : AE C a Γ L fun x L1 => AE C b Γ L1 fun y L2 => LcR C (rMx) [x, y] L2 Q) (hg : Gl C.X "max" := by rfl) (he : starEach [a, b] C.X.env = (false, eval a C.X.env) :: starEach [b] C.X.env := by rfl) (he2 : starEach [b] C.X.env = [(false, eval b C.X.env)] := by rfl) (hpl : (backTo pos (starEach [b] C.X.env)).any (·.1) = false := by rfl) : AE C (.Call (.Name "max" p) [a, b] [] pos) Γ L Q := ae_callB (call_max2 C.calm) hm (aa_cons (h.mono fun x L1 q => aa_cons (q.mono fun y L2 q => aa_nil q) he2) he) (hg := hg) (he := he) (hpl := hpl)
theorem ae_c_min {p : Pos} (hm : C.X.mg "min" = none) (h : AE C a Γ L fun x L1 => AE C b Γ L1 fun y L2 => LcR C (rMn) [x, y] L2 Q) (hg : Gl C.X "min" := by rfl) (he : starEach [a, b] C.X.env = (false, eval a C.X.env) :: starEach [b] C.X.env := by rfl) (he2 : starEach [b] C.X.env = [(false, eval b C.X.env)] := by rfl) (hpl : (backTo pos (starEach [b] C.X.env)).any (·.1) = false := by rfl) : AE C (.Call (.Name "min" p) [a, b] [] pos) Γ L Q := ae_callB (call_min2 C.calm) hm (aa_cons (h.mono fun x L1 q => aa_cons (q.mono fun y L2 q => aa_nil q) he2) he) (hg := hg) (he := he) (hpl := hpl)
theorem ae_c_isi {p : Pos} (hm : C.X.mg "isinstance" = none) (h : AE C a Γ L fun x L1 => AE C b Γ L1 fun y L2 => LcR C (rIsi C.X.K) [x, y] L2 Q) (hg : Gl C.X "isinstance" := by rfl) (he : starEach [a, b] C.X.env = (false, eval a C.X.env) :: starEach [b] C.X.env := by rfl) (he2 : starEach [b] C.X.env = [(false, eval b C.X.env)] := by rfl) (hpl : (backTo pos (starEach [b] C.X.env)).any (·.1) = false := by rfl) : AE C (.Call (.Name "isinstance" p) [a, b] [] pos) Γ L Q := ae_callB call_isi hm (aa_cons (h.mono fun x L1 q => aa_cons (q.mono fun y L2 q => aa_nil q) he2) he) (hg := hg) (he := he) (hpl := hpl)
/-- a <= b <= c -/
theorem ae_lele (h : AE C a Γ L fun x L1 => AE C b Γ L1 fun y L2 => L2R C rLeA x y L2 fun d L3 => ∃ k, d = .bl k ∧ (k = true → AE C c Γ L3 fun z L4 => L2R C rLeA y z L4 Q) ∧ (k = false → Q (.bl false) L3)) (hm : lastMarks [.LtE, .LtE] [b, c] = false := by rfl) : AE C (.Compare a [.LtE, .LtE] [b, c] pos) Γ L Q := ae_chain op_leA op_leA h (pe_chain op_leA op_leA pe_we pe_we pe_we (hm := hm))
theorem at_lele {Q : Bool → Lp → Prop} (h : AE C a Γ L fun x L1 => AE C b Γ L1 fun y L2 => L2R C rLeA x y L2 fun d L3 => ∃ k, d = .bl k ∧ (k = true → AE C c Γ L3 fun z L4 => L2R C rLeA y z L4 fun d L5 => ∃ k, d = .bl k ∧ Q k L5) ∧ (k = false → Q false L3)) (hm : lastMarks [.LtE, .LtE] [b, c] = false := by rfl) : AT C (.Compare a [.LtE, .LtE] [b, c] pos) Γ L Q := at_chain op_leA op_leA h (pt_chain op_leA op_leA pe_we pe_we pe_we (hm := hm))
end
end DL
namespace DL
open PySem PySem.Spec PyProof.Rows L2
section
variable {C : Ctx} {Γ : Gm} {L : Lp} {Q : D → Lp → Prop}

theorem eq_W {a b : List Wd} (q : Q (.bl (decide (a = b))) L) : L2R C (rEqA C.X.K) (dW a) (dW b) L Q := eq_E (α := List Str) q

theorem ne_W {a b : List Wd} (q : Q (.bl (!decide (a = b))) L) : L2R C (rNeA C.X.K) (dW a) (dW b) L Q := ne_E (α := List Str) q
theorem eq_C {a b : List Cell} (q : Q (.bl (decide (a = b))) L) : L2R C (rEqA C.X.K) (dC a) (dC b) L Q := eq_E (α := List (List Str)) q
theorem ne_C {a b : List Cell} (q : Q (.bl (!decide (a = b))) L) : L2R C (rNeA C.X.K) (dC a) (dC b) L Q := ne_E (α := List (List Str)) q
theorem eq_R {a b : Rl} (q : Q (.bl (decide (a = b))) L) : L2R C (rEqA C.X.K) (dR a) (dR b) L Q := eq_E (α := List (List Str × List (List Str))) q
theorem ne_R {a b : Rl} (q : Q (.bl (!decide (a = b))) L) : L2R C (rNeA C.X.K) (dR a) (dR b) L Q := ne_E (α := List (List Str × List (List Str))) q
/-- against () -/
theorem eq_W0 {a : List Wd} (q : Q (.bl a.isEmpty) L) : L2R C (rEqA C.X.K) (dW a) (.tup []) L Q := by
  have h : L2R C (rEqA C.X.K) (dW a) (dW []) L Q := eq_W (by cases a <;> exact q)
  exact h
/-! ### isinstance, by kinds -/
theorem isi_tt {ds : List D} (q : Q (.bl true) L) : LcR C (rIsi C.X.K) [.tup ds, .ty "tuple"] L Q := c_isi trivial (by exact (by decide +kernel : kitB "tuple" "tuple" = some true)) q
theorem isi_ii {i : Int} (q : Q (.bl true) L) : LcR C (rIsi C.X.K) [.int i, .ty "int"] L Q := c_isi trivial (by exact (by decide +kernel : kitB "int" "int" = some true)) q
theorem isi_ib {i : Int} (q : Q (.bl false) L) : LcR C (rIsi C.X.K) [.int i, .ty "bool"] L Q := c_isi trivial (by exact (by decide +kernel : kitB "int" "bool" = some false)) q
theorem isi_ss {x : Str} (q : Q (.bl true) L) : LcR C (rIsi C.X.K) [.str x, .ty "str"] L Q := c_isi trivial (by exact (by decide +kernel : kitB "str" "str" = some true)) q
theorem isi_is {i : Int} (q : Q (.bl false) L) : LcR C (rIsi C.X.K) [.int i, .ty "str"] L Q := c_isi trivial (by exact (by decide +kernel : kitB "int" "str" = some false)) q
theorem isi_ts {ds : List D} (q : Q (.bl false) L) : LcR C (rIsi C.X.K) [.tup ds, .ty "str"] L Q := c_isi trivial (by exact (by decide +kernel : kitB "tuple" "str" = some false)) q
theorem isi_st {x : Str} (q : Q (.bl false) L) : LcR C (rIsi C.X.K) [.str x, .ty "tuple"] L Q := c_isi trivial (by exact (by decide +kernel : kitB "str" "tuple" = some false)) q
theorem isi_bb {b : Bool} (q : Q (.bl true) L) : LcR C (rIsi C.X.K) [.bl b, .ty "bool"] L Q := c_isi trivial (by exact (by decide +kernel : kitB "bool" "bool" = some true)) q
/-- a statement, by what holds behind it -/
theorem as_post {E : AEnds} {st : Stmt} (M : Gm → Lp → Prop) (h : AS C st Γ L { E with nx := M }) (h2 : ∀ Γ' L', M Γ' L' → E.nx Γ' L') : AS C st Γ L E := fun F σ H ok DD go => h F σ H ok DD ⟨fun s H2 Γ2 L2 o f q => go.nx s H2 Γ2 L2 o f (h2 _ _ q), go.rt, go.bk, go.ct⟩
theorem q_bl {b b' : Bool} (q : Q (.bl b) L) (h : b = b') : Q (.bl b') L := h ▸ q
end
end DL
namespace DL
open PySem PySem.Spec PyProof.Rows L2
/-! ### operators by their tags -/
inductive Tg where
  | cmp (op : CmpOp) | bin (op : Operator) | inp (op : Operator)
def Tg.f : Tg → Value → Value → Sem Value
  | .cmp op => compareOp op
  | .bin op => binaryOp op
  | .inp op => inplaceOp op
/-- what the operator t does of x, y -/
structure OpJ (C : DL.Ctx) (t : Tg) (Γ : Gm) (x y : D) (L : Lp) (Q : D → Lp → Prop) : Prop where
  run : ∀ Z σ H, Ok C Γ L Z σ H → ∀ vx vy, Rep C.X.K Z H vx x → Rep C.X.K Z H vy y → ∀ QV, Go C L Z H Q QV → ∀ pins s v u, Inv C.X pins σ H s → RelV vx v → RelV vy u → wpAny (model C.X.prog C.X.w) C.X.A (t.f v u) (EP C.X pins σ QV) C.X.xe s
section
variable {C : DL.Ctx} {Γ : Gm} {L : Lp} {a b e : Expr} {pos : Pos} {Q : D → Lp → Prop} {x y : D} {t : Tg}
theorem OpJ.of {r : L2.R2} (ho : OpR C.X t.f r) (h : L2R C r x y L Q) : OpJ C t Γ x y L Q := ⟨fun Z σ H ok vx vy rx ry QV go pins s v u I r1 r2 => ho pins s σ H vx vy v u QV I r1 r2 (h Z vx vy H ok.con rx ry QV go)⟩
theorem two_run {pins : List (Addr × Obj)} {σ : L2.St} {Z : Fz} {H : Hp} {s : Shared} {QV : VK} (h : AE C a Γ L fun x L1 => AE C b Γ L1 fun y L2 => OpJ C t Γ x y L2 Q) (ok : Ok C Γ L Z σ H) (go : Go C L Z H Q QV) (I : Inv C.X pins σ H s) :
    wpAny (model C.X.prog C.X.w) C.X.A (eval a C.X.env) (fun v s1 => wpAny (model C.X.prog C.X.w) C.X.A (eval b C.X.env) (fun u s2 => wpAny (model C.X.prog C.X.w) C.X.A (t.f v u) (EP C.X pins σ QV) C.X.xe s2) C.X.xe s1) C.X.xe s := by
  refine thn ((h Z σ H ok (fun vx H1 => ∃ x L1 Z1, Rep C.X.K Z1 H1 vx x ∧ C.Con L1 Z1 H1 ∧ Fr L Z H L1 Z1 H1 ∧ AE C b Γ L1 fun y L2 => OpJ C t Γ x y L2 Q) fun v d H' L' r c f q => ⟨d, L', _, r, c, f, q⟩).run pins s I) fun v s1 ⟨vx, H1, I1, r1, x, L1, Z1, rx, c1, f1, q1⟩ => ?_
  refine thn ((q1 Z1 σ H1 (ok.step c1 f1) (fun vy H2 => ∃ y L2 Z2, Rep C.X.K Z2 H2 vy y ∧ C.Con L2 Z2 H2 ∧ Fr L1 Z1 H1 L2 Z2 H2 ∧ OpJ C t Γ x y L2 Q) fun v d H' L' r c f q => ⟨d, L', _, r, c, f, q⟩).run pins s1 I1) fun u s2 ⟨vy, H2, I2, r2, y, L2, Z2, ry, c2, f2, q2⟩ => ?_
  exact q2.run Z2 σ H2 (ok.step c2 (f1.trans f2)) vx vy (rx.mono f2.mv) ry QV (go.after (f1.trans f2)) pins s2 v u I2 r1 r2
theorem ae_binJ {op : Operator} (h : AE C a Γ L fun x L1 => AE C b Γ L1 fun y L2 => OpJ C (.bin op) Γ x y L2 Q) : AE C (.BinOp a op b pos) Γ L Q := fun Z σ H ok QV go => ⟨fun pins s I => wpAny_BinOp (two_run h ok go I)⟩
theorem ae_cmpJ {op : CmpOp} (h : AE C a Γ L fun x L1 => AE C b Γ L1 fun y L2 => OpJ C (.cmp op) Γ x y L2 Q) (hm : behindInMarks op b = false := by rfl) : AE C (.Compare a [op] [b] pos) Γ L Q := fun Z σ H ok QV go => ⟨fun pins s I => wpAny_Compare1 (two_run h ok go I) hm⟩
theorem at_cmpJ {op : CmpOp} {Q : Bool → Lp → Prop} (h : AE C a Γ L fun x L1 => AE C b Γ L1 fun y L2 => OpJ C (.cmp op) Γ x y L2 fun d L3 => ∃ k, d = .bl k ∧ Q k L3) (hm : behindInMarks op b = false := by rfl) : AT C (.Compare a [op] [b] pos) Γ L Q := fun Z σ H ok QV go => ⟨fun pins s I => by
  refine wpAny_isTrue_Compare1 (thn (two_run (QV := fun v H' => ∃ k L' Z', v = .bl k ∧ C.Con L' Z' H' ∧ Fr L Z H L' Z' H' ∧ Q k L') h ok (fun v d H' L' r c f ⟨k, ed, q⟩ => ⟨k, L', _, by subst ed; exact r.blE, c, f, q⟩) I) fun v s1 hb => thn hb fun u s2 hc => thn hc fun w s3 ⟨z, H3, I3, r3, k, L3, Z3, e, c3, f3, q3⟩ => ?_) hm
  subst e
  cases r3
  exact wpAny_truthy_bool ⟨H3, I3, go k H3 L3 c3 f3 q3⟩⟩
theorem j_eqI {i j : Int} (hu : C.X.A.units + 64 < cLine) (q : Q (.bl (decide (i = j))) L) : OpJ C (.cmp .Eq) Γ (.int i) (.int j) L Q := OpJ.of (t := .cmp .Eq) (op_eqA hu) (eq_I q)
theorem j_eqS {i j : Str} (hu : C.X.A.units + 64 < cLine) (q : Q (.bl (decide (i = j))) L) : OpJ C (.cmp .Eq) Γ (.str i) (.str j) L Q := OpJ.of (t := .cmp .Eq) (op_eqA hu) (eq_S q)
theorem j_eqW {i j : List Wd} (hu : C.X.A.units + 64 < cLine) (q : Q (.bl (decide (i = j))) L) : OpJ C (.cmp .Eq) Γ (dW i) (dW j) L Q := OpJ.of (t := .cmp .Eq) (op_eqA hu) (eq_W q)
theorem j_eqW0 {i : List Wd} (hu : C.X.A.units + 64 < cLine) (q : Q (.bl i.isEmpty) L) : OpJ C (.cmp .Eq) Γ (dW i) (.tup []) L Q := OpJ.of (t := .cmp .Eq) (op_eqA hu) (eq_W0 q)
theorem j_eqC {i j : List Cell} (hu : C.X.A.units + 64 < cLine) (q : Q (.bl (decide (i = j))) L) : OpJ C (.cmp .Eq) Γ (dC i) (dC j) L Q := OpJ.of (t := .cmp .Eq) (op_eqA hu) (eq_C q)
theorem j_eqR {i j : Rl} (hu : C.X.A.units + 64 < cLine) (q : Q (.bl (decide (i = j))) L) : OpJ C (.cmp .Eq) Γ (dR i) (dR j) L Q := OpJ.of (t := .cmp .Eq) (op_eqA hu) (eq_R q)
theorem j_eqE {α : Type} [Enc α] [DecidableEq α] {i j : α} (hu : C.X.A.units + 64 < cLine) (q : Q (.bl (decide (i = j))) L) (h : Enc.dep α ≤ 64 := by decide) : OpJ C (.cmp .Eq) Γ (Enc.enc i) (Enc.enc j) L Q := OpJ.of (t := .cmp .Eq) (op_eqA hu) (eq_E q h)
theorem j_eqD  (hu : C.X.A.units + 64 < cLine) (hx : okD x = true) (hy : okD y = true) (dx : (py x).depth ≤ 64) (dy : (py y).depth ≤ 64) (q : Q (.bl (PyData.eqv (py x) (py y))) L) : OpJ C (.cmp .Eq) Γ x y L Q := OpJ.of (t := .cmp .Eq) (op_eqA hu) (eq_D hx hy dx dy q)
theorem j_eqX  (hu : C.X.A.units + 64 < cLine) (hx : okD x = true) (dx : (py x).depth ≤ 64) (q : Q (.bl true) L) : OpJ C (.cmp .Eq) Γ x x L Q := OpJ.of (t := .cmp .Eq) (op_eqA hu) (eq_self hx dx q)
theorem j_neI {i j : Int} (hu : C.X.A.units + 64 < cLine) (q : Q (.bl (!decide (i = j))) L) : OpJ C (.cmp .NotEq) Γ (.int i) (.int j) L Q := OpJ.of (t := .cmp .NotEq) (op_neA hu) (ne_I q)
theorem j_neS {i j : Str} (hu : C.X.A.units + 64 < cLine) (q : Q (.bl (!decide (i = j))) L) : OpJ C (.cmp .NotEq) Γ (.str i) (.str j) L Q := OpJ.of (t := .cmp .NotEq) (op_neA hu) (ne_S q)
theorem j_neW {i j : List Wd} (hu : C.X.A.units + 64 < cLine) (q : Q (.bl (!decide (i = j))) L) : OpJ C (.cmp .NotEq) Γ (dW i) (dW j) L Q := OpJ.of (t := .cmp .NotEq) (op_neA hu) (ne_W q)
theorem j_neC {i j : List Cell} (hu : C.X.A.units + 64 < cLine) (q : Q (.bl (!decide (i = j))) L) : OpJ C (.cmp .NotEq) Γ (dC i) (dC j) L Q := OpJ.of (t := .cmp .NotEq) (op_neA hu) (ne_C q)
theorem j_neR {i j : Rl} (hu : C.X.A.units + 64 < cLine) (q : Q (.bl (!decide (i = j))) L) : OpJ C (.cmp .NotEq) Γ (dR i) (dR j) L Q := OpJ.of (t := .cmp .NotEq) (op_neA hu) (ne_R q)
theorem j_neE {α : Type} [Enc α] [DecidableEq α] {i j : α} (hu : C.X.A.units + 64 < cLine) (q : Q (.bl (!decide (i = j))) L) (h : Enc.dep α ≤ 64 := by decide) : OpJ C (.cmp .NotEq) Γ (Enc.enc i) (Enc.enc j) L Q := OpJ.of (t := .cmp .NotEq) (op_neA hu) (ne_E q h)
theorem j_neD  (hu : C.X.A.units + 64 < cLine) (hx : okD x = true) (hy : okD y = true) (dx : (py x).depth ≤ 64) (dy : (py y).depth ≤ 64) (q : Q (.bl (!PyData.eqv (py x) (py y))) L) : OpJ C (.cmp .NotEq) Γ x y L Q := OpJ.of (t := .cmp .NotEq) (op_neA hu) (ne_D hx hy dx dy q)
theorem j_neX  (hu : C.X.A.units + 64 < cLine) (hx : okD x = true) (dx : (py x).depth ≤ 64) (q : Q (.bl false) L) : OpJ C (.cmp .NotEq) Γ x x L Q := OpJ.of (t := .cmp .NotEq) (op_neA hu) (ne_self hx dx q)
theorem j_ltI {i j : Int} (hu : C.X.A.units + 64 < cLine) (q : Q (.bl (decide (i < j))) L) : OpJ C (.cmp .Lt) Γ (.int i) (.int j) L Q := OpJ.of (t := .cmp .Lt) (op_ltA hu) (lt_I q)
theorem j_ltS {i j : Str} (hu : C.X.A.units + 64 < cLine) (q : Q (.bl (decide (i.cps.toList < j.cps.toList))) L) : OpJ C (.cmp .Lt) Γ (.str i) (.str j) L Q := OpJ.of (t := .cmp .Lt) (op_ltA hu) (lt_S q)
theorem j_ltD  (hu : C.X.A.units + 64 < cLine) (hx : okD x = true) (hy : okD y = true) (hal : PySem.W.alike (py x) (py y) = true) (hn : py x ≠ .none) (dx : (py x).depth ≤ 64) (q : Q (.bl (PySem.W.dataLt (py x) (py y))) L) : OpJ C (.cmp .Lt) Γ x y L Q := OpJ.of (t := .cmp .Lt) (op_ltA hu) (lt_D hx hy hal hn dx q)
theorem j_leI {i j : Int} (q : Q (.bl (decide (i ≤ j))) L) : OpJ C (.cmp .LtE) Γ (.int i) (.int j) L Q := OpJ.of (t := .cmp .LtE) op_leA (le_I q)
theorem j_gtI {i j : Int} (q : Q (.bl (decide (j < i))) L) : OpJ C (.cmp .Gt) Γ (.int i) (.int j) L Q := OpJ.of (t := .cmp .Gt) op_gtA (gt_I q)
theorem j_geI {i j : Int} (q : Q (.bl (decide (j ≤ i))) L) : OpJ C (.cmp .GtE) Γ (.int i) (.int j) L Q := OpJ.of (t := .cmp .GtE) op_geA (ge_I q)
theorem j_inW {rs : Rl} {k : List Wd} (hu : C.X.A.units + 1 < cLine) (hp : DR L y (tbl rs)) (q : Q (.bl (lk rs k).isSome) L) : OpJ C (.cmp .In) Γ (dW k) y L Q := OpJ.of (t := .cmp .In) (op_inA hu) (in_W hp q)
theorem j_inG {k : Nat} {z : Str} (hu : C.X.A.units + 1 < cLine) (q : Q (.bl (decide (k ∈ z.cps.toList))) L) : OpJ C (.cmp .In) Γ (.str (sgn k)) (.str z) L Q := OpJ.of (t := .cmp .In) (op_inA hu) (in_sign q)
theorem j_inL {i : Str} {ys : List Str} (hu : C.X.A.units + 1 < cLine) (hp : LR L y (ys.map D.str)) (q : Q (.bl (decide (i ∈ ys))) L) : OpJ C (.cmp .In) Γ (.str i) y L Q := OpJ.of (t := .cmp .In) (op_inA hu) (in_L hp q)
theorem j_inT {i : Str} {ys : List Str} (hu : C.X.A.units + 1 < cLine) (q : Q (.bl (decide (i ∈ ys))) L) : OpJ C (.cmp .In) Γ (.str i) (.tup (ys.map D.str)) L Q := OpJ.of (t := .cmp .In) (op_inA hu) (in_T q)
theorem j_ninW {rs : Rl} {k : List Wd} (hu : C.X.A.units + 1 < cLine) (hp : DR L y (tbl rs)) (q : Q (.bl (!(lk rs k).isSome)) L) : OpJ C (.cmp .NotIn) Γ (dW k) y L Q := OpJ.of (t := .cmp .NotIn) (op_notInA hu) (notIn_W hp q)
theorem j_ninL {i : Str} {ys : List Str} (hu : C.X.A.units + 1 < cLine) (hp : LR L y (ys.map D.str)) (q : Q (.bl (!decide (i ∈ ys))) L) : OpJ C (.cmp .NotIn) Γ (.str i) y L Q := OpJ.of (t := .cmp .NotIn) (op_notInA hu) (notIn_L hp q)
theorem j_ninT {i : Str} {ys : List Str} (hu : C.X.A.units + 1 < cLine) (q : Q (.bl (!decide (i ∈ ys))) L) : OpJ C (.cmp .NotIn) Γ (.str i) (.tup (ys.map D.str)) L Q := OpJ.of (t := .cmp .NotIn) (op_notInA hu) (notIn_T q)
theorem j_is  (q : Q (.bl (isN x)) L) : OpJ C (.cmp .Is) Γ x .non L Q := OpJ.of (t := .cmp .Is) op_isA (isa_N q)
theorem j_isn  (q : Q (.bl (!isN x)) L) : OpJ C (.cmp .IsNot) Γ x .non L Q := OpJ.of (t := .cmp .IsNot) op_isNotA (isnota_N q)
theorem j_addI {i j : Int} (q : Q (.int (i + j)) L) : OpJ C (.bin .Add) Γ (.int i) (.int j) L Q := OpJ.of (t := .bin .Add) op_addA (add_I q)
theorem j_addS {i j : Str} (q : Q (.str (i ++ j)) L) (h : i.length + j.length ≤ sizeLine) : OpJ C (.bin .Add) Γ (.str i) (.str j) L Q := OpJ.of (t := .bin .Add) op_addA (add_S q h)
theorem j_addT {xs ys : List D} (q : Q (.tup (xs ++ ys)) L) (h : xs.length + ys.length ≤ sizeLine) : OpJ C (.bin .Add) Γ (.tup xs) (.tup ys) L Q := OpJ.of (t := .bin .Add) op_addA (add_T q h)
theorem j_subI {i j : Int} (q : Q (.int (i - j)) L) : OpJ C (.bin .Sub) Γ (.int i) (.int j) L Q := OpJ.of (t := .bin .Sub) op_subA (sub_I q)
theorem j_mulI {i j : Int} (q : Q (.int (i * j)) L) (h : CMul i j) : OpJ C (.bin .Mult) Γ (.int i) (.int j) L Q := OpJ.of (t := .bin .Mult) op_mulA (mul_I q h)
theorem j_mulS {z : Str} {n : Int} (q : Q (.str (repS z n.toNat)) L) (h0 : 0 ≤ n) (h1 : n ≤ 1000000) (hz : z.length * n.toNat ≤ 1000000) : OpJ C (.bin .Mult) Γ (.str z) (.int n) L Q := OpJ.of (t := .bin .Mult) op_mulA (mul_S q h0 h1 hz)
theorem j_modI {i j : Int} (q : Q (.int (i % j)) L) (h : 0 < j) : OpJ C (.bin .Mod) Γ (.int i) (.int j) L Q := OpJ.of (t := .bin .Mod) op_modA (mod_I q h)
theorem j_divI {i j : Int} (q : Q (.int (i / j)) L) (h : CDiv i j) : OpJ C (.bin .FloorDiv) Γ (.int i) (.int j) L Q := OpJ.of (t := .bin .FloorDiv) op_divA (div_I q h)
end
end DL
namespace DL
open PySem PySem.Spec PyProof.Rows L2
/-! ### a value's type -/
inductive TyL (K : PySem.W.Frag) (L : Lp) : D → Value → Prop where
  | non : TyL K L .non (.type "NoneType")
  | bl (b : Bool) : TyL K L (.bl b) (.type "bool")
  | int (i : Int) : TyL K L (.int i) (.type "int")
  | str (x : Str) : TyL K L (.str x) (.type "str")
  | tup (ds : List D) : TyL K L (.tup ds) (.type "tuple")
  | flst (ds : List D) : TyL K L (.flst ds) (.type "list")
  | fdct (kds : List (List Key × D)) : TyL K L (.fdct kds) (.type "dict")
  | kdct (kds : List (Key × D)) : TyL K L (.kdct kds) (.type "dict")
  | wds (ys : List Str) : TyL K L (.wds ys) (.type "tuple")
  | lst {a : Addr} {ds : List D} (h : L a = some (.lst ds)) : TyL K L (.ptr a) (.type "list")
  | dct {a : Addr} {kds : List (List Key × D)} (h : L a = some (.dct kds)) : TyL K L (.ptr a) (.type "dict")
  | ins {x : D} {Cl : Addr} (c : SlX.SCls K Cl) (i : SlX.SIsi K Cl) (h : IsIns L x Cl) : TyL K L x (.ref Cl)
section
variable {C : DL.Ctx} {Γ : Gm} {L : Lp} {Q : D → Lp → Prop} {x y : D} {t : Value} {Z : Fz} {H : Hp} {pins : List (Addr × Obj)} {σ : L2.St} {s : Shared} {v : V} {u : Value}
theorem TyL.kit (ty : TyL C.X.K L x t) (c : C.Con L Z H) (r : Rep C.X.K Z H v x) (I : Inv C.X pins σ H s) (ru : RelV v u) : ∃ P : Heap → Prop, PySem.W.KitX C.X.K u t P ∧ P s.heap ∧ u ≠ .builtin "__main__.__loader__#opaque" := by
  cases ty with
  | non => rw [r.nonE] at ru; exact kit_of I ru (.base .non)
  | bl b => rw [r.blE] at ru; exact kit_of I ru (.base (.bl b))
  | int i => rw [r.intE] at ru; exact kit_of I ru (.base (.int i))
  | str z => rw [r.strE] at ru; exact kit_of I ru (.base (.str z))
  | tup ds =>
    obtain ⟨a, ws, rfl, ha, _⟩ := r.tupE
    exact kit_of I ru (.base (.tup ha))
  | flst ds =>
    cases r with
    | flst hl h => exact kit_of I ru (.base (.lst h))
  | fdct kds =>
    cases r with
    | @fdct a kvs kds o hl h =>
      cases (show u = Value.ref a from ru)
      obtain ⟨_, _, _, xs, _, o, es, ep, h1, h2, _⟩ := (show ObjOk C.X.prog C.X.w H s.heap a (.frz o (.dT kvs)) from I.hok a _ h)
      exact ⟨_, PySem.W.kitx_dict, ⟨o, h1, h2.1⟩, fun z => nomatch z⟩
  | kdct kds =>
    cases r with
    | @kdct a kvs kds o hl h =>
      cases (show u = Value.ref a from ru)
      obtain ⟨_, hg, hx, _⟩ := I.frzK h
      exact ⟨_, PySem.W.kitx_dict, ⟨o, hg, hx.1⟩, fun z => nomatch z⟩
  | wds ys =>
    cases r with
    | @wds a _ o hl h => exact kit_of I ru (.fTuple h)
  | lst h =>
    obtain ⟨ws, ha, _⟩ := c.at_ _ _ h
    rw [r.ptrE] at ru
    exact kit_of I ru (.base (.lst ha))
  | dct h =>
    obtain ⟨ws, ha, _⟩ := c.at_ _ _ h
    rw [r.ptrE] at ru
    exact kit_of I ru (.base (.dT ha))
  | @ins x Cl hc hi h =>
    obtain ⟨a, dx, vs, rfl, hs⟩ := h.slt c r
    cases (show u = Value.ref a from ru)
    obtain ⟨sl, od, _, J, _⟩ := SlX.slt_inst I hs
    exact ⟨_, OwX.kitx_slt hc.ic (hc.get _) hi.ca hi.cn hi.ct hi.cm, J, fun z => nomatch z⟩
theorem TyL.look (ty : TyL C.X.K L x t) (c : C.Con L Z H) (r : Rep C.X.K Z H v x) (I : Inv C.X pins σ H s) (ru : RelV v u) : PySem.W.Looks (model C.X.prog C.X.w) s.heap (typeOf u) t := by
  obtain ⟨P, k, p, _⟩ := ty.kit c r I ru
  exact k.ty _ _ I.kIn p
end
/-! ### own operators -/
section
variable {prog : Program} {w : World} {A : Around} {E : Value → Shared → Prop} {s : Shared} {K : PySem.W.Frag} {x C f : Addr} {ox : Obj} {od : Option Obj} {b tb : Value}
open PySem.W in
/-- a builtin special that the class inherits -/
theorem ifBound_B {M : Model} {name : Str} {id : String} {args : List Value} {Q : Option Value → Shared → Prop} (X : K.In s.heap) (I : InstAt s.heap x ox C od) (hs : findIn K (.ref C) name = some (some (.builtin id)))
    (hb : ∀ self, bindSpecial (.builtin id) self = pure (.builtin id, [self])) (h : wpAny M A (call (.builtin id) (.ref x :: args)) (fun v => Q (some v)) E s) : wpAny M A (callSpecialIfBound? (.ref x) name args) Q E s := by
  simp only [callSpecialIfBound?, bindSpecialIfBound?]
  refine wpAny_holding (wpAny_bind (wpAny_bind (wpAny_bind (I.type.here ((looks_findIn X hs).here ?_)))))
  refine wpAny_bind (wpAny_askSetting (wpAny_ite ?_))
  have fin : wpAny M A (call (.builtin id) ([.ref x] ++ args) >>= fun v => pure (some v)) Q E s := wpAny_bind (wpAny_mono h (fun v s' h' => wpAny_pure h') fun _ _ h' => h')
  split
  · exact wpAny_bind ((Looks.of_pure (hb _)).here (wpAny_pure (by exact fin)))
  · exact wpAny_tryCatch (wpAny_bind ((Looks.of_pure (hb _)).here (wpAny_pure (by exact fin))))
open PySem.W in
/-- x != b by the class's own == -/
theorem ne_K {Q : Value → Shared → Prop} (hu : A.units + 1 < cLine) (X : K.In s.heap) (I : InstAt s.heap x ox C od) (hb : Looks (model prog w) s.heap (typeOf b) tb) (hn : notFirst K C tb = true)
    (hne : findIn K (.ref C) "__ne__" = some (some (.builtin "object.__ne__"))) (hm : mroIn K C (.type "object") = some true) (hs : findIn K (.ref C) "__eq__" = some (some (.ref f))) (hf : isFn K (.ref f) = true)
    (h : wpAny (model prog w) A.in1 (call (.ref f) [.ref x, b]) (fun v s' => ∃ k, v = .bool k ∧ Q (.bool (!k)) s') E s) : wpAny (model prog w) A (richCompare .NotEq (.ref x) b) Q E s := by
  have one : wpAny (model prog w) A (tryCompare (.ref x) (cmpInfo .NotEq).2.1 b) (fun r s' => ∃ v, r = some v ∧ Q v s') E s := by
    unfold tryCompare
    refine wpAny_bind (ifBound_B X I hne PySem.F.cmp_object.ne.bind (wpAny_call (codeAny_call_builtin PySem.F.cmp_object.ne.plain PySem.F.cmpEntry_ne (check_slot (i := "object.__ne__") (owner := "object") (n := "__ne__") (by decide +kernel) (by decide +kernel) (I.type.andThen (looks_mroIn X hm)) (PySem.F.cmpArgs_ne _ _) ?_))))
    unfold Builtin.«object.__ne__»
    refine wpAny_bind (m := slotArgs "__ne__" 1 _) (wpAny_pure ?_)
    refine wpAny_bind (m := cRoomFor _ _) (wpAny_cRoomFor hu ?_)
    refine wpAny_bind (m := callSpecialIfBound? (.ref x) (Str.ofString "__eq__") _) (ifBound_K X I hs hf (wpAny_mono h (fun r s' hr => ?_) fun _ _ y => y))
    obtain ⟨k, rfl, hq⟩ := hr
    refine wpAny_bind (m := truthy (.bool k)) (wpAny_truthy_bool ?_)
    exact wpAny_pure (wpAny_pure ⟨_, rfl, hq⟩)
  unfold richCompare
  simp only [oneThing_ref]
  refine wpAny_holding (wpAny_bind (wpAny_cRoomFor (Nat.lt_of_succ_lt hu) ?_))
  refine wpAny_bind (I.type.here (wpAny_bind (hb.here ?_)))
  split
  · rename_i q
    have e : subIn K tb (.ref C) = some false := by
      rcases Bool.or_eq_true_iff.mp hn with e | e
      · rw [beq_iff_eq.mp e] at q; simp at q
      · exact beq_iff_eq.mp e
    refine wpAny_bind ((looks_subIn X e).here ?_)
    simp only [Bool.false_eq_true, if_false]
    refine wpAny_bind (wpAny_mono one (fun r s' z => ?_) fun _ _ e => e)
    obtain ⟨v, rfl, hq⟩ := z
    exact wpAny_pure hq
  · refine wpAny_bind (wpAny_pure ?_)
    simp only [Bool.false_eq_true, if_false]
    refine wpAny_bind (wpAny_mono one (fun r s' z => ?_) fun _ _ e => e)
    obtain ⟨v, rfl, hq⟩ := z
    exact wpAny_pure hq
end
section
variable {C : DL.Ctx} {Γ : Gm} {L : Lp} {Q : D → Lp → Prop} {x y : D} {t : Value} {Cl g : Addr} {k : Nat} {sp : SpA}
/-- the callee runs below the running body, and raises nothing -/
theorem run_fnD {A : Around} {pins : List (Addr × Obj)} {σ : L2.St} {Z : Fz} {H : Hp} {s : Shared} {us : List Value} {vs : List V} {ds : List D} {QV : VK} (F : FnA C.X.prog C.X.w C.X.K C.X.mg C.X.base k g sp) (hr : Room k A) (e0 : Env0 C.X.prog C.X.w C.X.K C.X.mg C.X.base A C.X.stack s H) (I : Inv C.X pins σ H s) (ok : Ok C Γ L Z σ H) (r : Vals vs us) (rd : Reps C.X.K Z H vs ds)
    (h : sp ds L Q fun _ _ _ => False) (go : Go C L Z H Q QV) : codeAny (model C.X.prog C.X.w) A (.call (.ref g) ⟨us, []⟩) (fun r s' => match r with | .ok (.ret v) => EP C.X pins σ QV v s' | .ok _ => False | .error e => C.X.xe e s') s := by
  refine codeAny_mono (F A C.X.stack s H us vs QV (fun _ _ _ => False) hr e0 r ⟨ds, L, Z, Q, _, rd, ok.con, h, fun d L' q v H' rv c f => go v d H' L' rv c f q, fun cls fs L' q d H' xd c f => q.elim⟩) fun r s' hq => ?_
  cases r with
  | error e => obtain ⟨_, _, _, _, _, _, _, _, _, _, _, _, z⟩ := hq; exact z.elim
  | ok fl =>
    cases fl with
    | ret u => exact I.after hq
    | next => exact False.elim hq
    | brk => exact False.elim hq
    | cont => exact False.elim hq
/-- x == y .. by the class's def -/
theorem j_cmpO {op : CmpOp} (hs : PySem.W.findIn C.X.K (.ref Cl) (cmpInfo op).2.1 = some (some (.ref g))) (hf : PySem.W.isFn C.X.K (.ref g) = true) (F : FnA C.X.prog C.X.w C.X.K C.X.mg C.X.base k g sp) (hr : Room k C.X.A)
    (ix : IsIns L x Cl) (ty : TyL C.X.K L y t) (hn : PySem.W.notFirst C.X.K Cl t = true) (q : sp [x, y] L Q (C.R Γ)) (hop : ∀ a b, compareOp op a b = richCompare op a b := by intros; rfl) : OpJ C (.cmp op) Γ x y L Q := ⟨fun Z σ H ok vx vy rx ry QV go pins s v u I r1 r2 => by
  obtain ⟨a, dx, vs, rfl, st⟩ := ix.slt ok.con rx
  cases (show v = Value.ref a from r1)
  obtain ⟨sl, od, _, J, _⟩ := SlX.slt_inst I st
  obtain ⟨m, hF⟩ := I.fr
  show wpAny _ _ (compareOp op (.ref a) u) _ _ _
  rw [hop]
  refine PySem.W.cmp_K (op := op) (tb := t) hr.units0 hF I.ok.mod.kin J (ty.look ok.con ry I r2) hn hs hf ?_
  refine wpAny_mono (wpAny_call (run_fnA (us := [.ref a, u]) (vs := [.ref a, vy]) F hr I ok (.cons rfl (.cons r2 .nil)) (.cons rx (.cons ry .nil)) q go)) (fun w s' z => ?_) fun _ _ x => x
  obtain ⟨z', H', I', rz, qz⟩ := z
  exact SlX.cmpback rz ⟨z', H', I', rz, qz⟩⟩
/-- x != y by the class's own == -/
theorem j_neO (hne : PySem.W.findIn C.X.K (.ref Cl) "__ne__" = some (some (.builtin "object.__ne__"))) (hm : PySem.W.mroIn C.X.K Cl (.type "object") = some true) (hs : PySem.W.findIn C.X.K (.ref Cl) "__eq__" = some (some (.ref g))) (hf : PySem.W.isFn C.X.K (.ref g) = true)
    (F : FnA C.X.prog C.X.w C.X.K C.X.mg C.X.base k g sp) (hr : Room (k + 1) C.X.A)
    (ix : IsIns L x Cl) (ty : TyL C.X.K L y t) (hn : PySem.W.notFirst C.X.K Cl t = true) (q : sp [x, y] L (fun d L' => ∃ k, d = .bl k ∧ Q (.bl (!k)) L') fun _ _ _ => False) : OpJ C (.cmp .NotEq) Γ x y L Q := ⟨fun Z σ H ok vx vy rx ry QV go pins s v u I r1 r2 => by
  obtain ⟨a, dx, vs, rfl, st⟩ := ix.slt ok.con rx
  cases (show v = Value.ref a from r1)
  obtain ⟨sl, od, _, J, _⟩ := SlX.slt_inst I st
  show wpAny _ _ (richCompare .NotEq (.ref a) u) _ _ _
  refine ne_K (tb := t) (by have := hr.units; omega) I.kIn J (ty.look ok.con ry I r2) hn hne hm hs hf ?_
  refine wpAny_mono (wpAny_call (run_fnD (us := [.ref a, u]) (vs := [.ref a, vy]) (QV := fun z H' => ∃ k, z = .bl k ∧ QV (.bl (!k)) H') F hr.in1 I.env0.in1 I ok (.cons rfl (.cons r2 .nil)) (.cons rx (.cons ry .nil)) q fun v d H' L' r c f ⟨k, ed, q⟩ => ⟨k, by subst ed; exact r.blE, go _ _ H' L' (.bl _) c f q⟩)) (fun w s' z => ?_) fun _ _ x => x
  obtain ⟨z', H', I', rz, k, ek, qz⟩ := z
  subst ek
  cases rz
  exact ⟨k, rfl, .bl (!k), H', I', rfl, qz⟩⟩
/-- x op y of one class -/
theorem j_binO {op : Operator} (hc : PySem.W.selfFirst C.X.K Cl = true) (hs : PySem.W.findIn C.X.K (.ref Cl) (PySem.dunder op.info.2) = some (some (.ref g))) (hf : PySem.W.isFn C.X.K (.ref g) = true) (F : FnA C.X.prog C.X.w C.X.K C.X.mg C.X.base k g sp) (hr : Room k C.X.A)
    (ix : IsIns L x Cl) (iy : IsIns L y Cl) (q : sp [x, y] L Q (C.R Γ)) : OpJ C (.bin op) Γ x y L Q := ⟨fun Z σ H ok vx vy rx ry QV go pins s v u I r1 r2 => by
  obtain ⟨a, dx, vs, rfl, st⟩ := ix.slt ok.con rx
  obtain ⟨b, dy, ws, rfl, st2⟩ := iy.slt ok.con ry
  cases (show v = Value.ref a from r1)
  cases (show u = Value.ref b from r2)
  obtain ⟨sl, od, _, J, _⟩ := SlX.slt_inst I st
  obtain ⟨sl', od', _, J', _⟩ := SlX.slt_inst I st2
  obtain ⟨m, hF⟩ := I.fr
  refine PySem.W.binop_K hF I.ok.mod.kin J J'.type hc hs hf ?_
  refine wpAny_mono (wpAny_call (run_fnA (us := [.ref a, .ref b]) (vs := [.ref a, .ref b]) F hr I ok (.cons rfl (.cons rfl .nil)) (.cons rx (.cons ry .nil)) q go)) (fun w s' z => ?_) fun _ _ x => x
  obtain ⟨z', H', I', rz, qz⟩ := z
  exact SlX.cmpback rz ⟨z', H', I', rz, qz⟩⟩
/-- x op= y -/
theorem j_inpO {op : Operator} (hc : PySem.W.selfFirst C.X.K Cl = true) (hs : PySem.W.findIn C.X.K (.ref Cl) (dunderI op.info.2) = some (some (.ref g))) (hf : PySem.W.isFn C.X.K (.ref g) = true) (F : FnA C.X.prog C.X.w C.X.K C.X.mg C.X.base k g sp) (hr : Room k C.X.A)
    (ix : IsIns L x Cl) (q : sp [x, y] L Q (C.R Γ)) : OpJ C (.inp op) Γ x y L Q := ⟨fun Z σ H ok vx vy rx ry QV go pins s v u I r1 r2 => by
  obtain ⟨a, dx, vs, rfl, st⟩ := ix.slt ok.con rx
  cases (show v = Value.ref a from r1)
  obtain ⟨sl, od, _, J, _⟩ := SlX.slt_inst I st
  obtain ⟨m, hF⟩ := I.fr
  refine PySem.W.ksp_inplace hF I.ok.mod.kin J hc hs hf ?_
  refine wpAny_mono (wpAny_call (run_fnA (us := [.ref a, u]) (vs := [.ref a, vy]) F hr I ok (.cons rfl (.cons r2 .nil)) (.cons rx (.cons ry .nil)) q go)) (fun w s' z => ?_) fun _ _ x => x
  obtain ⟨z', H', I', rz, qz⟩ := z
  exact SlX.cmpback rz ⟨z', H', I', rz, qz⟩⟩
/-- x in y by the class's own __contains__ -/
theorem j_inO (hs : PySem.W.findIn C.X.K (.ref Cl) "__contains__" = some (some (.ref g))) (hf : PySem.W.isFn C.X.K (.ref g) = true) (F : FnA C.X.prog C.X.w C.X.K C.X.mg C.X.base k g sp) (hr : Room k C.X.A)
    (iy : IsIns L y Cl) (q : sp [y, x] L (fun d L' => ∃ k, d = .bl k ∧ Q (.bl k) L') (C.R Γ)) : OpJ C (.cmp .In) Γ x y L Q := ⟨fun Z σ H ok vx vy rx ry QV go pins s v u I r1 r2 => by
  obtain ⟨a, dx, vs, rfl, st⟩ := iy.slt ok.con ry
  cases (show u = Value.ref a from r2)
  obtain ⟨sl, od, _, J, _⟩ := SlX.slt_inst I st
  obtain ⟨m, hF⟩ := I.fr
  refine PySem.W.in_K hF I.ok.mod.kin J hs hf ?_
  refine wpAny_mono (wpAny_call (run_fnA (us := [.ref a, v]) (vs := [.ref a, vx]) (QV := fun z H' => ∃ k, z = .bl k ∧ QV (.bl k) H') F hr I ok (.cons rfl (.cons r1 .nil)) (.cons ry (.cons rx .nil)) q fun v d H' L' r c f ⟨k, ed, q⟩ => ⟨k, by subst ed; exact r.blE, go _ _ H' L' (.bl _) c f q⟩)) (fun w s' z => ?_) fun _ _ x => x
  obtain ⟨z', H', I', rz, k, ek, qz⟩ := z
  subst ek
  cases rz
  exact wpAny_truthy_bool ⟨.bl k, H', I', rfl, qz⟩⟩
theorem j_ninO (hs : PySem.W.findIn C.X.K (.ref Cl) "__contains__" = some (some (.ref g))) (hf : PySem.W.isFn C.X.K (.ref g) = true) (F : FnA C.X.prog C.X.w C.X.K C.X.mg C.X.base k g sp) (hr : Room k C.X.A)
    (iy : IsIns L y Cl) (q : sp [y, x] L (fun d L' => ∃ k, d = .bl k ∧ Q (.bl (!k)) L') (C.R Γ)) : OpJ C (.cmp .NotIn) Γ x y L Q := ⟨fun Z σ H ok vx vy rx ry QV go pins s v u I r1 r2 => by
  obtain ⟨a, dx, vs, rfl, st⟩ := iy.slt ok.con ry
  cases (show u = Value.ref a from r2)
  obtain ⟨sl, od, _, J, _⟩ := SlX.slt_inst I st
  obtain ⟨m, hF⟩ := I.fr
  refine PySem.W.notIn_K hF I.ok.mod.kin J hs hf ?_
  refine wpAny_mono (wpAny_call (run_fnA (us := [.ref a, v]) (vs := [.ref a, vx]) (QV := fun z H' => ∃ k, z = .bl k ∧ QV (.bl (!k)) H') F hr I ok (.cons rfl (.cons r1 .nil)) (.cons ry (.cons rx .nil)) q fun v d H' L' r c f ⟨k, ed, q⟩ => ⟨k, by subst ed; exact r.blE, go _ _ H' L' (.bl _) c f q⟩)) (fun w s' z => ?_) fun _ _ x => x
  obtain ⟨z', H', I', rz, k, ek, qz⟩ := z
  subst ek
  cases rz
  exact wpAny_truthy_bool ⟨.bl (!k), H', I', rfl, qz⟩⟩
/-! ### isinstance -/
@[irreducible] def rIsiA (C : DL.Ctx) : List V → Hp → VK → Prop := fun xs H QV => ∃ (a b : V) (k : Bool), xs = [a, b] ∧ (∀ pins σ s u w, Inv C.X pins σ H s → RelV a u → RelV b w → ∃ t P, PySem.W.KitX C.X.K u t P ∧ P s.heap ∧ u ≠ .builtin "__main__.__loader__#opaque" ∧ PySem.W.kitOne C.X.K t w = some k) ∧ QV (.bl k) H
theorem call_isA : CallR C.X (.builtin "isinstance") (rIsiA C) := by
  intro pins s σ H xs us Q I r h
  unfold rIsiA at h
  obtain ⟨a, b, k, rfl, hk, q⟩ := h
  obtain ⟨u1, u2, rfl, r1, r2⟩ := vals2 r
  obtain ⟨t, P, Z, p, hx, e⟩ := hk pins σ s u1 u2 I r1 r2
  exact PySem.W.kia_one Z I.kIn p e hx fun tk => ⟨.bl k, H, I.tok tk, rfl, q⟩
theorem isa_B {T : String} {b : Bool} (ty : TyL C.X.K L x t) (e : PySem.W.kitOne C.X.K t (.type T) = some b) (q : Q (.bl b) L) : LcR C (rIsiA C) [x, .ty T] L Q := fun Z vs H c r QV go => by
  obtain ⟨v, w, rfl, r1, r2⟩ := r.twoE
  unfold rIsiA
  refine ⟨v, w, b, rfl, fun pins σ s u w' I ru rw => ?_, go _ _ H L (.bl _) c (.refl L H) q⟩
  rw [r2.tyE] at rw
  cases (show w' = Value.type T from rw)
  obtain ⟨P, k, p, hx⟩ := ty.kit c r1 I ru
  exact ⟨t, P, k, p, hx, e⟩
theorem isa_O {b : Bool} (ty : TyL C.X.K L x t) (e : PySem.W.kitOne C.X.K t (.ref Cl) = some b) (q : Q (.bl b) L) : LcR C (rIsiA C) [x, .ptr Cl] L Q := fun Z vs H c r QV go => by
  obtain ⟨v, w, rfl, r1, r2⟩ := r.twoE
  unfold rIsiA
  refine ⟨v, w, b, rfl, fun pins σ s u w' I ru rw => ?_, go _ _ H L (.bl _) c (.refl L H) q⟩
  rw [r2.ptrE] at rw
  cases (show w' = Value.ref Cl from rw)
  obtain ⟨P, k, p, hx⟩ := ty.kit c r1 I ru
  exact ⟨t, P, k, p, hx, e⟩
end
end DL
namespace DL
open PySem PySem.Spec PyProof.Rows L2
section
variable {C : DL.Ctx} {Γ : Gm} {L : Lp} {Q : D → Lp → Prop} {x y : D} {t : Value} {Cl g : Addr} {k : Nat} {sp : SpA} {a b e o : Expr} {es : List Expr} {pos p p1 : Pos} {E : AEnds}
/-- the callee runs below the running body -/
theorem run_fnB {A : Around} {pins : List (Addr × Obj)} {σ : L2.St} {Z : Fz} {H : Hp} {s : Shared} {us : List Value} {vs : List V} {ds : List D} {QV : VK} (F : FnA C.X.prog C.X.w C.X.K C.X.mg C.X.base k g sp) (hr : Room k A) (e0 : Env0 C.X.prog C.X.w C.X.K C.X.mg C.X.base A C.X.stack s H) (I : Inv C.X pins σ H s) (ok : Ok C Γ L Z σ H) (r : Vals vs us) (rd : Reps C.X.K Z H vs ds)
    (h : sp ds L Q (C.R Γ)) (go : Go C L Z H Q QV) : codeAny (model C.X.prog C.X.w) A (.call (.ref g) ⟨us, []⟩) (fun r s' => match r with | .ok (.ret v) => EP C.X pins σ QV v s' | .ok _ => False | .error e => C.X.xe e s') s := by
  refine codeAny_mono (F A C.X.stack s H us vs QV (L2.WE C.W σ) hr e0 r ⟨ds, L, Z, Q, C.R Γ, rd, ok.con, h, fun d L' q v H' rv c f => go v d H' L' rv c f q, fun cls fs L' q d H' xd c f => ok.lr.of cls d σ H' Γ L' fs (ok.sl.mono f.mv) c f xd q⟩) fun r s' hq => ?_
  cases r with
  | error e => exact passAt C.tk σ pins H s e s' I hq
  | ok fl =>
    cases fl with
    | ret u => exact I.after hq
    | next => exact False.elim hq
    | brk => exact False.elim hq
    | cont => exact False.elim hq
/-! ### calls of built-ins, the rule chosen late -/
structure CaJ (C : DL.Ctx) (f : Value) (Γ : Gm) (ds : List D) (L : Lp) (Q : D → Lp → Prop) : Prop where
  run : ∀ Z σ H, Ok C Γ L Z σ H → ∀ vs, Reps C.X.K Z H vs ds → ∀ QV, Go C L Z H Q QV → ∀ pins s us, Inv C.X pins σ H s → Vals vs us → wpAny (model C.X.prog C.X.w) C.X.A (call f us) (EP C.X pins σ QV) C.X.xe s
theorem CaJ.of {f : Value} {ds : List D} {r : List V → Hp → VK → Prop} (hc : CallR C.X f r) (h : LcR C r ds L Q) : CaJ C f Γ ds L Q := ⟨fun Z σ H ok vs rd QV go pins s us I r => hc pins s σ H vs us QV I r (h Z vs H ok.con rd QV go)⟩
theorem ae_callBJ {x : Str} {id : String} (hm : C.X.mg x = none) (h : AA C (e :: es) Γ L fun ds L1 => CaJ C (.builtin id) Γ ds L1 Q) (hv : bootBuiltins x = some (.builtin id) := by decide +kernel) (hg : Gl C.X x := by rfl) (hn : x ≠ "__name__" := by decide) (hdb : (x == ("__debug__" : Str)) = false := by decide)
    (he : starEach (e :: es) C.X.env = (false, eval e C.X.env) :: starEach es C.X.env := by rfl) (hpl : (backTo pos (starEach es C.X.env)).any (·.1) = false := by rfl) : AE C (.Call (.Name x p) (e :: es) [] pos) Γ L Q := fun Z σ H ok QV go => ⟨fun pins s I => by
  refine wpAny_Call_Name_kw (ld_blt I hg hm hv ?_ hn hdb)
  refine PyProof.Rows.callWith_builtin1 (thn ((h Z σ H ok (fun vs H1 => ∃ ds L1 Z1, Reps C.X.K Z1 H1 vs ds ∧ C.Con L1 Z1 H1 ∧ Fr L Z H L1 Z1 H1 ∧ CaJ C (.builtin id) Γ ds L1 Q) fun vs ds H1 L1 r1 c1 f1 q1 => ⟨ds, L1, _, r1, c1, f1, q1⟩).run pos pins s I) fun us s1 ⟨vs, H1, I1, r1, ds, L1, Z1, rd, c1, f1, q1⟩ => ?_) he hpl
  exact q1.run Z1 σ H1 (ok.step c1 f1) vs rd QV (go.after f1) pins s1 us I1 r1⟩
theorem ae_lenJ (hm : C.X.mg "len" = none) (h : AE C a Γ L fun x L1 => CaJ C (.builtin "len") Γ [x] L1 Q) (hg : Gl C.X "len" := by rfl) (he : starEach [a] C.X.env = [(false, eval a C.X.env)] := by rfl) : AE C (.Call (.Name "len" p) [a] [] pos) Γ L Q := ae_callBJ hm (aa_cons (h.mono fun x L1 q => aa_nil q) he) (hg := hg) (he := he)
theorem ae_isiJ (hm : C.X.mg "isinstance" = none) (h : AE C a Γ L fun x L1 => AE C b Γ L1 fun y L2 => LcR C (rIsiA C) [x, y] L2 Q) (hg : Gl C.X "isinstance" := by rfl) (he : starEach [a, b] C.X.env = (false, eval a C.X.env) :: starEach [b] C.X.env := by rfl) (he2 : starEach [b] C.X.env = [(false, eval b C.X.env)] := by rfl) (hpl : (backTo pos (starEach [b] C.X.env)).any (·.1) = false := by rfl) : AE C (.Call (.Name "isinstance" p) [a, b] [] pos) Γ L Q :=
  ae_callB call_isA hm (aa_cons (h.mono fun x L1 q => aa_cons (q.mono fun y L2 q2 => aa_nil q2) he2) he) (hg := hg) (he := he) (hpl := hpl)
theorem c_lenO (hs : PySem.W.findIn C.X.K (.ref Cl) "__len__" = some (some (.ref g))) (hf : PySem.W.isFn C.X.K (.ref g) = true) (F : FnA C.X.prog C.X.w C.X.K C.X.mg C.X.base k g sp) (hr : Room (k + 1) C.X.A)
    (ix : IsIns L x Cl) (q : sp [x] L (fun d L' => ∃ n : Nat, d = .int n ∧ n ≤ sizeLine ∧ Q (.int n) L') (C.R Γ)) : CaJ C (.builtin "len") Γ [x] L Q := ⟨fun Z σ H ok vs rd QV go pins s us I r => by
  obtain ⟨vx, rfl, rx⟩ := rd.oneE
  obtain ⟨u, rfl, ru⟩ := r.one
  obtain ⟨a, dx, vs, rfl, st⟩ := ix.slt ok.con rx
  cases (show u = Value.ref a from ru)
  obtain ⟨sl, od, _, J, _⟩ := SlX.slt_inst I st
  obtain ⟨m, hF⟩ := I.fr
  refine PySem.W.len_K hF I.ok.mod.kin J hs hf ?_
  refine wpAny_mono (wpAny_call (run_fnB (us := [.ref a]) (vs := [.ref a]) (QV := fun z H' => ∃ n : Nat, z = .int n ∧ n ≤ sizeLine ∧ QV (.int n) H') F hr.in1 I.env0.in1 I ok (.cons rfl .nil) (.cons rx .nil) q fun v d H' L' r c f ⟨n, ed, hn, q⟩ => ⟨n, by subst ed; exact r.intE, hn, go _ _ H' L' (.int _) c f q⟩)) (fun w s' z => ?_) fun _ _ x => x
  obtain ⟨z', H', I', rz, n, ez, hn, qz⟩ := z
  subst ez
  obtain ⟨tk, rfl⟩ := rz
  refine ⟨⟨Int.natCast_nonneg n, ?_⟩, .int n, H', I'.tok _, ⟨_, rfl⟩, qz⟩
  have : n < 2 ^ 63 := Nat.lt_of_le_of_lt hn (by unfold sizeLine; decide)
  omega⟩
/-! ### subscripts -/
structure SbJ (C : DL.Ctx) (value slice : Expr) (Γ : Gm) (x y : D) (L : Lp) (Q : D → Lp → Prop) : Prop where
  run : ∀ Z σ H, Ok C Γ L Z σ H → ∀ vx vy, Rep C.X.K Z H vx x → Rep C.X.K Z H vy y → ∀ QV, Go C L Z H Q QV → ∀ pins s v u, Inv C.X pins σ H s → RelV vx v → RelV vy u → wpAny (model C.X.prog C.X.w) C.X.A (subscriptTail value slice v u) (EP C.X pins σ QV) C.X.xe s
theorem SbJ.of {r : R2} (hs : PlainIx b) (hr : IxR C.X r) (h : L2R C r x y L Q) : SbJ C a b Γ x y L Q := ⟨fun Z σ H ok vx vy rx ry QV go pins s v u I r1 r2 => hr a b pins s σ H vx vy v u QV I r1 r2 (h Z vx vy H ok.con rx ry QV go) (hs _ _)⟩
theorem ae_sbJ (h : AE C a Γ L fun x L1 => AE C b Γ L1 fun y L2 => SbJ C a b Γ x y L2 Q) : AE C (.Subscript a b pos) Γ L Q := fun Z σ H ok QV go => ⟨fun pins s I => by
  refine Subscript_ ?_
  refine thn ((h Z σ H ok (fun vx H1 => ∃ x L1 Z1, Rep C.X.K Z1 H1 vx x ∧ C.Con L1 Z1 H1 ∧ Fr L Z H L1 Z1 H1 ∧ AE C b Γ L1 fun y L2 => SbJ C a b Γ x y L2 Q) fun v d H' L' r c f q => ⟨d, L', _, r, c, f, q⟩).run pins s I) fun v s1 ⟨vx, H1, I1, r1, x, L1, Z1, rx, c1, f1, q1⟩ => ?_
  refine thn ((q1 Z1 σ H1 (ok.step c1 f1) (fun vy H2 => ∃ y L2 Z2, Rep C.X.K Z2 H2 vy y ∧ C.Con L2 Z2 H2 ∧ Fr L1 Z1 H1 L2 Z2 H2 ∧ SbJ C a b Γ x y L2 Q) fun v d H' L' r c f q => ⟨d, L', _, r, c, f, q⟩).run pins s1 I1) fun u s2 ⟨vy, H2, I2, r2, y, L2, Z2, ry, c2, f2, q2⟩ => ?_
  exact q2.run Z2 σ H2 (ok.step c2 (f1.trans f2)) vx vy (rx.mono f2.mv) ry QV (go.after (f1.trans f2)) pins s2 v u I2 r1 r2⟩
/-- x[y] by the class's own __getitem__ -/
theorem sb_O (hs : PySem.W.findIn C.X.K (.ref Cl) "__getitem__" = some (some (.ref g))) (hfn : PySem.W.fnIn C.X.K g = true) (hf : PySem.W.isFn C.X.K (.ref g) = true) (F : FnA C.X.prog C.X.w C.X.K C.X.mg C.X.base k g sp) (hr : Room (k + 1) C.X.A)
    (ix : IsIns L x Cl) (q : sp [x, y] L Q (C.R Γ)) (hsl : ∀ v u, subscripted b true v u = runValue (.builtin "lifetime.subscript" ⟨[v, u], []⟩) := by exact fun _ _ => by with_unfolding_all rfl) : SbJ C a b Γ x y L Q := ⟨fun Z σ H ok vx vy rx ry QV go pins s v u I r1 r2 => by
  obtain ⟨a', dx, vs, rfl, st⟩ := ix.slt ok.con rx
  cases (show v = Value.ref a' from r1)
  obtain ⟨sl, od, _, J, _⟩ := SlX.slt_inst I st
  obtain ⟨m, hF⟩ := I.fr
  refine PySem.W.sub_K hF I.ok.mod.kin J hs hfn hf ?_ (hsl _ _)
  exact wpAny_call (run_fnB (us := [.ref a', u]) (vs := [.ref a', vy]) F hr.in1 I.env0.in1 I ok (.cons rfl (.cons r2 .nil)) (.cons rx (.cons ry .nil)) q go)⟩
/-! ### o[i] = e -/
structure StJ (C : DL.Ctx) (Γ : Gm) (x i v : D) (L : Lp) (Q : Lp → Prop) : Prop where
  run : ∀ Z σ H, Ok C Γ L Z σ H → ∀ vx vi vv, Rep C.X.K Z H vx x → Rep C.X.K Z H vi i → Rep C.X.K Z H vv v → ∀ QV : Hp → Prop, (∀ {Z'} H' L', C.Con L' Z' H' → Fr L Z H L' Z' H' → Q L' → QV H') → ∀ pins s ux ui uv, Inv C.X pins σ H s → RelV vx ux → RelV vi ui → RelV vv uv →
    wpAny (model C.X.prog C.X.w) C.X.A (setItem ux ui uv) (fun _ s' => ∃ H', Inv C.X pins σ H' s' ∧ QV H') C.X.xe s
theorem as_subJ (h : AE C e Γ L fun v L1 => AE C o Γ L1 fun x L2 => AE C b Γ L2 fun i L3 => StJ C Γ x i v L3 fun L4 => E.nx Γ L4)
    (hs : swapsWith e (some (.Subscript o b p1)) pos.line C.X.env = pure false := by rfl) : AS C (.Assign [.Subscript o b p1] e pos) Γ L E := fun Z σ H ok DD go => ⟨fun pins s I => by
  refine wpAny_Assign_Subscript ?_ hs
  refine thn ((h Z σ H ok (fun vv H1 => ∃ v L1 Z1, Rep C.X.K Z1 H1 vv v ∧ C.Con L1 Z1 H1 ∧ Fr L Z H L1 Z1 H1 ∧ AE C o Γ L1 fun x L2 => AE C b Γ L2 fun i L3 => StJ C Γ x i v L3 fun L4 => E.nx Γ L4) fun v d H' L' r c f q => ⟨d, L', _, r, c, f, q⟩).run pins s I) fun uv s1 ⟨vv, H1, I1, r1, v, L1, Z1, rv, c1, f1, q1⟩ => ?_
  refine thn ((q1 Z1 σ H1 (ok.step c1 f1) (fun vx H2 => ∃ x L2 Z2, Rep C.X.K Z2 H2 vx x ∧ C.Con L2 Z2 H2 ∧ Fr L1 Z1 H1 L2 Z2 H2 ∧ AE C b Γ L2 fun i L3 => StJ C Γ x i v L3 fun L4 => E.nx Γ L4) fun v d H' L' r c f q => ⟨d, L', _, r, c, f, q⟩).run pins s1 I1) fun ux s2 ⟨vx, H2, I2, r2, x, L2, Z2, rx, c2, f2, q2⟩ => ?_
  refine thn ((q2 Z2 σ H2 (ok.step c2 (f1.trans f2)) (fun vi H3 => ∃ i L3 Z3, Rep C.X.K Z3 H3 vi i ∧ C.Con L3 Z3 H3 ∧ Fr L2 Z2 H2 L3 Z3 H3 ∧ StJ C Γ x i v L3 fun L4 => E.nx Γ L4) fun v d H' L' r c f q => ⟨d, L', _, r, c, f, q⟩).run pins s2 I2) fun ui s3 ⟨vi, H3, I3, r3, i, L3, Z3, ri, c3, f3, q3⟩ => ?_
  have f13 := (f1.trans f2).trans f3
  refine thn (q3.run Z3 σ H3 (ok.step c3 f13) vx vi vv (rx.mono f3.mv) ri ((rv.mono f2.mv).mono f3.mv) (fun H4 => DD.nx σ H4) (fun H4 L4 c4 f4 q4 => go.nx σ H4 Γ L4 (ok.step c4 (f13.trans f4)) (f13.trans f4) q4) pins s3 ux ui uv I3 r2 r3 r1) fun _ s4 ⟨H4, I4, q4⟩ => ?_
  exact ⟨σ, H4, I4, q4⟩⟩
theorem st_O {i v : D} {QL : Lp → Prop} (hq : PySem.W.noSeq C.X.K Cl = true) (hs : PySem.W.findIn C.X.K (.ref Cl) "__setitem__" = some (some (.ref g))) (hf : PySem.W.isFn C.X.K (.ref g) = true) (F : FnA C.X.prog C.X.w C.X.K C.X.mg C.X.base k g sp) (hr : Room k C.X.A)
    (ix : IsIns L x Cl) (q : sp [x, i, v] L (fun _ L' => QL L') (C.R Γ)) : StJ C Γ x i v L QL := ⟨fun Z σ H ok vx vi vv rx ri rv QV go pins s ux ui uv I r1 r2 r3 => by
  obtain ⟨a', dx, vs, rfl, st⟩ := ix.slt ok.con rx
  cases (show ux = Value.ref a' from r1)
  obtain ⟨sl, od, _, J, _⟩ := SlX.slt_inst I st
  obtain ⟨m, hF⟩ := I.fr
  refine PySem.W.ksp_setItem hF I.ok.mod.kin J hq hs hf ?_
  refine wpAny_mono (wpAny_call (run_fnA (us := [.ref a', ui, uv]) (vs := [.ref a', vi, vv]) (QV := fun _ H' => QV H') F hr I ok (.cons rfl (.cons r2 (.cons r3 .nil))) (.cons rx (.cons ri (.cons rv .nil))) q fun v d H' L' r c f q => go H' L' c f q)) (fun w s' z => ?_) fun _ _ x => x
  obtain ⟨z', H', I', rz, qz⟩ := z
  exact ⟨H', I', qz⟩⟩
end
end DL
namespace DL
open PySem PySem.Spec PyProof.Rows L2
/-! ### dicts whose keys are nested tuples -/
section
variable {X : Cx} {pins : List (Addr × Obj)} {σ : L2.St} {H : Hp} {s : Shared} {Z : Fz}
mutual
theorem Rep.nst (I : Inv X pins σ H s) : ∀ (d : D) (v : V) (u : Value), okN d = true → Rep X.K Z H v d → RelV v u → NestedIs s.heap (nk d) u
  | .non, _, u, _, r, ru => by
    rw [r.nonE] at ru
    cases (show u = Value.none from ru)
    rw [nk]
    exact .none
  | .bl b, _, u, _, r, ru => by
    rw [r.blE] at ru
    cases (show u = Value.bool b from ru)
    rw [nk]
    exact .bool rfl
  | .int i, _, u, _, r, ru => by
    rw [r.intE] at ru
    obtain ⟨t, rfl⟩ := ru
    rw [nk]
    exact .int i t
  | .str x, _, u, _, r, ru => by
    rw [r.strE] at ru
    obtain ⟨t, rfl⟩ := ru
    rw [nk]
    exact .text x t
  | .tup ds, _, u, h, r, ru => by
    obtain ⟨a, vs, rfl, ha, ra⟩ := r.tupE
    cases (show u = Value.ref a from ru)
    rw [okN] at h
    obtain ⟨its, rv, ⟨o, ho, hc, n, hd⟩, _⟩ := I.tuple (SqT.of ha)
    rw [nk]
    exact .tup ho hc hd (by simpa using Reps.nst I ds vs its h ra rv)
  | .ty _, _, _, h, _, _ => by simp [okN] at h
  | .ptr _, _, _, h, _, _ => by simp [okN] at h
  | .ilst _, _, _, h, _, _ => by simp [okN] at h
  | .obj _ _, _, _, h, _, _ => by simp [okN] at h
  | .flst _, _, _, h, _, _ => by simp [okN] at h
  | .fdct _, _, _, h, _, _ => by simp [okN] at h
  | .kdct _, _, _, h, _, _ => by simp [okN] at h
  | .wds _, _, _, h, _, _ => by simp [okN] at h
theorem Reps.nst (I : Inv X pins σ H s) : ∀ (ds : List D) (vs : List V) (us : List Value), okNs ds = true → Reps X.K Z H vs ds → Vals vs us → NestedAll s.heap (nks ds) us
  | [], _, _, _, .nil, .nil => by rw [nks]; exact .nil
  | d :: ds, _, _, h, .cons r t, .cons ru tu => by
    rw [okNs, Bool.and_eq_true] at h
    rw [nks]
    exact .cons (Rep.nst I d _ _ h.1 r ru) (Reps.nst I ds _ _ h.2 t tu)
end
end
/-- the value under k; the dict with k ↦ d -/
def ndAt (kds : List (D × D)) (k : D) : Option D := (kds.find? fun x => decide (nk x.1 = nk k)).map (·.2)
def ndPut (kds : List (D × D)) (k d : D) : List (D × D) := if (ndAt kds k).isSome = true then kds.map fun x => if nk x.1 = nk k then (x.1, d) else x else kds ++ [(k, d)]
/-- an entry -/
abbrev EnR (K : PySem.W.Frag) (F : Fz) (H : Hp) (x : NestedKey × Addr × Value) (q : D × D) : Prop := x.1 = nk q.1 ∧ okN q.1 = true ∧ (nk q.1).depth ≤ 8 ∧ Rep K F H (.ref x.2.1) q.1 ∧ ∃ v, RelV v x.2.2 ∧ Rep K F H v q.2
theorem enr_at {K : PySem.W.Frag} {F : Fz} {H : Hp} (k : D) : ∀ {xs : List (NestedKey × Addr × Value)} {kds : List (D × D)}, Paired (EnR K F H) xs kds →
    (atKey xs (nk k) = none ∧ ndAt kds k = none) ∨ ∃ p d v, atKey xs (nk k) = some p ∧ ndAt kds k = some d ∧ RelV v p.2 ∧ Rep K F H v d
  | _, _, .nil => .inl ⟨rfl, rfl⟩
  | _, _, .cons (a := x) (b := q) r t => by
    obtain ⟨e, _, _, _, v, rv, rd⟩ := r
    unfold atKey ndAt
    rw [List.find?_cons, List.find?_cons, e]
    by_cases h : nk q.1 = nk k
    · rw [decide_eq_true h]
      exact .inr ⟨x.2, q.2, v, rfl, rfl, rv, rd⟩
    · rw [decide_eq_false h]
      exact enr_at k t
theorem enr_put {K : PySem.W.Frag} {F : Fz} {H : Hp} {k d : D} {b : Addr} {v : V} {u : Value} (hk : okN k = true) (h8 : (nk k).depth ≤ 8) (rk : Rep K F H (.ref b) k) (rv : RelV v u) (rd : Rep K F H v d) {xs : List (NestedKey × Addr × Value)} {kds : List (D × D)} (h : Paired (EnR K F H) xs kds) :
    Paired (EnR K F H) (storedH xs (nk k) b u) (ndPut kds k d) := by
  have key : ∀ {xs : List (NestedKey × Addr × Value)} {kds : List (D × D)}, Paired (EnR K F H) xs kds → Paired (EnR K F H) (xs.map (putAt (nk k) u)) (kds.map fun x => if nk x.1 = nk k then (x.1, d) else x) := by
    intro xs kds h
    induction h with
    | nil => exact .nil
    | @cons x q xs kds r t ih =>
      refine .cons ?_ ih
      obtain ⟨e, h1, h2, h3, h4⟩ := r
      by_cases h : nk q.1 = nk k
      · have e1 : putAt (nk k) u x = (x.1, x.2.1, u) := by unfold putAt; rw [if_pos (e.trans h)]
        have e2 : (if nk q.1 = nk k then (q.1, d) else q) = (q.1, d) := if_pos h
        show EnR K F H (putAt (nk k) u x) (if nk q.1 = nk k then (q.1, d) else q)
        rw [e1, e2]
        exact ⟨e, h1, h2, h3, v, rv, rd⟩
      · have e1 : putAt (nk k) u x = x := by unfold putAt; rw [if_neg (fun z => h (e.symm.trans z))]
        have e2 : (if nk q.1 = nk k then (q.1, d) else q) = q := if_neg h
        show EnR K F H (putAt (nk k) u x) (if nk q.1 = nk k then (q.1, d) else q)
        rw [e1, e2]
        exact ⟨e, h1, h2, h3, h4⟩
  have app : ∀ {xs : List (NestedKey × Addr × Value)} {kds : List (D × D)}, Paired (EnR K F H) xs kds → Paired (EnR K F H) (xs ++ [(nk k, b, u)]) (kds ++ [(k, d)]) := by
    intro xs kds h
    induction h with
    | nil => exact .cons ⟨rfl, hk, h8, rk, v, rv, rd⟩ .nil
    | cons r t ih => exact .cons r ih
  unfold storedH ndPut
  rcases enr_at k h with ⟨e1, e2⟩ | ⟨p, d', v', e1, e2, _⟩
  · rw [e1, e2]
    exact app h
  · rw [e1, e2]
    exact key h
theorem ndPut_len (kds : List (D × D)) (k d : D) : (ndPut kds k d).length ≤ kds.length + 1 := by
  unfold ndPut
  split
  · rw [List.length_map]; omega
  · rw [List.length_append]; exact Nat.le_refl _
section
variable {C : DL.Ctx} {Γ : Gm} {L : Lp} {Q : D → Lp → Prop} {pos : Pos} {kds : List (D × D)} {a : Addr} {k d : D} {Z : Fz} {H : Hp} {pins : List (Addr × Obj)} {σ : L2.St} {s : Shared}
/-- the dict, as the kit tells it -/
theorem nd_heap {xs : List (NestedKey × Addr × Value)} (I : Inv C.X pins σ H s) (e : H a = some (ndO C.X.prog C.X.w a xs)) (r : Paired (EnR C.X.K Z H) xs kds) :
    xs.length ≤ sizeLine ∧ (a == sysModules) = false ∧ s.heap.DictOfH (nestedKind C.X.prog C.X.w) a xs := by
  obtain ⟨⟨h1, h2, o, es, ep, g1, g2, g3, g4, g5⟩, _⟩ := I.hok a _ e
  refine ⟨h1, h2, o, es, ep, g1, g2, g3, g4, fun x hx => ?_, g5⟩
  have key : ∀ {xs : List (NestedKey × Addr × Value)} {kds : List (D × D)}, Paired (EnR C.X.K Z H) xs kds → ∀ x ∈ xs, (nestedKind C.X.prog C.X.w).is s.heap x.1 x.2.1 := by
    intro xs kds h
    induction h with
    | nil => exact fun x hx => nomatch hx
    | cons r t ih =>
      intro x hx
      rcases List.mem_cons.mp hx with rfl | hx
      · obtain ⟨e, h1, h2, h3, _⟩ := r
        rw [e]
        exact ⟨Rep.nst I _ _ _ h1 h3 rfl, h2⟩
      · exact ih x hx
  exact key r x hx
theorem nd_ok {P : Program} {w : World} {H' : Hp} {h' : Heap} {xs : List (NestedKey × Addr × Value)} (hz : xs.length ≤ sizeLine) (hd : (a == sysModules) = false) (h : h'.DictOfH (nestedKind P w) a xs) : ObjOk P w H' h' a (ndO P w a xs) := by
  obtain ⟨o, es, ep, g1, g2, g3, g4, g5, g6⟩ := h
  refine ⟨⟨hz, hd, o, es, ep, g1, g2, g3, g4, g6⟩, ⟨o, g1⟩, fun h1 h2 z kk => ?_⟩
  obtain ⟨z1, z2, o', es', ep', k1, k2, k3, k4, k5⟩ := z
  exact ⟨z1, z2, o', es', ep', kk _ k1, k2, k3, k4, k5⟩
theorem room8 (hu : C.X.A.units + 16 < cLine) : (nestedKind C.X.prog C.X.w).room C.X.A.in1 := by
  show C.X.A.in1.units + 8 < cLine
  have : C.X.A.in1.units ≤ C.X.A.units + 1 := Nat.le_refl _
  omega
theorem tupRef {v : V} {u : Value} (hk : ∃ es, k = .tup es) (r : Rep C.X.K Z H v k) (ru : RelV v u) : ∃ b, v = .ref b ∧ u = .ref b := by
  obtain ⟨es, rfl⟩ := hk
  obtain ⟨b, vs, rfl, _⟩ := r.tupE
  exact ⟨b, rfl, ru⟩
theorem j_inN (hu : C.X.A.units + 16 < cLine) (ha : L a = some (.nd kds)) (ht : ∃ es, k = .tup es) (hk : okN k = true) (h8 : (nk k).depth ≤ 8) (q : Q (.bl (ndAt kds k).isSome) L) : OpJ C (.cmp .In) Γ k (.ptr a) L Q := ⟨fun Z σ H ok vx vy rx ry QV go pins s v u I r1 r2 => by
  obtain ⟨xs, e, rr⟩ := ok.con.at_ a _ ha
  obtain ⟨b, rfl, rfl⟩ := tupRef ht rx r1
  rw [ry.ptrE] at r2
  cases (show u = Value.ref a from r2)
  obtain ⟨hz, hd, hm⟩ := nd_heap I e rr
  have e2 : (atKey xs (nk k)).isSome = (ndAt kds k).isSome := by
    rcases enr_at k rr with ⟨e1, e2⟩ | ⟨p, d, v, e1, e2, _⟩ <;> rw [e1, e2] <;> rfl
  rw [← e2] at q
  exact wpAny_in_heap (room8 hu) ⟨Rep.nst I _ _ _ hk rx rfl, h8⟩ hd hm ⟨.bl _, H, I.tok _, rfl, go _ _ H L (.bl _) ok.con (.refl L H) q⟩⟩
theorem j_ninN (hu : C.X.A.units + 16 < cLine) (ha : L a = some (.nd kds)) (ht : ∃ es, k = .tup es) (hk : okN k = true) (h8 : (nk k).depth ≤ 8) (q : Q (.bl (!(ndAt kds k).isSome)) L) : OpJ C (.cmp .NotIn) Γ k (.ptr a) L Q := ⟨fun Z σ H ok vx vy rx ry QV go pins s v u I r1 r2 => by
  obtain ⟨xs, e, rr⟩ := ok.con.at_ a _ ha
  obtain ⟨b, rfl, rfl⟩ := tupRef ht rx r1
  rw [ry.ptrE] at r2
  cases (show u = Value.ref a from r2)
  obtain ⟨hz, hd, hm⟩ := nd_heap I e rr
  have e2 : (atKey xs (nk k)).isSome = (ndAt kds k).isSome := by
    rcases enr_at k rr with ⟨e1, e2⟩ | ⟨p, d, v, e1, e2, _⟩ <;> rw [e1, e2] <;> rfl
  rw [← e2] at q
  refine notIn_keyed (kvs := pairsH xs) (room8 hu) ⟨Rep.nst I _ _ _ hk rx rfl, h8⟩ hd ⟨xs, hm, rfl⟩ ?_
  rw [valueAt_pairsH, Option.isSome_map]
  exact ⟨.bl _, H, I.tok _, rfl, go _ _ H L (.bl _) ok.con (.refl L H) q⟩⟩
theorem sb_N {va sl : Expr} (hu : C.X.A.units + 16 < cLine) (ha : L a = some (.nd kds)) (ht : ∃ es, k = .tup es) (hk : okN k = true) (h8 : (nk k).depth ≤ 8) (hd : ndAt kds k = some d) (q : Q d L) (hs : PlainIx sl) : SbJ C va sl Γ (.ptr a) k L Q := ⟨fun Z σ H ok vx vy rx ry QV go pins s v u I r1 r2 => by
  obtain ⟨xs, e, rr⟩ := ok.con.at_ a _ ha
  obtain ⟨b, rfl, rfl⟩ := tupRef ht ry r2
  rw [rx.ptrE] at r1
  cases (show v = Value.ref a from r1)
  obtain ⟨hz, hd2, hm⟩ := nd_heap I e rr
  rcases enr_at k rr with ⟨e1, e2⟩ | ⟨p, d', v', e1, e2, rv, rd⟩
  · rw [hd] at e2; cases e2
  · rw [hd] at e2
    cases e2
    exact tail_any hm.typeIs slot_dict_getitem.lookup (wpAny_getItem_heap (room8 hu) ⟨Rep.nst I _ _ _ hk ry rfl, h8⟩ hm e1 ⟨v', H, I.tok _, rv, go _ _ H L rd ok.con (.refl L H) q⟩) (hs _ _)⟩
theorem st_N {QL : Lp → Prop} (hu : C.X.A.units + 16 < cLine) (ha : L a = some (.nd kds)) (ht : ∃ es, k = .tup es) (hk : okN k = true) (h8 : (nk k).depth ≤ 8) (hz : kds.length < sizeLine) (q : QL (put L a (.nd (ndPut kds k d)))) : StJ C Γ (.ptr a) k d L QL := ⟨fun Z σ H ok vx vi vv rx ri rv QV go pins s ux ui uv I r1 r2 r3 => by
  obtain ⟨xs, e, rr⟩ := ok.con.at_ a _ ha
  obtain ⟨b, rfl, rfl⟩ := tupRef ht ri r2
  rw [rx.ptrE] at r1
  cases (show ux = Value.ref a from r1)
  obtain ⟨hz1, hd, hm⟩ := nd_heap I e rr
  have hl : xs.length = kds.length := Paired.length rr
  refine wpAny_setItem_heap (hsz := by omega) (room8 hu) ⟨Rep.nst I _ _ _ hk ri rfl, h8⟩ hm fun h' hm' hs => ?_
  have rr2 := enr_put hk h8 ri r3 rv rr
  have hl2 : (storedH xs (nk k) b uv).length ≤ sizeLine := by
    rw [Paired.length rr2]
    have := ndPut_len kds k d
    omega
  have hx : ∃ q, h'.get? a = some q := let ⟨o, _, _, ho, _⟩ := hm'; ⟨o, ho⟩
  have I2 := d_write (ob := ndO C.X.prog C.X.w a (storedH xs (nk k) b uv)) (t' := s.toks + (nestedKind C.X.prog C.X.w).draws (nk k)) I (by rw [e]; exact True.intro) hs hx (nd_ok hl2 hd hm')
  have f2 : Fr L Z H (put L a (.nd (ndPut kds k d))) Z (upd H a (ndO C.X.prog C.X.w a (storedH xs (nk k) b uv))) := Fr.write ok.con ha
  refine ⟨_, I2, go _ (put L a (.nd (ndPut kds k d))) (ok.con.write (mo' := .nd (ndPut kds k d)) ha ⟨_, upd_same, Paired.mono rr2 fun p q ⟨z1, z2, z3, z4, v, z5, z6⟩ => ⟨z1, z2, z3, z4.mono f2.mv, v, z5, z6.mono f2.mv⟩⟩) f2 q⟩⟩
end
end DL
namespace DL
open PySem PySem.Spec PyProof.Rows L2
mutual
theorem okN_okD : ∀ d : D, okN d = okD d
  | .non => by rw [okN, okD]
  | .bl _ => by rw [okN, okD]
  | .int _ => by rw [okN, okD]
  | .str _ => by rw [okN, okD]
  | .tup ds => by rw [okN, okD, okNs_okDs ds]
  | .ty _ => by simp [okN, okD]
  | .ptr _ => by simp [okN, okD]
  | .ilst _ => by simp [okN, okD]
  | .obj _ _ => by simp [okN, okD]
  | .flst _ => by simp [okN, okD]
  | .fdct _ => by simp [okN, okD]
  | .kdct _ => by simp [okN, okD]
  | .wds _ => by simp [okN, okD]
theorem okNs_okDs : ∀ ds : List D, okNs ds = okDs ds
  | [] => by rw [okNs, okDs]
  | d :: ds => by rw [okNs, okDs, okN_okD d, okNs_okDs ds]
end
section
variable {C : DL.Ctx} {Γ : Gm} {L : Lp} {Q : D → Lp → Prop} {pos : Pos} {kds : List (D × D)} {a : Addr} {k d : D} {ke ve : Expr}
/-- {} -/
theorem ae_nd0 (q : ∀ p, L p = none → Q (.ptr p) (put L p (.nd []))) : AE C (.Dict [] [] pos) Γ L Q := fun Z σ H ok QV go => ⟨fun pins s I => by
  have hn : H s.heap.objs.size = none := I.hok.fresh (Nat.le_refl _)
  have hd : (s.heap.objs.size == sysModules) = false := beq_eq_false_iff_ne.mpr (Ne.symm (Nat.ne_of_lt I.big))
  have I1 : Inv C.X pins σ (upd H s.heap.objs.size (ndO C.X.prog C.X.w s.heap.objs.size [])) { s with heap := s.heap.push { cls := .type "dict", data := .dict #[] }, toks := s.toks } := I.laid (fun _ _ q => Heap.get?_push_of_some _ q) (Nat.le_refl _) (nd_ok (Nat.zero_le _) hd (Heap.DictOfH.new s.heap))
  exact wpAny_Dict_empty ⟨.ref s.heap.objs.size, _, I1, rfl, go _ _ _ (put L s.heap.objs.size (.nd [])) (.ptr _) (ok.con.newL hn ⟨[], upd_same, .nil⟩) (.newL hn) (q _ (ok.con.free hn))⟩⟩
/-- a display of one pair -/
theorem dict_one {prog : Program} {w : World} {A : Around} {E : Value → Shared → Prop} {s : Shared} {env : Env} {Qv : Value → Shared → Prop} (hu : (nestedKind prog w).room A)
    (h : wpAny (model prog w) A (evalPairs [(eval ke env, do let x ← eval ve env; standAt pos; pure x)]) (fun vs s₁ => ∃ ps, CarriesH (nestedKind prog w) s₁.heap vs ps ∧ s₁.heap.DictOfH (nestedKind prog w) s.heap.objs.size [] ∧
      ∀ h' tk, h'.DictOfH (nestedKind prog w) s.heap.objs.size (storedAllH [] ps) → Heap.SameBut s.heap.objs.size s₁.heap h' → Qv (.ref s.heap.objs.size) { s₁ with heap := h', toks := tk }) E
      { s with heap := s.heap.push { cls := .type "dict", data := .dict #[] } }) (hs : (evalEachOpt [some ke] env).zip ((evalEach [ve] env).map fun v => do let x ← v; standAt pos; pure x) = [(some (eval ke env), do let x ← eval ve env; standAt pos; pure x)] := by rfl) :
    wpAny (model prog w) A (eval (.Dict [some ke] [ve] pos) env) Qv E s := by
  have e := dictDisplay_pairs [(eval ke env, (do let x ← eval ve env; standAt pos; pure x : Sem Value))] (by simp) (by show 1 < 17; decide)
  rw [arm_eval_Dict, hs]
  rw [show ([(some (eval ke env), (do let x ← eval ve env; standAt pos; pure x : Sem Value))] : List (Option (Sem Value) × Sem Value)) = [(eval ke env, (do let x ← eval ve env; standAt pos; pure x : Sem Value))].map (fun p => (some p.1, p.2)) from rfl, e]
  refine wpAny_bind (wpAny_standAt (wpAny_bind (wpAny_subDictH (knd := nestedKind prog w) hu (by show 1 ≤ 15; decide) (wpAny_mono h (fun vs s₁ ⟨ps, hc, hm, hq⟩ => ⟨ps, hc, hm, fun h' tk z1 z2 => wpAny_pure (hq h' tk z1 z2)⟩) fun _ _ x => x))))
/-- {k: v} -/
theorem ae_nd1 (hu : C.X.A.units + 16 < cLine) (h : AE C ke Γ L fun k L1 => AE C ve Γ L1 fun d L2 => (∃ es, k = .tup es) ∧ okN k = true ∧ (nk k).depth ≤ 8 ∧ ∀ p, L2 p = none → Q (.ptr p) (put L2 p (.nd [(k, d)])))
    (hs : (evalEachOpt [some ke] C.X.env).zip ((evalEach [ve] C.X.env).map fun v => do let x ← v; standAt pos; pure x) = [(some (eval ke C.X.env), do let x ← eval ve C.X.env; standAt pos; pure x)] := by rfl) : AE C (.Dict [some ke] [ve] pos) Γ L Q := fun Z σ H ok QV go => ⟨fun pins s I => by
  have hn : H s.heap.objs.size = none := I.hok.fresh (Nat.le_refl _)
  have hd : (s.heap.objs.size == sysModules) = false := beq_eq_false_iff_ne.mpr (Ne.symm (Nat.ne_of_lt I.big))
  have I1 : Inv C.X pins σ (upd H s.heap.objs.size (ndO C.X.prog C.X.w s.heap.objs.size [])) { s with heap := s.heap.push { cls := .type "dict", data := .dict #[] }, toks := s.toks } := I.laid (fun _ _ q => Heap.get?_push_of_some _ q) (Nat.le_refl _) (nd_ok (Nat.zero_le _) hd (Heap.DictOfH.new s.heap))
  refine dict_one (room8 (C := C) hu |> fun z => by
    have : C.X.A.units + 8 < cLine := by omega
    exact this) ?_ hs
  have ok1 : Ok C Γ L Z σ (upd H s.heap.objs.size (ndO C.X.prog C.X.w s.heap.objs.size [])) := ok.step (ok.con.new hn) (.new hn)
  refine evalPairs_cons (thn ((h Z σ _ ok1 (fun v G => ∃ k L1 Z1, Rep C.X.K Z1 G v k ∧ C.Con L1 Z1 G ∧ Fr L Z (upd H s.heap.objs.size (ndO C.X.prog C.X.w s.heap.objs.size [])) L1 Z1 G ∧ AE C ve Γ L1 fun d L2 => (∃ es, k = .tup es) ∧ okN k = true ∧ (nk k).depth ≤ 8 ∧ ∀ p, L2 p = none → Q (.ptr p) (put L2 p (.nd [(k, d)]))) fun v d H' L' r c f q => ⟨d, L', _, r, c, f, q⟩).run pins _ I1) fun u1 s1 ⟨v1, G1, J1, r1, k, L1, Z1, rk, c1, f1, q1⟩ => ?_)
  refine wpAny_bind (thn ((q1 Z1 σ G1 (ok1.step c1 f1) (fun v G => ∃ d L2 Z2, Rep C.X.K Z2 G v d ∧ C.Con L2 Z2 G ∧ Fr L1 Z1 G1 L2 Z2 G ∧ (∃ es, k = .tup es) ∧ okN k = true ∧ (nk k).depth ≤ 8 ∧ ∀ p, L2 p = none → Q (.ptr p) (put L2 p (.nd [(k, d)]))) fun v d H' L' r c f q => ⟨d, L', _, r, c, f, q⟩).run pins _ J1) fun u2 s2 ⟨v2, G2, J2, r2, d, L2, Z2, rd, c2, f2, ht, hk, h8, q2⟩ => ?_)
  refine wpAny_bind (wpAny_standAt (wpAny_pure (evalPairs_nil ?_)))
  have rk2 := rk.mono f2.mv
  obtain ⟨b, rfl, rfl⟩ := tupRef ht rk2 r1
  have e2 : G2 s.heap.objs.size = some (ndO C.X.prog C.X.w s.heap.objs.size []) := by
    have nL : L s.heap.objs.size = none := ok.con.free hn
    have g1 := f1.keep _ _ upd_same (fun y z => by unfold ndO at z; cases z) nL
    refine f2.keep _ _ g1 (fun y z => by unfold ndO at z; cases z) ?_
    cases e : L1 s.heap.objs.size with
    | none => rfl
    | some o =>
      rcases f1.dom _ (by rw [e]; simp) with z | z
      · exact absurd nL z
      · rw [upd_same] at z; cases z
  obtain ⟨hz, _, hm⟩ := nd_heap (Z := Z2) (kds := []) J2 e2 .nil
  refine ⟨[(nk k, b, u2)], ⟨rfl, rfl, ⟨Rep.nst J2 _ _ _ hk rk2 rfl, h8⟩, trivial⟩, hm, fun h' tk hm' hs' => ?_⟩
  have hx : ∃ q, h'.get? s.heap.objs.size = some q := let ⟨o, _, _, ho, _⟩ := hm'; ⟨o, ho⟩
  have hm' : h'.DictOfH (nestedKind C.X.prog C.X.w) s.heap.objs.size [(nk k, b, u2)] := hm'
  have I3 := d_write (ob := ndO C.X.prog C.X.w s.heap.objs.size [(nk k, b, u2)]) (t' := tk) J2 (by rw [e2]; exact True.intro) hs' hx (nd_ok (by show 1 ≤ sizeLine; decide) hd hm')
  have n2 : L2 s.heap.objs.size = none := by
    cases e : L2 s.heap.objs.size with
    | none => rfl
    | some o =>
      rcases (f1.trans f2).dom _ (by rw [e]; simp) with z | z
      · exact absurd (ok.con.free hn) z
      · rw [upd_same] at z; cases z
  have nz : ¬ Z2 s.heap.objs.size := fun z => by
    rcases (f1.trans f2).off _ z with y | y | y
    · exact ok.con.nf hn y
    · exact y (ok.con.free hn)
    · rw [upd_same] at y; cases y
  have nx : ∀ {c : Addr} {o : HO}, G2 c = some o → (∀ y, o ≠ ndO C.X.prog C.X.w s.heap.objs.size y) → c ≠ s.heap.objs.size := fun {c o} e n z => by rw [z, e2] at e; exact n _ (Option.some.inj e).symm
  have st : Stay G2 (upd G2 s.heap.objs.size (ndO C.X.prog C.X.w s.heap.objs.size [(nk k, b, u2)])) := ⟨fun c vs e => by rw [upd_ne (nx e fun y z => by unfold ndO at z; cases z)]; exact e, fun c o xs e => by rw [upd_ne (nx e fun y z => by unfold ndO at z; cases z)]; exact e, fun c e => by rw [upd_ne (nx e fun y z => by unfold ndO at z; cases z)]; exact e⟩
  have mv : Mv Z2 G2 Z2 (upd G2 s.heap.objs.size (ndO C.X.prog C.X.w s.heap.objs.size [(nk k, b, u2)])) := ⟨st, fun _ z => z, fun c o z e => by rw [upd_ne (show c ≠ s.heap.objs.size from fun y => nz (by rw [← y]; exact z))]; exact e⟩
  refine ⟨.ref s.heap.objs.size, _, I3, rfl, go (F' := Z2) _ _ _ (put L2 s.heap.objs.size (.nd [(k, d)])) (.ptr _) ⟨fun c o e => ?_, fun c z => ?_⟩ ⟨fun c o e no nL => ?_, fun c z => ?_, ?_, fun c z => ?_, ?_, ?_, ?_⟩ (q2 _ n2)⟩
  · by_cases hc : c = s.heap.objs.size
    · subst hc
      rw [put_same] at e
      cases e
      exact ⟨_, upd_same, .cons ⟨rfl, hk, h8, rk2.mono mv, v2, r2, rd.mono mv⟩ .nil⟩
    · rw [put_ne hc] at e
      exact (c2.at_ c o e).mono mv (upd_ne hc)
  · obtain ⟨z1, o, z2, z3, z4⟩ := c2.fz c z
    have hc : c ≠ s.heap.objs.size := fun y => nz (by rw [← y]; exact z)
    exact ⟨by rw [put_ne hc]; exact z1, o, by rw [upd_ne hc]; exact z2, z3, z4⟩
  · have hc : c ≠ s.heap.objs.size := fun y => by rw [y, hn] at e; cases e
    rw [upd_ne hc]
    exact (f1.trans f2).keep c o (by rw [upd_ne hc]; exact e) no nL
  · exact upd_live ((f1.trans f2).live c (upd_live z))
  · have s0 : Stay H (upd H s.heap.objs.size (ndO C.X.prog C.X.w s.heap.objs.size [])) := (Fr.new (L := L) (F := Z) hn).stay
    exact (s0.trans (f1.trans f2).stay).trans st
  · by_cases hc : c = s.heap.objs.size
    · exact .inr (by rw [hc]; exact hn)
    · rw [put_ne hc] at z
      rcases (f1.trans f2).dom c z with y | y
      · exact .inl y
      · rw [upd_ne hc] at y; exact .inr y
  · exact (f1.trans f2).fz
  · intro c o z e
    have hc : c ≠ s.heap.objs.size := fun y => by rw [y, hn] at e; cases e
    rw [upd_ne hc]
    exact (f1.trans f2).fk c o z (by rw [upd_ne hc]; exact e)
  · intro c z
    rcases (f1.trans f2).off c z with y | y | y
    · exact .inl y
    · exact .inr (.inl y)
    · by_cases hc : c = s.heap.objs.size
      · exact .inr (.inr (by rw [hc]; exact hn))
      · rw [upd_ne hc] at y; exact .inr (.inr y)⟩
end
end DL
namespace DL
open PySem PySem.Spec PyProof.Rows L2
section
variable {C : DL.Ctx} {Γ : Gm} {L : Lp} {Q : D → Lp → Prop} {pos p p2 apos : Pos} {e o ke ve : Expr} {es : List Expr}
/-! ### *e in a display or a call -/
theorem aa_star {Q : List D → Lp → Prop} (h : AE C e Γ L fun d L1 => ∃ xs, (d = .tup xs ∨ LR L1 d xs) ∧ AA C es Γ L1 fun ds L2 => Q (xs ++ ds) L2) (hs : starEach (.Starred e p :: es) C.X.env = (true, eval e C.X.env) :: starEach es C.X.env := by rfl) : AA C (.Starred e p :: es) Γ L Q := fun F σ H ok QV go =>
  wa_of (StX.pa_star pe_we pa_we hs) (h _ σ H ok _ fun v d H1 L1 r c f ⟨xs, hd, q⟩ => by
    rcases hd with rfl | hd
    · obtain ⟨a, vs, rfl, ha, ra⟩ := r.tupE
      exact ⟨a, vs, rfl, .inl (SqT.of ha), q _ σ H1 (ok.step c f) _ fun ws ds H2 L2 r2 c2 f2 q2 => go (vs ++ ws) (xs ++ ds) H2 L2 ((ra.mono f2.mv).append r2) c2 (f.trans f2) q2⟩
    · obtain ⟨a, vs, rfl, ha, ra, _⟩ := hd.at_ c r
      exact ⟨a, vs, rfl, .inr (SqL.of ha), q _ σ H1 (ok.step c f) _ fun ws ds H2 L2 r2 c2 f2 q2 => go (vs ++ ws) (xs ++ ds) H2 L2 ((ra.mono f2.mv).append r2) c2 (f.trans f2) q2⟩)
/-! ### list(range(e)) -/
theorem rgV_ints (n : Int) : rgV 0 n = ((List.range n.toNat).map fun (i : Nat) => (i : Int)).map V.int := by
  unfold rgV
  rw [List.map_map, Int.sub_zero]
  refine List.map_congr_left fun i _ => ?_
  show V.int (0 + (i : Int)) = V.int i
  rw [Int.zero_add]
theorem reps_of_ints {K : PySem.W.Frag} {F : Fz} {H : Hp} : ∀ ns : List Int, Reps K F H (ns.map V.int) (ns.map D.int)
  | [] => .nil
  | n :: ns => .cons (.int n) (reps_of_ints ns)
theorem ae_listRange {x1 : Pos} (hm : C.X.mg "list" = none) (hm2 : C.X.mg "range" = none) (h : AE C e Γ L fun d L1 => ∃ n : Int, d = .int n ∧ 0 ≤ n ∧ n ≤ 16777216 ∧ ∀ p, L1 p = none → Q (.ptr p) (put L1 p (.lst ((List.range n.toNat).map fun (i : Nat) => .int (i : Int)))))
    (hg : Gl C.X "list" := by rfl) (hg2 : Gl C.X "range" := by rfl) (na : starEach [e] C.X.env = (false, eval e C.X.env) :: starEach [] C.X.env := by rfl)
    (nb : starEach [.Call (.Name "range" p2) [e] [] x1] C.X.env = (false, eval (.Call (.Name "range" p2) [e] [] x1) C.X.env) :: starEach [] C.X.env := by rfl) : AE C (.Call (.Name "list" p) [.Call (.Name "range" p2) [e] [] x1] [] pos) Γ L Q := fun F σ H ok QV go =>
  we_of (pe_listRg C.calm hg hm (prg_1 hg2 hm2 pe_we na) nb) (h _ σ H ok _ fun v d H1 L1 r c f ⟨n, ed, h0, h1, q⟩ => by
    subst ed
    refine ⟨n, r.intE, .of_le (Int.le_refl _) h1 (by omega) h0, fun q' hq => ?_⟩
    have e2 : ((List.range n.toNat).map fun (i : Nat) => D.int (i : Int)) = ((List.range n.toNat).map fun (i : Nat) => (i : Int)).map D.int := by rw [List.map_map]; rfl
    refine go _ _ _ (put L1 q' (.lst ((List.range n.toNat).map fun (i : Nat) => .int (i : Int)))) (.ptr q') (c.newL hq ⟨rgV 0 n, upd_same, ?_, ?_⟩) (f.trans (.newL hq)) (q q' (c.free hq))
    · rw [rgV_ints, e2]
      exact reps_of_ints _
    · rw [List.length_map, List.length_range, sl_eq]
      omega)
/-! ### dicts whose keys are ints and texts -/
def valK (kds : List (Key × D)) (k : Key) : Option D := (kds.find? fun kv => decide (kv.1 = k)).map (·.2)
def putKD (kds : List (Key × D)) (k : Key) (v : D) : List (Key × D) :=
  if kds.any (fun kv => decide (kv.1 = k)) then kds.map fun kv => if kv.1 = k then (kv.1, v) else kv else kds ++ [(k, v)]
abbrev KKs (K : PySem.W.Frag) (F : Fz) (H : Hp) : List (Key × V) → List (Key × D) → Prop := Paired fun p q => p.1 = q.1 ∧ Rep K F H p.2 q.2
theorem KKs.val {K : PySem.W.Frag} {F : Fz} {H : Hp} {kvs : List (Key × V)} {kds : List (Key × D)} (r : KKs K F H kvs kds) (k : Key) :
    (valV kvs k = none ∧ valK kds k = none) ∨ ∃ v d, valV kvs k = some v ∧ valK kds k = some d ∧ Rep K F H v d := by
  induction r with
  | nil => exact .inl ⟨rfl, rfl⟩
  | @cons p q ps qs h t ih =>
    obtain ⟨h1, h2⟩ := h
    by_cases e : p.1 = k
    · refine .inr ⟨p.2, q.2, valV_pos e, ?_, h2⟩
      unfold valK
      rw [List.find?_cons_of_pos (by simpa using h1.symm.trans e)]
      rfl
    · have e2 : valK (q :: qs) k = valK qs k := by
        unfold valK
        rw [List.find?_cons_of_neg (by simpa using fun z => e (h1.trans z))]
      rw [valV_neg e, e2]
      exact ih
theorem KKs.put {K : PySem.W.Frag} {F : Fz} {H : Hp} {kvs : List (Key × V)} {kds : List (Key × D)} (r : KKs K F H kvs kds) (k : Key) {v : V} {d : D} (rv : Rep K F H v d) : KKs K F H (putK kvs k v) (putKD kds k d) := by
  have ea : (kvs.any fun kv => decide (kv.1 = k)) = kds.any fun kv => decide (kv.1 = k) := by
    induction r with
    | nil => rfl
    | @cons p q ps qs h t ih => rw [List.any_cons, List.any_cons, ih, h.1]
  have k1 : ∀ {kvs : List (Key × V)} {kds : List (Key × D)}, KKs K F H kvs kds → KKs K F H (kvs.map fun kv => if kv.1 = k then (kv.1, v) else kv) (kds.map fun kv => if kv.1 = k then (kv.1, d) else kv) := by
    intro kvs kds r
    induction r with
    | nil => exact .nil
    | @cons p q ps qs h t ih =>
      rw [List.map_cons, List.map_cons]
      refine .cons ?_ ih
      by_cases e : p.1 = k
      · rw [if_pos e, if_pos (h.1.symm.trans e)]
        exact ⟨h.1, rv⟩
      · rw [if_neg e, if_neg (fun z => e (h.1.trans z))]
        exact h
  have k2 : ∀ {kvs : List (Key × V)} {kds : List (Key × D)}, KKs K F H kvs kds → KKs K F H (kvs ++ [(k, v)]) (kds ++ [(k, d)]) := by
    intro kvs kds r
    induction r with
    | nil => exact .cons ⟨rfl, rv⟩ .nil
    | cons h t ih => exact .cons h ih
  unfold putK putKD
  rw [ea]
  split
  · exact k1 r
  · exact k2 r
theorem KKs.mono {K : PySem.W.Frag} {F F' : Fz} {H H' : Hp} {kvs : List (Key × V)} {kds : List (Key × D)} (s : Mv F H F' H') (r : KKs K F H kvs kds) : KKs K F' H' kvs kds := Paired.mono r fun _ _ z => ⟨z.1, z.2.mono s⟩
theorem KKs.len {K : PySem.W.Frag} {F : Fz} {H : Hp} {kvs : List (Key × V)} {kds : List (Key × D)} (r : KKs K F H kvs kds) : kvs.length = kds.length := Paired.length r
theorem valK_put (kds : List (Key × D)) (k j : Key) (y : D) : valK (putKD kds k y) j = if j = k then some y else valK kds j := by
  have hmap : ∀ kds : List (Key × D), valK (kds.map fun kv => if kv.1 = k then (kv.1, y) else kv) j = (valK kds j).map fun x => if j = k then y else x := by
    intro kds
    induction kds with
    | nil => rfl
    | cons q qs ih =>
      unfold valK at ih ⊢
      rw [List.map_cons]
      by_cases e : q.1 = k
      · rw [if_pos e]
        by_cases e2 : q.1 = j
        · rw [List.find?_cons_of_pos (by simpa using e2), List.find?_cons_of_pos (by simpa using e2)]
          simp [e2 ▸ e]
        · rw [List.find?_cons_of_neg (by simpa using e2), List.find?_cons_of_neg (by simpa using e2)]
          exact ih
      · rw [if_neg e]
        by_cases e2 : q.1 = j
        · rw [List.find?_cons_of_pos (by simpa using e2), List.find?_cons_of_pos (by simpa using e2)]
          simp [show ¬ j = k from fun z => e (e2.trans z)]
        · rw [List.find?_cons_of_neg (by simpa using e2), List.find?_cons_of_neg (by simpa using e2)]
          exact ih
  have hany : ∀ kds : List (Key × D), (kds.any fun kv => decide (kv.1 = k)) = (valK kds k).isSome := by
    intro kds
    induction kds with
    | nil => rfl
    | cons q qs ih =>
      unfold valK at ih ⊢
      rw [List.any_cons, ih]
      by_cases e : q.1 = k
      · rw [List.find?_cons_of_pos (by simpa using e)]
        simp [e]
      · rw [List.find?_cons_of_neg (by simpa using e)]
        simp [e]
  unfold putKD
  rw [hany]
  by_cases e : j = k
  · subst e
    rw [if_pos rfl]
    by_cases hs : (valK kds j).isSome = true
    · rw [if_pos hs, hmap]
      obtain ⟨z, ez⟩ := Option.isSome_iff_exists.mp hs
      rw [ez]
      simp
    · rw [if_neg hs]
      unfold valK at hs ⊢
      rw [List.find?_append]
      have : (kds.find? fun kv => decide (kv.1 = j)) = none := by
        cases ez : kds.find? fun kv => decide (kv.1 = j) with
        | none => rfl
        | some z => rw [ez] at hs; simp at hs
      rw [this]
      simp
  · rw [if_neg e]
    by_cases hs : (valK kds k).isSome = true
    · rw [if_pos hs, hmap]
      cases valK kds j <;> simp [e]
    · rw [if_neg hs]
      unfold valK
      rw [List.find?_append]
      cases kds.find? fun kv => decide (kv.1 = j) with
      | none => simp [show ¬ k = j from fun z => e z.symm]
      | some z => rfl
theorem putKD_len (kds : List (Key × D)) (k : Key) (v : D) : (putKD kds k v).length ≤ kds.length + 1 := by
  unfold putKD
  split
  · rw [List.length_map]; omega
  · rw [List.length_append]; exact Nat.le_refl _
variable {kds : List (Key × D)} {a : Addr} {k : Key} {d : D}
theorem keyD_kV {K : PySem.W.Frag} {F : Fz} {H : Hp} {v : V} (r : Rep K F H v (keyD k)) : v = kV k := by
  cases k with
  | inl i => exact r.intE
  | inr x => exact r.strE
theorem kd_get {F : Fz} {H : Hp} (c : C.Con L F H) (ha : L a = some (.kd kds)) : ∃ kvs, H a = some (.dK kvs) ∧ KKs C.X.K F H kvs kds := c.at_ a _ ha
theorem j_inK (hu : C.X.A.units + 1 < cLine) (ha : L a = some (.kd kds)) (q : Q (.bl (valK kds k).isSome) L) : OpJ C (.cmp .In) Γ (keyD k) (.ptr a) L Q := ⟨fun Z σ H ok vx vy rx ry QV go pins s v u I r1 r2 => by
  obtain ⟨kvs, e, rr⟩ := kd_get ok.con ha
  rw [ry.ptrE] at r2
  cases (show u = Value.ref a from r2)
  rw [keyD_kV rx] at r1
  refine d_in hu I (.k e) r1 fun s' I' => ?_
  have e2 : (valV kvs k).isSome = (valK kds k).isSome := by rcases rr.val k with ⟨h1, h2⟩ | ⟨_, _, h1, h2, _⟩ <;> rw [h1, h2] <;> rfl
  exact ⟨.bl _, H, I', rfl, by rw [e2]; exact go _ _ H L (.bl _) ok.con (.refl L H) q⟩⟩
theorem j_ninK (hu : C.X.A.units + 1 < cLine) (ha : L a = some (.kd kds)) (q : Q (.bl (!(valK kds k).isSome)) L) : OpJ C (.cmp .NotIn) Γ (keyD k) (.ptr a) L Q := ⟨fun Z σ H ok vx vy rx ry QV go pins s v u I r1 r2 => by
  obtain ⟨kvs, e, rr⟩ := kd_get ok.con ha
  rw [ry.ptrE] at r2
  cases (show u = Value.ref a from r2)
  rw [keyD_kV rx] at r1
  refine d_notIn hu I (.k e) r1 fun s' I' => ?_
  have e2 : (valV kvs k).isSome = (valK kds k).isSome := by rcases rr.val k with ⟨h1, h2⟩ | ⟨_, _, h1, h2, _⟩ <;> rw [h1, h2] <;> rfl
  exact ⟨.bl _, H, I', rfl, by rw [e2]; exact go _ _ H L (.bl _) ok.con (.refl L H) q⟩⟩
theorem sb_K {va sl : Expr} (hu : C.X.A.units + 1 < cLine) (ha : L a = some (.kd kds)) (hd : valK kds k = some d) (q : Q d L) (hs : PlainIx sl) : SbJ C va sl Γ (.ptr a) (keyD k) L Q := ⟨fun Z σ H ok vx vy rx ry QV go pins s v u I r1 r2 => by
  obtain ⟨kvs, e, rr⟩ := kd_get ok.con ha
  rw [rx.ptrE] at r1
  cases (show v = Value.ref a from r1)
  rw [keyD_kV ry] at r2
  rcases rr.val k with ⟨h1, h2⟩ | ⟨v', d', h1, h2, rv⟩
  · rw [hd] at h2; cases h2
  · rw [hd] at h2
    cases h2
    refine tail_any (dict_typeIs I (.k (k := k) e)) slot_dict_getitem.lookup (d_getItem hu I (v := v') (by rw [← h1]; exact .k e) r2 fun w s' I' rw' => ⟨v', H, I', rw', go _ _ H L rv ok.con (.refl L H) q⟩) (hs _ _)⟩
theorem st_K {QL : Lp → Prop} (hu : C.X.A.units + 1 < cLine) (ha : L a = some (.kd kds)) (hz : kds.length < sizeLine) (q : QL (put L a (.kd (putKD kds k d)))) : StJ C Γ (.ptr a) (keyD k) d L QL := ⟨fun Z σ H ok vx vi vv rx ri rv QV go pins s ux ui uv I r1 r2 r3 => by
  obtain ⟨kvs, e, rr⟩ := kd_get ok.con ha
  rw [rx.ptrE] at r1
  cases (show ux = Value.ref a from r1)
  rw [keyD_kV ri] at r2
  have s := Mv.write (o := .dK (putK kvs k vv)) ok.con ha
  refine d_setItem hu I (.k e (by rw [rr.len]; exact hz)) r2 r3 fun s' I' => ⟨_, I', go _ (put L a (.kd (putKD kds k d))) (ok.con.write ha ⟨_, upd_same, (rr.put k rv).mono s⟩) (.write ok.con ha) q⟩⟩
/-- {k: v} -/
theorem ae_kdI (h : AE C ke Γ L fun x L1 => ∃ k, x = keyD k ∧ AE C ve Γ L1 fun d L2 => ∀ p, L2 p = none → Q (.ptr p) (put L2 p (.kd [(k, d)])))
    (hp : PPs C.X pos [some ke] [ve] [(WE C.X ke, WE C.X ve)] := by exact pps_cons pe_we pe_we pps_nil) : AE C (.Dict [some ke] [ve] pos) Γ L Q := fun Z σ H ok QV go =>
  we_of (pe_disp hp rfl rfl (by simp) (by show 1 ≤ 15; decide)) fun q hq => by
    have ok1 : Ok C Γ L Z σ (upd H q (.dK [])) := ok.step (ok.con.new hq) (.new hq)
    have keep : ∀ {Z' Z2 : Fz} {L' L2 : Lp} {H1 H2 : Hp}, Fr L Z (upd H q (.dK [])) L' Z' H1 → Fr L' Z' H1 L2 Z2 H2 → H2 q = some (.dK []) ∧ L2 q = none ∧ ¬ Z2 q := fun {Z' Z2 L' L2 H1 H2} f1 f2 => by
      have nL : L q = none := ok.con.free hq
      have f := f1.trans f2
      refine ⟨f.keep _ _ upd_same (fun y z => nomatch z) nL, ?_, fun z => ?_⟩
      · cases e : L2 q with
        | none => rfl
        | some o =>
          rcases f.dom _ (by rw [e]; simp) with z | z
          · exact absurd nL z
          · rw [upd_same] at z; cases z
      · rcases f.off _ z with z | z | z
        · exact ok.con.nf hq z
        · exact z nL
        · rw [upd_same] at z; cases z
    show (WE C.X ke) σ _ _
    refine h _ σ _ ok1 _ fun vk x H1 L1 r1 c1 f1 ⟨k, ex, q1⟩ => ?_
    subst ex
    refine q1 _ σ H1 (ok1.step c1 f1) _ fun {Z2} vd d H2 L2 r2 c2 f2 q2 => ?_
    obtain ⟨g1, g2, g3⟩ := keep f1 f2
    refine ⟨g1, [(k, vd)], by rw [keyD_kV r1]; rfl, by show 1 ≤ 15; decide, ?_⟩
    have em : mergeK [] [(k, vd)] = [(k, vd)] := rfl
    rw [em]
    have st : Stay H2 (upd H2 q (.dK [(k, vd)])) := ⟨fun b vs e => by rw [upd_ne (fun z => by rw [z, g1] at e; cases e)]; exact e, fun b ob u e => by rw [upd_ne (fun z => by rw [z, g1] at e; cases e)]; exact e, fun b e => by rw [upd_ne (fun z => by rw [z, g1] at e; cases e)]; exact e⟩
    have mv : Mv Z2 H2 Z2 (upd H2 q (.dK [(k, vd)])) := ⟨st, fun _ z => z, fun b o z e => by rw [upd_ne (fun y => by rw [y] at z; exact g3 z)]; exact e⟩
    have cc : C.Con (put L2 q (.kd [(k, d)])) Z2 (upd H2 q (.dK [(k, vd)])) := ⟨fun b o e => by
      by_cases eb : b = q
      · subst eb
        rw [put_same] at e
        cases e
        exact ⟨_, upd_same, .cons ⟨rfl, r2.mono mv⟩ .nil⟩
      · rw [put_ne eb] at e
        exact (c2.at_ b o e).mono mv (upd_ne eb), fun b z => by
      have eb : b ≠ q := fun y => by rw [y] at z; exact g3 z
      rw [put_ne eb, upd_ne eb]
      exact c2.fz b z⟩
    have ff : Fr L Z H (put L2 q (.kd [(k, d)])) Z2 (upd H2 q (.dK [(k, vd)])) := by
      have f0 : Fr L Z H L Z (upd H q (.dK [])) := .new hq
      have f := f0.trans (f1.trans f2)
      refine ⟨fun b o e n1 n2 => ?_, fun b z => upd_live (f.live b z), f.stay.trans st, fun b z => ?_, f.fz, fun b o z e => ?_, f.off⟩
      · rw [upd_ne (fun z => by rw [z, hq] at e; cases e)]
        exact f.keep b o e n1 n2
      · by_cases eb : b = q
        · exact .inr (by rw [eb]; exact hq)
        · rw [put_ne eb] at z
          exact f.dom b z
      · rw [upd_ne (fun y => by rw [y, hq] at e; cases e)]
        exact f.fk b o z e
    exact go _ _ _ _ (.ptr q) cc ff (q2 q g2)
end
end DL
namespace DL
open PySem PySem.Spec PyProof.Rows L2
section
variable {C : DL.Ctx} {Γ : Gm} {L : Lp} {e e2 : Expr} {pos : Pos}
theorem itzF_is {x y : Addr} {vs us : List V} {xs ys : List D} {L0 : Lp} {F0 : Fz} {H0 : Hp} (fx : F0 x) (fy : F0 y) (hx : H0 x = some (.lst vs)) (hy : H0 y = some (.lst us)) (rx : Reps C.X.K F0 H0 vs xs) (ry : Reps C.X.K F0 H0 us ys) : IsIt C (L2.Itz C.X.K x y) (zipD xs ys) (fun _ => True) L0 F0 H0 := by
  intro F i H L s cc g
  have hx' : SqL C.X.K H x vs := SqL.of (s.fk _ _ fx hx)
  have hy' : SqL C.X.K H y us := SqL.of (s.fk _ _ fy hy)
  have hl : (zipD xs ys).length = min xs.length ys.length := by unfold zipD; simp
  have l1 := rx.length
  have l2 := ry.length
  rw [hl]
  refine ⟨fun h => ?_, fun h => ⟨vs, us, hx', hy', ?_⟩, fun v H' yy hi => ?_⟩
  · have h1 : i < vs.length := by rw [l1]; exact Nat.lt_of_lt_of_le h (Nat.min_le_left _ _)
    have h2 : i < us.length := by rw [l2]; exact Nat.lt_of_lt_of_le h (Nat.min_le_right _ _)
    exact ⟨vs, us, vs[i], us[i], hx', hy', List.getElem?_eq_getElem h1, List.getElem?_eq_getElem h2⟩
  · omega
  · obtain ⟨T, x1, y1, e1, nT, e2, k1, k2⟩ := yy
    subst e1 e2
    obtain ⟨d1, g1, q1⟩ := rx.getV (k1 vs hx')
    obtain ⟨d2, g2, q2⟩ := ry.getV (k2 us hy')
    have s2 : Mv F0 H0 F (upd H T (.tup [x1, y1])) := s.mv.trans (.new nT)
    refine ⟨.tup [d1, d2], ?_, Rep.tupI upd_same (.cons (q1.mono s2) (.cons (q2.mono s2) .nil)) (by show 2 ≤ sizeLine; decide), .inr ⟨T, _, nT, rfl⟩⟩
    unfold zipD
    rw [List.getElem?_zipWith, g1, g2]
/-- zip of two frozen lists -/
theorem ai_zipF {p tpos : Pos} {elts : List Expr} {kk : Nat} {R : List D → (Lp → Prop) → Lp → Prop} (hm : C.X.mg "zip" = none) (h : AA C [e, e2] Γ L fun ds L1 => ∃ xs ys, ds = [.flst xs, .flst ys] ∧ R (zipD xs ys) (fun _ => True) L1) (hg : Gl C.X "zip" := by rfl)
    (hs : starEach [e, e2] C.X.env = (false, eval e C.X.env) :: starEach [e2] C.X.env := by rfl) (hpl : (backTo pos (starEach [e2] C.X.env)).any (·.1) = false := by rfl) : AI C (.Tuple elts kk tpos) (.Call (.Name "zip" p) [e, e2] [] pos) Γ L R := fun F σ H ok RV go =>
  wi_of (RZ.pi_zipA hg hm pa_we hs hpl) (h _ σ H ok _ fun vs ds H1 L1 r c f ⟨xs, ys, ed, q⟩ => by
    subst ed
    obtain ⟨v, w, rfl, r1, r2⟩ := r.twoE
    cases r1 with
    | @flst x vx _ hl ha hzz hn hi =>
      cases r2 with
      | @flst y vy _ hl2 ha2 hzz2 hn2 hi2 =>
        exact ⟨x, y, vx, vy, rfl, .inl ⟨SqL.of ha, SqL.of ha2, go _ H1 L1 _ _ c f (itzF_is hl hl2 ha ha2 (Reps.of_get hn hi) (Reps.of_get hn2 hi2)) q⟩⟩)
/-- a name's value is frozen, between two statements -/
theorem ass_frz (n : Nat) {d d' : D} {L' : Lp} {st : List Stmt} {E : AEnds} (hn : Γ[n]? = some (some d)) (z : Frz C L d L' d') (h : ASs C st (Γ.set n (some d')) L' E) : ASs C st Γ L E := fun F σ H ok DD go => ⟨fun pins s I => by
  obtain ⟨v, hv, rv⟩ := ok.sl.get n d hn
  obtain ⟨F', H', I', r', c', f'⟩ := z pins σ s F H v I ok.con rv
  have sl : Sl C.X.K F' H' σ (Γ.set n (some d')) := by
    have := (ok.sl.mono f'.mv).set n r'
    rwa [show σ.set n (some v) = σ from by
      apply List.ext_getElem?
      intro j
      by_cases e : j = n
      · subst e
        rw [hv, List.getElem?_set_self (List.getElem?_eq_some_iff.mp hv).1]
      · rw [List.getElem?_set_ne (Ne.symm e)]] at this
  exact (h F' σ H' ⟨sl, c', ok.lr.step f'⟩ DD (go.after f')).run pins s I'⟩
/-- y = [elt for x in iter], each item alone -/
theorem as_setMap (n i : Nat) {E : AEnds} {x y : Str} {px py spos : Pos} {scope : Scope} {elt iter : Expr}
    (h : AI C (.Name x px) iter Γ L fun ds G L1 => ∃ (α : Type) (xs : List α) (g f : α → D), ds = xs.map g ∧ G L1 ∧ ds.length ≤ sizeLine ∧ (∀ y ∈ xs, ∀ s H Cc cl fp, AV (bctx C scope s H Cc cl fp) elt ((wipeG Γ [i]).set i (some (g y))) L1 (f y)) ∧ ∀ p, L1 p = none → E.nx (Γ.set n (some (.ptr p))) (put L1 p (.lst (xs.map f))))
    (hag : ∀ s H Cc cl fp d Γ, AG (bctx C scope s H Cc cl fp) (.Name x px) d Γ (Γ.set i (some d)) [i] := by (intro _ _ _ _ _ _ _; exact ag_name _))
    (hy : C.X.N[n]? = some y := by rfl) (hyl : C.X.env.scope.names.lookup y = some .local := by rfl) (hsw : swapsWith (.ListComp elt [⟨.Name x px, iter, [], 0⟩] scope pos) (some (.Name y py)) spos.line C.X.env = pure true := by exact sw_true rfl rfl rfl (by decide +kernel))
    (ok : BlkOk C.X.N C.X.env.scope scope [(x, i)] := by (dsimp only [fctx, bctx, cxOf, envOfC, compEnvC, Cx.blk]; exact blkOk_by (by decide +kernel))) (hs : ∀ x, foldedSetIterable iter C.X.env x = pure x := by intro _; rfl) : AS C (.Assign [.Name y py] (.ListComp elt [⟨.Name x px, iter, [], 0⟩] scope pos) spos) Γ L E :=
  as_setLc n [(x, i)] (fun F σ H okk RV go => h F σ H okk RV fun J H' L' ds G c f it ⟨α, xs, g, f', e, hG, hz, hf, q⟩ => by
    subst e
    rw [List.length_map] at hz
    exact go J H' L' _ G c f it (lc_pure (R := fun acc L2 => ∀ p, L2 p = none → E.nx (Γ.set n (some (.ptr p))) (put L2 p (.lst acc))) (t := fun _ => true) hG hz (fun j hj => hj) (fun y hy s H Cc cl fp => ⟨hag s H Cc cl fp _ _, fun Q q => ats_nil q, fun _ => hf y hy s H Cc cl fp⟩) (by rw [List.filter_eq_self.mpr fun _ _ => rfl]; exact q))) hy hyl hsw ok hs
end
end DL
namespace DL
open PySem PySem.Spec PyProof.Rows L2
/-! ### d.items(), the keys tuples, the dict locked -/
def Itit (t : Addr) (od : Obj) (kvs : List (List Key × V)) : It :=
  ⟨fun n G => G t = some (.frz od (.dT kvs)) ∧ n < kvs.length, fun n G x G' => ∃ T k v c, kvs[n]? = some (k, v) ∧ x = .ref T ∧ G T = none ∧ G c = some (.tup (k.map kV)) ∧ G' = upd G T (.tup [.ref c, v]), fun n G => G t = some (.frz od (.dT kvs)) ∧ kvs.length ≤ n⟩
/-- a locked dict, as its entries stand -/
theorem raw_at {X : Cx} {pins : List (Addr × Obj)} {σ : L2.St} {G : Hp} {s : Shared} {t : Addr} {od : Obj} {kvs : List (List Key × V)} (I : Inv X pins σ G s) (h : G t = some (.frz od (.dT kvs))) :
    ∃ es ep, od.data = .dict es ep ∧ s.heap.DictRaw t es ep ∧ (t == sysModules) = false ∧ s.TypeIs (.ref t) "dict" ∧ es.size = kvs.length ∧ ∀ n k v, kvs[n]? = some (k, v) → ∃ (hn : n < es.size) (c : Addr), es[n].key = .ref c ∧ G c = some (.tup (k.map kV)) ∧ RelV v es[n].val := by
  obtain ⟨hd, z, hs, xs, pr, o', es, ep, ho, hx, hdt, he, _⟩ := I.hok t _ h
  rw [hd] at ho
  cases ho
  have l1 : es.size = xs.length := size_of_entries he
  have l2 : kvs.length = xs.length := Paired.length pr
  refine ⟨es, ep, hdt, ⟨od, hd, hx, hdt⟩, hs, ⟨od, hd, hx.1⟩, by omega, fun n k v e => ?_⟩
  obtain ⟨b, hb, e1, e2, e3⟩ := paired_get pr e
  have hn : n < es.size := by rw [l1]; exact (List.getElem?_eq_some_iff.mp hb).1
  have q := entry_at he n
  rw [hb, Array.getElem?_eq_getElem hn] at q
  have q := Option.some.inj q
  exact ⟨hn, b.2.1, by rw [q]; rfl, e2, by rw [q]; exact e3⟩
theorem turn_itT {P : Program} {w : World} {K : PySem.W.Frag} {t : Addr} {od : Obj} {es : Array DictEntry} {ep : Nat} {kvs : List (List Key × V)} {elts : List Expr} {kk : Nat} {tpos : Pos} (it : Addr) (hod : od.data = .dict es ep) :
    Turn P w K (.Tuple elts kk tpos) (Itit t od kvs) [it] it (fun n h => ∃ ok ov, IsItemIter h it t n kvs.length ep ok ov) where
  mem := List.mem_cons_self
  obj := fun n h ⟨ok, ov, e⟩ b hb => by
    rw [List.mem_singleton.mp hb]
    exact ⟨_, e, fun v z => nomatch z⟩
  keep := fun n h h' ⟨ok, ov, e⟩ k => ⟨ok, ov, k it List.mem_cons_self _ e⟩
  item := by
    intro X hP hw hK hc n pins s σ G E I hf ⟨ok, ov, hit⟩ ⟨hd, hn⟩
    subst hP hw hK
    obtain ⟨es', ep', hdt, raw, _, _, hsz, ent⟩ := raw_at I hd
    rw [hod] at hdt
    cases hdt
    obtain ⟨⟨k, v⟩, hkv⟩ : ∃ p, kvs[n]? = some p := ⟨kvs[n], List.getElem?_eq_getElem hn⟩
    obtain ⟨hn2, c, e1, e2, e3⟩ := ent n k v hkv
    rw [← hsz] at hit
    have hlt : it < s.heap.objs.size := Heap.lt_size hit
    refine PySem.wpAny_pyNext_items_item_raw hit raw hn2 fun h' ho hT hz hk => ?_
    refine ⟨_, rfl, wpAny_letOwnedTupleGo_items (s := { s with heap := h' }) ho fun h2 he' sb => ?_⟩
    have hT2 : h2.get? s.heap.objs.size = some { cls := .type "tuple", data := .seq #[es[n].key, es[n].val] } := (sb.2 _ (Nat.ne_of_gt hlt)).trans hT
    have new : ObjOk X.prog X.w (upd G s.heap.objs.size (.tup [.ref c, v])) h2 s.heap.objs.size (.tup [.ref c, v]) := ⟨by show 2 ≤ sizeLine; decide, [es[n].key, es[n].val], .cons e1 (.cons e3 .nil), ⟨_, hT2, rfl, _, rfl⟩⟩
    have J := I.turnedNew (t' := s.toks) (ch := [it]) (fun b ob hb e => (sb.2 b (by simpa using hb)).trans (hk b ob (by simpa using hb) e)) hf (Nat.le_refl _) new
    refine ⟨.ref s.heap.objs.size, _, J, rfl, ⟨_, k, v, c, hkv, rfl, I.hok.fresh (Nat.le_refl _), e2, rfl⟩, ⟨es[n].key, es[n].val, by rw [← hsz]; exact he'⟩, fun b hb => ?_⟩
    rw [List.mem_singleton.mp hb, upd_ne (Nat.ne_of_lt hlt)]
    exact (hf it List.mem_cons_self).1
  done := by
    intro X hP hw hK hc n pins s σ G E I hf ⟨ok, ov, hit⟩ ⟨hd, hn⟩
    subst hP hw hK
    obtain ⟨f0, f1, f2, f3, f4, f5⟩ := hf it List.mem_cons_self
    obtain ⟨es', ep', hdt, raw, _, _, hsz, ent⟩ := raw_at I hd
    rw [hod] at hdt
    cases hdt
    rw [← hsz] at hit
    exact PySem.wpAny_pyNext_items_end_raw (I.ok.hd hc) hit raw (by omega) fun h' eb => ⟨rfl, I.turned (t' := s.toks) (fun b ob hb e => eb b ob hb e) f0 f1 f3 f4 f5⟩
  self := fun A n s Q E ⟨_, _, e⟩ h => PySem.W.kcp_self e h
end DL
namespace DL
open PySem PySem.Spec PyProof.Rows L2
/-! ### {elt for tg in iter for tg1 in iter1}, texts -/
abbrev sX (elt t0 i0 t1 i1 : Expr) (scope : Scope) (pos : Pos) : Expr := .SetComp elt [⟨t0, i0, [], 0⟩, ⟨t1, i1, [], 0⟩] scope pos
theorem sx_out (elt t0 i0 t1 i1 : Expr) (scope : Scope) (pos : Pos) (it acc : Value) (env : Env) :
    compTurn (sX elt t0 i0 t1 i1 scope pos) 0 it acc env = (do
      standAt i0.pos
      match ← pyNext it with
      | none => pure (.done .next)
      | some v =>
        letOwnedTupleGo t0 it v
        assign t0 env v
        let src ← eval i1 env
        standAt i1.pos
        let src ← foldedSetIterable i1 env src
        let _ ← runOwn (.compStart (sX elt t0 i0 t1 i1 scope pos) 1 (← holding [src] (pyIter src)) acc env) env
        again (.compLoop (sX elt t0 i0 t1 i1 scope pos) 0 it acc env)) := by rfl
theorem sx_in (elt t0 i0 t1 i1 : Expr) (scope : Scope) (pos : Pos) (it acc : Value) (env : Env) :
    compTurn (sX elt t0 i0 t1 i1 scope pos) 1 it acc env = (do
      standAt i1.pos
      match ← pyNext it with
      | none => pure (.done .next)
      | some v =>
        letOwnedTupleGo t1 it v
        assign t1 env v
        (do let y ← eval elt env; standAt elt.pos; let _ ← call (.builtin "set.add") [acc, y])
        again (.compLoop (sX elt t0 i0 t1 i1 scope pos) 1 it acc env)) := by rfl
section
variable {prog : Program} {w : World} {A : Around} {R : Result → Shared → Prop} {s : Shared} {elt t0 i0 t1 i1 : Expr} {scope : Scope} {pos : Pos} {it acc : Value} {env : Env}
abbrev Nt (prog : Program) (w : World) (A : Around) (env : Env) (R : Result → Shared → Prop) : Value → Shared → Prop := notedBy (model prog w) A env fun e s' => R (.error e) s'
theorem sx_loop0 (hs : ∀ x, foldedSetIterable i1 env x = pure x) (J : Nat → Shared → Prop)
    (go : ∀ n s, J n s → wpAny (model prog w) A (pyNext it) (fun r a1 => match r with
      | none => R (.ok .next) a1
      | some v => wpAny (model prog w) A (letOwnedTupleGo t0 it v) (fun _ a2 => wpAny (model prog w) A (assign t0 env v) (fun _ a3 =>
          wpAny (model prog w) A (eval i1 env) (fun x a4 => wpAny (model prog w) A (pyIter x) (fun it1 a5 =>
              codeAny (model prog w) A (.compStart (sX elt t0 i0 t1 i1 scope pos) 1 it1 acc env) (fun r s' => match r with
                | .ok _ => ∃ m, m < n ∧ J m s'
                | .error _ => False) a5) (Nt prog w A env R) a4) (Nt prog w A env R) a3) (Nt prog w A env R) a2) (Nt prog w A env R) a1) (Nt prog w A env R) s)
    (n : Nat) (h : J n s) : codeAny (model prog w) A (.compLoop (sX elt t0 i0 t1 i1 scope pos) 0 it acc env) R s := by
  refine codeAny_loop rfl J (fun n s hJ => ?_) n h
  show wpAny _ A ((compTurn (sX elt t0 i0 t1 i1 scope pos) 0 it acc env).onRaise (fun x => do noteFrame x env; theTreesLotGoes x)) _ _ s
  refine wpAny_noted ?_
  rw [sx_out]
  refine wpAny_bind (wpAny_standAt (wpAny_bind (wpAny_mono (go n s hJ) (fun r a1 g1 => ?_) fun _ _ z => z)))
  cases r with
  | none => exact wpAny_pure g1
  | some v =>
    refine wpAny_bind (wpAny_mono g1 (fun _ a2 g2 => wpAny_bind (wpAny_mono g2 (fun _ a3 g3 => wpAny_bind (wpAny_mono g3 (fun x a4 g4 => ?_) fun _ _ z => z)) fun _ _ z => z)) fun _ _ z => z)
    refine wpAny_bind (wpAny_standAt (wpAny_bind (wpAny_of_eq (hs x) (wpAny_bind (wpAny_holding (wpAny_mono g4 (fun it1 a5 g5 => ?_) fun _ _ z => z))))))
    refine wpAny_bind (wpAny_runOwn ?_)
    rw [Around.mark_none]
    refine codeAny_mono g5 fun r s' hr => ?_
    cases r with
    | ok f => exact wpAny_pure ⟨rfl, hr⟩
    | error e => exact hr.elim
theorem sx_loop1 (J : Nat → Shared → Prop)
    (go : ∀ n s, J n s → wpAny (model prog w) A (pyNext it) (fun r a1 => match r with
      | none => R (.ok .next) a1
      | some v => wpAny (model prog w) A (letOwnedTupleGo t1 it v) (fun _ a2 => wpAny (model prog w) A (assign t1 env v) (fun _ a3 =>
          wpAny (model prog w) A (eval elt env) (fun x a4 => wpAny (model prog w) A (call (.builtin "set.add") [acc, x]) (fun _ a5 => ∃ m, m < n ∧ J m a5) (Nt prog w A env R) a4) (Nt prog w A env R) a3) (Nt prog w A env R) a2) (Nt prog w A env R) a1) (Nt prog w A env R) s)
    (n : Nat) (h : J n s) : codeAny (model prog w) A (.compLoop (sX elt t0 i0 t1 i1 scope pos) 1 it acc env) R s := by
  refine codeAny_loop rfl J (fun n s hJ => ?_) n h
  show wpAny _ A ((compTurn (sX elt t0 i0 t1 i1 scope pos) 1 it acc env).onRaise (fun x => do noteFrame x env; theTreesLotGoes x)) _ _ s
  refine wpAny_noted ?_
  rw [sx_in]
  refine wpAny_bind (wpAny_standAt (wpAny_bind (wpAny_mono (go n s hJ) (fun r a1 g1 => ?_) fun _ _ z => z)))
  cases r with
  | none => exact wpAny_pure g1
  | some v =>
    refine wpAny_bind (wpAny_mono g1 (fun _ a2 g2 => wpAny_bind (wpAny_mono g2 (fun _ a3 g3 => ?_) fun _ _ z => z)) fun _ _ z => z)
    exact wpAny_bind (wpAny_bind (wpAny_mono g3 (fun x a4 g4 => wpAny_bind (wpAny_standAt (wpAny_bind (wpAny_mono g4 (fun _ a5 g5 => wpAny_pure (wpAny_pure ⟨rfl, g5⟩)) fun _ _ z => z)))) fun _ _ z => z))
theorem sx_start1 (h0 : codeAny (model prog w) A (.compLoop (sX elt t0 i0 t1 i1 scope pos) 1 it acc env) R s)
    (h : wpAny (model prog w) A (pyIter it) (fun it' s' => codeAny (model prog w) A (.compLoop (sX elt t0 i0 t1 i1 scope pos) 1 it' acc env) R s') (Nt prog w A env R) s) :
    codeAny (model prog w) A (.compStart (sX elt t0 i0 t1 i1 scope pos) 1 it acc env) R s := by
  refine codeAny_of_tree ?_
  show wpAny _ _ ((compStart (sX elt t0 i0 t1 i1 scope pos) 1 it acc env).onRaise (fun x => do noteFrame x env; standAt theWindowsPlace)) _ _ s
  refine wpAny_notedAt ?_
  unfold compStart
  show wpAny _ _ (ask >>= _) _ _ s
  refine wpAny_bind (wpAny_askSetting (wpAny_ite ?_))
  split
  · first
      | exact wpAny_bind (wpAny_pure (wpAny_pure (And.intro rfl h0)))
      | exact wpAny_pure (And.intro rfl h0)
  · first
      | exact wpAny_bind (wpAny_rule (wpAny_bind (wpAny_standAt (wpAny_bind (wpAny_mono h (fun jt a1 g1 => wpAny_pure (And.intro rfl g1)) fun _ _ z => z)))))
      | (refine wpAny_bind (wpAny_rule ?_); show wpAny _ _ (standAt i1.pos >>= _) _ _ s; exact wpAny_bind (wpAny_standAt (wpAny_bind (wpAny_mono h (fun jt a1 g1 => wpAny_pure (And.intro rfl g1)) fun _ _ z => z))))
end
section
variable {P : Program} {w : World} {A : Around} {E : Value → Shared → Prop} {s : Shared} {a : Addr} {S : Str → Bool} {n : Nat}
/-- set.add of a text -/
theorem setX_add {k : Str} {tk : Tok} {Q : Value → Shared → Prop} (R : SetX w s.heap a S n) (room : n + 1 < scanBound)
    (hQ : ∀ h', Heap.SameBut a s.heap h' → SetX w h' a (fun j => S j || decide (j = k)) (if S k = true then n else n + 1) → Q .none { s with heap := h', toks := s.toks + 1 }) :
    wpAny (model P w) A (call (.builtin "set.add") [.ref a, .str k tk]) Q E s := by
  have so : s.heap.SetOf (strKind P w) a S n := SetX.setOf R
  refine wpAny_call_entry F.slot_set_add so.typeIs F.entry_set_add ?_ (F.args_set_add_2 _ _)
  unfold Builtin.«set.add» Builtin.Frozenset.oneOther
  simp only [List.isEmpty_nil, bind_assoc]
  unfold Builtin.Frozenset.addrOf setAdd
  refine wpAny_bind (wpAny_pure ?_)
  refine wpAny_bind (wpAny_pure ?_)
  refine wpAny_bind (wpAny_holding (wpAny_bind ((strKind P w).pyHash (k := k) (Froz.is_str k tk) ?_)))
  refine setX_addH (s := { s with toks := s.toks + 1 }) R room fun h' sb r => ?_
  show wpAny _ _ (ret Value.none) _ _ _
  exact wpAny_pure ⟨_, rfl, hQ h' sb r⟩
end
abbrev SetXO (w : World) (a : Addr) (S : Str → Bool) (n : Nat) : HO := .ext fun h => SetX w h a S n
theorem addX_ok {X : Cx} {pins : List (Addr × Obj)} {σ : L2.St} {H : Hp} {s : Shared} {E : Value → Shared → Prop} {t : Addr} {S : Str → Bool} {n : Nat} {y : Str} {tk : Tok} {Q : Value → Shared → Prop} (I : Inv X pins σ H s) (ht : H t = some (SetXO X.w t S n)) (room : n + 1 < scanBound)
    (h : ∀ s', Inv X pins σ (upd H t (SetXO X.w t (fun j => S j || decide (j = y)) (if S y = true then n else n + 1))) s' → Q .none s') : wpAny (model X.prog X.w) X.A (call (.builtin "set.add") [.ref t, .str y tk]) Q E s := by
  have R : SetX X.w s.heap t S n := (I.hok t _ ht).1
  refine setX_add R room fun h' sb new => ?_
  have he : ∃ u, h'.get? t = some u := by
    obtain ⟨o, _, _, _, ho, _⟩ := new
    exact ⟨o, ho⟩
  exact h _ (I.write (e := t) (t' := s.toks + 1) (by rw [ht]; trivial) (.inl rfl) (fun b u hb hu => (sb.2 b hb).trans hu) he (setX_obj new))
end DL
namespace DL
open PySem PySem.Spec PyProof.Rows L2
section
variable {X : Cx}
/-- {elt for tg in iter for tg1 in iter1}: t the new set, every elt a text -/
def tSX (w : World) (wi : TI) (g : TG) (wi1 : TI) (g1 : TG) (te : TE) (vs vs1 : List Nat) : TE := fun σ H Q => wi σ H fun J H1 => ∀ t, H1 t = none → ∃ W : Nat → Nat → Hp → Prop, (∃ m, W 0 m (upd H1 t (SetXO w t (fun _ => false) 0))) ∧ ∀ i m H, W i m H →
  (J.stop i H ∧ Q (.ref t) H) ∨ (J.go i H ∧ ∃ Nx : Hp → Prop, (∀ H', Nx H' → ∃ m', m' < m ∧ W (i + 1) m' H') ∧ ∀ x H', J.yld i H x H' → g x (wipe σ vs) H' fun σ2 H2 => wipe σ2 vs = wipe σ vs ∧
    wi1 σ2 H2 fun J1 H4 => ∃ W1 : Nat → Nat → Hp → Prop, (∃ m, W1 0 m H4) ∧ ∀ j k H, W1 j k H →
      (J1.stop j H ∧ Nx H) ∨ (J1.go j H ∧ ∃ Nx1 : Hp → Prop, (∀ H', Nx1 H' → ∃ k', k' < k ∧ W1 (j + 1) k' H') ∧ ∀ x H', J1.yld j H x H' → g1 x (wipe σ2 vs1) H' fun σ3 H5 => wipe σ3 vs1 = wipe σ2 vs1 ∧
        te σ3 H5 fun y H7 => ∃ (c : Str) (S : Str → Bool) (n : Nat), y = .str c ∧ H7 t = some (SetXO w t S n) ∧ n + 1 < scanBound ∧ Nx1 (upd H7 t (SetXO w t (fun j => S j || decide (j = c)) (if S c = true then n else n + 1)))))
abbrev BE (X : Cx) (scope : Scope) (p : Cx → Prop) : Prop := ∀ (s : Shared) (H : Hp) (a : Addr) (cl : List (Str × Addr)) (fp : List Addr), p (X.blk s H scope (compEnvC scope cl a X.env) fp)
theorem sx_core {pins : List (Addr × Obj)} {s : Shared} {σ : L2.St} {H : Hp} {Q : VK} {elt tg iter tg1 iter1 : Expr} {scope : Scope} {own : List (Str × Nat)} {vs1 : List Nat} {pos p2 : Pos} {wi wi1 : TI} {g g1 : TG} {te : TE} {use : Option (Value → Sem Unit)} {Qf : Value → Shared → Prop}
    (hc : X.calm = true) (hN : X.N.Nodup) (I : Inv X pins σ H s) (hi : PI X tg iter wi) (ok : BlkOk X.N X.env.scope scope own) (hv : ∀ i ∈ vs1, i ∈ own.map (·.2))
    (hg : BE X scope fun X => PG X tg g) (he : BE X scope fun X => PE X elt te) (hi1 : BE X scope fun X => PI X tg1 iter1 wi1) (hg1 : BE X scope fun X => PG X tg1 g1) (hs : ∀ x, foldedSetIterable iter X.env x = pure x) (hs1 : ∀ env x, foldedSetIterable iter1 env x = pure x)
    (h : tSX X.w wi g wi1 g1 te (own.map (·.2)) vs1 σ H Q)
    (fine : ∀ t a s' m H', Inv X pins σ H' s' → Q (.ref t) H' → s'.heap.Ns a m → FpOk X pins H' a → compPost (model X.prog X.w) X.A X.xe use Qf (.ref t) a (.ok .next) s') :
    wpAny (model X.prog X.w) X.A (comprehension (sX elt tg iter tg1 iter1 scope pos) scope X.env p2 (newSet (.type "set")) false (eval iter X.env) use) Qf X.xe s := by
  have free : ∀ y ∈ scope.names, y.2 = .free → ∃ c, X.env.cells.lookup y.1 = some c := fun y hy e => (ok.free y hy e).elim (fun k => I.ok.has _ (.inl k)) fun k => I.ok.has _ (.inr k)
  refine wpAny_comprehension_free (use := use) rfl hs (closure_ok free) ok.kind (fun y hy e => by rw [ok.uniq y hy, e]) (thn (hi.run pins s σ H _ I h) fun _ _ hx => thn hx fun _ b2 h2 => ?_)
  obtain ⟨it, fp, tn, J, H2, e, I2, T, st2, f2, q⟩ := h2
  subst e
  refine PpSet.newSet_ok (newEnv_comp ?_)
  generalize ht : b2.heap.objs.size = t
  have htn : H2 t = none := I2.hok.fresh (Nat.le_of_eq ht)
  obtain ⟨W, ⟨m0, w0⟩, turn⟩ := q t htn
  generalize hb3 : ({ b2 with heap := b2.heap.push (freshS X.w) } : Shared) = b3
  have e3 : b3.heap = b2.heap.push (freshS X.w) := by rw [← hb3]
  have up : ∀ b o, b2.heap.get? b = some o → b3.heap.get? b = some o := fun b o z => by rw [e3]; exact Heap.get?_push_of_some _ z
  have I3 : Inv X pins σ (upd H2 t (SetXO X.w t (fun _ => false) 0)) b3 := by
    subst hb3
    refine I2.laid (t' := b2.toks) up (Nat.le_of_eq ht) (setX_obj (setX_fresh ?_))
    rw [← ht]
    exact Heap.get?_push_size _ rfl
  have lt : ∀ b ∈ fp, b < b2.heap.objs.size := fun b hb => let ⟨o, z, _⟩ := T.obj _ _ st2 b hb; Heap.lt_size z
  have f3 : ∀ b ∈ fp, FpOk X pins (upd H2 t (SetXO X.w t (fun _ => false) 0)) b ∧ b < b3.heap.objs.size := fun b hb =>
    ⟨⟨(upd_ne (by rw [← ht]; exact Nat.ne_of_lt (lt b hb))).trans (f2 b hb).1, (f2 b hb).2⟩, by rw [e3, Heap.size_push]; exact Nat.lt_succ_of_lt (lt b hb)⟩
  have st3 : tn 0 b3.heap := T.keep _ _ _ st2 fun b _ o z => up b o z
  have I4 := block_start I3 ok hN f3
  generalize hcl : cellsFrom (b3.heap.objs.size + 1) scope.names (cloFrom X.env.cells scope.names []) = cl at I4 ⊢
  have pg := hg b3 (upd H2 t (SetXO X.w t (fun _ => false) 0)) b3.heap.objs.size cl fp
  have pe := he b3 (upd H2 t (SetXO X.w t (fun _ => false) 0)) b3.heap.objs.size cl fp
  have pi1 := hi1 b3 (upd H2 t (SetXO X.w t (fun _ => false) 0)) b3.heap.objs.size cl fp
  have pg1 := hg1 b3 (upd H2 t (SetXO X.w t (fun _ => false) 0)) b3.heap.objs.size cl fp
  show codeAny _ _ (.compStart (sX elt tg iter tg1 iter1 scope pos) 0 (.ref it) (.ref t) (compEnvC scope cl b3.heap.objs.size X.env)) (compPost (model X.prog X.w) X.A X.xe use Qf (.ref t) b3.heap.objs.size) { b3 with heap := pushCells (b3.heap.push { cls := .type "dict", data := .dict #[] }) scope.names }
  have nfp : ∀ b ∈ fp, (upd H2 t (SetXO X.w t (fun _ => false) 0)) b = none := fun b hb => (f3 b hb).1.1
  generalize hce : compEnvC scope cl b3.heap.objs.size X.env = ce at I4 pg pe pi1 pg1 ⊢
  have cL : ce.locals = b3.heap.objs.size := by subst hce; rfl
  generalize hH3 : upd H2 t (SetXO X.w t (fun _ => false) 0) = H3 at I3 I4 pg pe pi1 pg1 w0 nfp f3
  generalize hb4 : ({ b3 with heap := pushCells (b3.heap.push { cls := .type "dict", data := .dict #[] }) scope.names } : Shared) = b4 at I4 ⊢
  have st4 : tn 0 b4.heap := T.keep _ _ _ st3 fun b _ o z => by subst hb4; exact pushCells_keeps _ _ _ _ (Heap.get?_push_of_some _ z)
  generalize hY : X.blk b3 H3 scope ce fp = Y at I4 pg pe pi1 pg1
  have yp : Y.prog = X.prog := by subst hY; rfl
  have yw : Y.w = X.w := by subst hY; rfl
  have yA : Y.A = X.A := by subst hY; rfl
  have ye : Y.env = ce := by subst hY; rfl
  have stat : ∀ {σ' : L2.St} {H' : Hp} {s' : Shared}, Inv Y [] σ' H' s' → (∀ b ∈ fp, H' b = none) → ∀ b ∈ fp, FpOk Y [] H' b := fun {σ' H' s'} I' hn b hb => by
    subst hY
    exact ⟨hn b hb, (I'.ok.exf b hb).1, I'.ok.exfs b hb, .inl hb, fun x c z => (I'.ok.exf b hb).2 x c z, fun p hp => absurd (show p ∈ ([] : List (Addr × Obj)) ++ [] from hp) (by simp)⟩
  subst hY
  have loop : codeAny (model X.prog X.w) X.A (.compLoop (sX elt tg iter tg1 iter1 scope pos) 0 (.ref it) (.ref t) ce) (compPost (model X.prog X.w) X.A X.xe use Qf (.ref t) b3.heap.objs.size) b4 := by
    refine sx_loop0 (hs1 ce) (fun n s' => ∃ i H', Inv (X.blk b3 H3 scope ce fp) [] (wipe σ (own.map (·.2))) H' s' ∧ tn i s'.heap ∧ (∀ b ∈ fp, H' b = none) ∧ W i n H') ?_ m0 ⟨0, H3, I4, st4, nfp, w0⟩
    rintro n b5 ⟨i, H5, I5, st5, n5, w5⟩
    rcases turn i n H5 w5 with ⟨stop, qq⟩ | ⟨go, Nx, hNx, step⟩
    · refine thnF (T.done (X.blk b3 H3 scope ce fp) rfl rfl rfl hc i [] b5 _ H5 (fun _ _ => False) I5 (stat I5 n5) st5 stop) fun r b6 ⟨hr, I6⟩ => ?_
      subst hr
      have I7 : Inv X pins σ H5 b6 := I3.call' (ch := fp) I6.os I6.base I6.hok I6.bare fun b hb => let z := (f3 b hb).1.2; ⟨z.2.2.1, z.1, z.2.2.2.1, z.2.2.2.2⟩
      have n0 : H5 b3.heap.objs.size = none := by
        have z : H5 ce.locals = none := I6.free
        rwa [cL] at z
      obtain ⟨m, hn, _⟩ := I6.loc
      have hn : b6.heap.Ns ce.locals m := hn
      rw [cL] at hn
      exact fine t b3.heap.objs.size b6 m H5 I7 qq hn (I3.fpOk (Nat.le_refl _) n0)
    · refine thnF (T.item (X.blk b3 H3 scope ce fp) rfl rfl rfl hc i [] b5 _ H5 (fun _ _ => False) I5 (stat I5 n5) st5 go) fun r b6 ⟨u, hr, h6⟩ => ?_
      subst hr
      refine thnF h6 fun _ b7 ⟨x, H7, I7, r7, y7, st7, n7⟩ => ?_
      refine thnF (pg.run _ b7 _ H7 x u _ (I7.pinned (stat I7 n7) (T.obj _ _ st7)) r7 (step x H7 y7)) fun _ b8 ⟨σ8, H8, I8, hw8, q8⟩ => ?_
      have fin : ∀ {σ9 : L2.St} {s' : Shared} {H' : Hp}, Inv (X.blk b3 H3 scope ce fp) ([] ++ pinsAt fp b7.heap) σ9 H' s' → (wipe σ (own.map (·.2))).length = σ9.length → (∀ (j : Nat) v, (wipe σ (own.map (·.2)))[j]? = some (some v) → σ9[j]? = some (some v)) → Nx H' →
          ∃ m, m < n ∧ ∃ i H', Inv (X.blk b3 H3 scope ce fp) [] (wipe σ (own.map (·.2))) H' s' ∧ tn i s'.heap ∧ (∀ b ∈ fp, H' b = none) ∧ W i m H' := fun {σ9 s' H'} I' hl hk nx => by
        obtain ⟨m', hm, w'⟩ := hNx H' nx
        have pin : ∀ b ∈ fp, ∀ o, b7.heap.get? b = some o → s'.heap.get? b = some o ∧ H' b = none := fun b hb o z =>
          have z := I'.pin (b, o) (List.mem_append_right _ (List.mem_append_right _ (mem_pinsAt hb z)))
          ⟨z.1, z.2.1⟩
        exact ⟨m', hm, i + 1, H', (I'.unpinned (pins := [])).weak hl hk, T.keep _ _ _ st7 fun b hb o z => (pin b hb o z).1, fun b hb => let ⟨o, z, _⟩ := T.obj _ _ st7 b hb; (pin b hb o z).2, w'⟩
      have hl8 : (wipe σ (own.map (·.2))).length = σ8.length := by rw [← hw8, wipe_length]
      have hk9 : ∀ (j : Nat) v, (wipe σ (own.map (·.2)))[j]? = some (some v) → (wipe σ8 vs1)[j]? = some (some v) := fun j v z => by
        rw [← hw8] at z
        obtain ⟨z1, z2⟩ := wipe_some z
        rw [wipe_out fun k => z2 (hv j k)]
        exact z1
      refine thnF (pi1.run _ b8 σ8 H8 _ I8 q8) fun _ _ hx => thnF hx fun _ c1 h11 => ?_
      obtain ⟨it1, fp1, tn1, J1, H11, e1, I11, T1, st11, f11, W1, ⟨m1, w1⟩, turn1⟩ := h11
      subst e1
      have stat1 : ∀ {H' : Hp}, (∀ b ∈ fp1, H' b = none) → ∀ b ∈ fp1, FpOk (X.blk b3 H3 scope ce fp) ([] ++ pinsAt fp b7.heap) H' b := fun hn b hb => ⟨hn b hb, (f11 b hb).2⟩
      have loop1 : codeAny (model X.prog X.w) X.A (.compLoop (sX elt tg iter tg1 iter1 scope pos) 1 (.ref it1) (.ref t) ce)
          (fun r s' => match r with
            | .ok _ => ∃ m, m < n ∧ ∃ i H', Inv (X.blk b3 H3 scope ce fp) [] (wipe σ (own.map (·.2))) H' s' ∧ tn i s'.heap ∧ (∀ b ∈ fp, H' b = none) ∧ W i m H'
            | .error _ => False) c1 := by
        refine sx_loop1 (fun k s' => ∃ j H', Inv (X.blk b3 H3 scope ce fp) ([] ++ pinsAt fp b7.heap) (wipe σ8 vs1) H' s' ∧ tn1 j s'.heap ∧ (∀ b ∈ fp1, H' b = none) ∧ W1 j k H') ?_ m1 ⟨0, H11, I11.weak (wipe_length _ _) (fun j v z => (wipe_some z).1), st11, fun b hb => (f11 b hb).1, w1⟩
        rintro k c2 ⟨j, H12, I12, st12, n12, w12⟩
        rcases turn1 j k H12 w12 with ⟨stop1, nx1⟩ | ⟨go1, Nx1, hNx1, step1⟩
        · refine thnF (T1.done (X.blk b3 H3 scope ce fp) rfl rfl rfl hc j _ c2 (wipe σ8 vs1) H12 (fun _ _ => False) I12 (stat1 n12) st12 stop1) fun r c3 ⟨hr, I13⟩ => ?_
          subst hr
          exact fin I13 (hl8.trans (wipe_length σ8 vs1).symm) hk9 nx1
        · refine thnF (T1.item (X.blk b3 H3 scope ce fp) rfl rfl rfl hc j _ c2 (wipe σ8 vs1) H12 (fun _ _ => False) I12 (stat1 n12) st12 go1) fun r c3 ⟨u1, hr, h13⟩ => ?_
          subst hr
          refine thnF h13 fun _ c4 ⟨x1, H14, I14, r14, y14, st14, n14⟩ => ?_
          refine thnF (pg1.run _ c4 (wipe σ8 vs1) H14 x1 u1 _ (I14.pinned (stat1 n14) (T1.obj _ _ st14)) r14 (step1 x1 H14 y14)) fun _ c5 ⟨σ15, H15, I15, hw15, q15⟩ => ?_
          refine thnF (pe.run _ c5 σ15 H15 _ I15 q15) fun z c7 ⟨yv, H17, I17, r17, tx, S0, k0, ey, ht17, hz17, nx⟩ => ?_
          subst ey
          obtain ⟨tk, rfl⟩ := r17
          refine addX_ok (X := X.blk b3 H3 scope ce fp) I17 ht17 hz17 fun c8 I' => ?_
          obtain ⟨m', hm, w'⟩ := hNx1 _ nx
          have pin : ∀ b ∈ fp1, ∀ o, c4.heap.get? b = some o → c8.heap.get? b = some o ∧ upd H17 t (SetXO X.w t (fun j => S0 j || decide (j = tx)) (if S0 tx = true then k0 else k0 + 1)) b = none := fun b hb o z =>
            have z := I'.pin (b, o) (List.mem_append_right _ (List.mem_append_right _ (mem_pinsAt hb z)))
            ⟨z.1, z.2.1⟩
          exact ⟨m', hm, j + 1, _, I'.unpinned.weak (by rw [← hw15, wipe_length]) (fun j v z => by rw [← hw15] at z; exact (wipe_some z).1), T1.keep _ _ _ st14 fun b hb o z => (pin b hb o z).1, fun b hb => let ⟨o, z, _⟩ := T1.obj _ _ st14 b hb; (pin b hb o z).2, w'⟩
      exact sx_start1 loop1 (T1.self X.A 0 _ _ _ st11 loop1)
  exact PpSet.codeAny_compStart_set loop (T.self X.A 0 _ _ _ st4 loop)
theorem pe_sx {elt tg iter tg1 iter1 : Expr} {scope : Scope} {own : List (Str × Nat)} {vs1 : List Nat} {pos : Pos} {wi wi1 : TI} {g g1 : TG} {te : TE} (hc : X.calm = true) (hN : X.N.Nodup) (hi : PI X tg iter wi) (ok : BlkOk X.N X.env.scope scope own) (hv : ∀ i ∈ vs1, i ∈ own.map (·.2))
    (hg : BE X scope fun X => PG X tg g) (he : BE X scope fun X => PE X elt te) (hi1 : BE X scope fun X => PI X tg1 iter1 wi1) (hg1 : BE X scope fun X => PG X tg1 g1) (hs : ∀ x, foldedSetIterable iter X.env x = pure x := by intro _; rfl) (hs1 : ∀ env x, foldedSetIterable iter1 env x = pure x := by intro _ _; rfl) :
    PE X (.SetComp elt [⟨tg, iter, [], 0⟩, ⟨tg1, iter1, [], 0⟩] scope pos) (tSX X.w wi g wi1 g1 te (own.map (·.2)) vs1) := by
  refine ⟨fun pins s σ H Q I h => ?_⟩
  rw [PpSet.eval_SetComp]
  refine sx_core hc hN I hi ok hv hg he hi1 hg1 hs hs1 h fun t a s' m H' I' q hn ⟨f0, f1, f2, f3, f4, f5⟩ => ⟨m, hn, fun h2 sb => ⟨.ref t, H', ?_, rfl, q⟩⟩
  exact I'.turned (t' := s'.toks) (fun b o hb e => (sb.2 b hb).trans e) f0 f1 f3 f4 f5
end
end DL
namespace DL
open PySem PySem.Spec PyProof.Rows L2
abbrev wiB (C : Ctx) (scope : Scope) (tg iter : Expr) : TI := fun σ H R => ∀ s H0 Cc cl fp, WI (bctx C scope s H0 Cc cl fp).X tg iter σ H R
theorem Stay.ext {H : Hp} {p : Addr} {f : Heap → Prop} {o : HO} (h : H p = some (.ext f)) : Stay H (upd H p o) :=
  ⟨fun a vs e => by rw [upd_ne (fun q => by rw [q, h] at e; cases e)]; exact e, fun a ob u e => by rw [upd_ne (fun q => by rw [q, h] at e; cases e)]; exact e, fun a e => by rw [upd_ne (fun q => by rw [q, h] at e; cases e)]; exact e⟩
section
variable {C : Ctx} {Γ : Gm} {L : Lp} {elt tg iter tg1 iter1 : Expr} {pos : Pos} {Q : D → Lp → Prop}
/-- what one item of the first source gives: the second source's items, each of them elt -/
def Two (C : Ctx) (scope : Scope) (Γ : Gm) (L : Lp) (tg tg1 iter1 elt : Expr) (vs vs1 : List Nat) (d : D) (ys : List D) : Prop := ∃ Γ3 ws, (∀ j ∈ ws, j ∈ vs) ∧ ∀ s H Cc cl fp, AG (bctx C scope s H Cc cl fp) tg d (wipeG Γ vs) Γ3 ws ∧ AV (bctx C scope s H Cc cl fp) iter1 Γ3 L (.tup ys) ∧
  ∀ y ∈ ys, ∃ Γ5 ws1, (∀ j ∈ ws1, j ∈ vs1) ∧ ∀ s H Cc cl fp, AG (bctx C scope s H Cc cl fp) tg1 y (wipeG Γ3 vs1) Γ5 ws1 ∧ AV (bctx C scope s H Cc cl fp) elt Γ5 L y
theorem ae_sx (own : List (Str × Nat)) (vs1 : List Nat) {scope : Scope}
    (h : AI C tg iter Γ L fun ds G L1 => G L1 ∧ ∃ xss : List (List Str), ds = xss.map (fun xs => D.tup (xs.map D.str)) ∧ xss.flatten.length + 1 < scanBound ∧ (∀ xs ∈ xss, Two C scope Γ L1 tg tg1 iter1 elt (own.map (·.2)) vs1 (.tup (xs.map D.str)) (xs.map D.str)) ∧
      ∀ t n, L1 t = none → n ≤ xss.flatten.length → Q (.ptr t) (put L1 t (.txs (fun k => decide (k ∈ xss.flatten)) n)))
    (ok : BlkOk C.X.N C.X.env.scope scope own := by (dsimp only [fctx, bctx, cxOf, envOfC, compEnvC, Cx.blk]; exact blkOk_by (by decide +kernel))) (hv : ∀ i ∈ vs1, i ∈ own.map (·.2) := by decide) (hs : ∀ x, foldedSetIterable iter C.X.env x = pure x := by intro _; rfl) (hs1 : ∀ env x, foldedSetIterable iter1 env x = pure x := by intro _ _; rfl) :
    AE C (.SetComp elt [⟨tg, iter, [], 0⟩, ⟨tg1, iter1, [], 0⟩] scope pos) Γ L Q := fun F σ H okk QV go => by
  refine we_of (pe_sx (wi := WI C.X tg iter) (g := gB C scope tg) (wi1 := wiB C scope tg1 iter1) (g1 := gB C scope tg1) (te := teB C scope elt) C.calm C.nd pi_wi ok hv (fun s H0 Cc cl fp => ⟨fun pins s1 σ1 H1 v u Q1 I r q => (q s H0 Cc cl fp).run pins s1 u I r⟩) (fun s H0 Cc cl fp => ⟨fun pins s1 σ1 H1 Q1 I q => (q s H0 Cc cl fp).run pins s1 I⟩) (fun s H0 Cc cl fp => ⟨fun pins s1 σ1 H1 Q1 I q => (q s H0 Cc cl fp).run pins s1 I⟩) (fun s H0 Cc cl fp => ⟨fun pins s1 σ1 H1 v u Q1 I r q => (q s H0 Cc cl fp).run pins s1 u I r⟩) hs hs1) ?_
  refine h _ σ H okk _ fun {F1} J H1 L1 ds G c1 f1 it ⟨hG, xss, eds, hz, hb, q⟩ => ?_
  subst eds
  intro t ht
  have f1t := c1.nf ht
  have l1t := c1.free ht
  refine ⟨fun i m H2 => m = xss.length - i ∧ i ≤ xss.length ∧ ∃ F2 n, C.Con L1 F2 H2 ∧ Fr L1 F1 H1 L1 F2 H2 ∧ ¬ F2 t ∧ H2 t = some (SetXO C.X.w t (fun k => decide (k ∈ (xss.take i).flatten)) n) ∧ n ≤ (xss.take i).flatten.length ∧ ∀ k ∈ (xss.take i).flatten, SOk k,
    ⟨xss.length, by simp, Nat.zero_le _, F1, 0, c1.new ht, .new ht, f1t, by rw [upd_same]; rfl, Nat.zero_le _, fun _ z => nomatch z⟩, ?_⟩
  rintro i m H2 ⟨rfl, hi, F2, n, c2, f2, f2t, h2t, hn, hS⟩
  obtain ⟨k1, k2, k3⟩ := it i H2 L1 f2 c2 hG
  rw [List.length_map] at k1 k2 k3
  by_cases hlt : i < xss.length
  · refine .inr ⟨k1 hlt, fun H3 => ∃ F2 n, C.Con L1 F2 H3 ∧ Fr L1 F1 H1 L1 F2 H3 ∧ ¬ F2 t ∧ H3 t = some (SetXO C.X.w t (fun k => decide (k ∈ (xss.take (i + 1)).flatten)) n) ∧ n ≤ (xss.take (i + 1)).flatten.length ∧ ∀ k ∈ (xss.take (i + 1)).flatten, SOk k, fun H3 hN => ⟨xss.length - (i + 1), by omega, rfl, hlt, hN⟩, fun x H' y => ?_⟩
    obtain ⟨d, hd, rd, hH⟩ := k3 x H' y hlt
    rw [List.getElem?_map, List.getElem?_eq_getElem hlt] at hd
    cases hd
    have etk : xss.take (i + 1) = xss.take i ++ [xss[i]] := by rw [List.take_add_one, List.getElem?_eq_getElem hlt]; rfl
    have eln : xss.flatten.length = (xss.take (i + 1)).flatten.length + (xss.drop (i + 1)).flatten.length := by rw [← List.length_append, ← List.flatten_append, List.take_append_drop]
    rw [etk, List.flatten_append] at eln ⊢
    have hm : xss[i] ∈ xss := List.getElem_mem hlt
    generalize xss[i] = xs at *
    have exs : [xs].flatten = xs := by simp
    rw [exs] at eln ⊢
    generalize (xss.take i).flatten = pre at *
    have fH : Fr L1 F2 H2 L1 F2 H' := by
      rcases hH with e | ⟨T, vs, nT, e⟩
      · rw [e]; exact .refl L1 H2
      · rw [e]; exact .new nT
    have cH : C.Con L1 F2 H' := by
      rcases hH with e | ⟨T, vs, nT, e⟩
      · rw [e]; exact c2
      · rw [e]; exact c2.new nT
    obtain ⟨_, _, h3t⟩ := fH.hid h2t (fun _ z => nomatch z) l1t f2t
    have slw : Sl C.X.K F2 H' (wipe σ (own.map (·.2))) (wipeG Γ (own.map (·.2))) := (okk.sl.mono ((f1.trans f2).trans fH).mv).wipe _
    obtain ⟨Γ3, ws, hws, hbody⟩ := hb xs hm
    intro s0 H0 Cc cl fp
    refine (hbody s0 H0 Cc cl fp).1 _ _ H' x slw rd _ fun σ3 sl3 but => ⟨But.wiped but hws, ?_⟩
    intro s1 H01 Cc1 cl1 fp1
    refine wi_of (pi_tup pe_we) ((hbody s1 H01 Cc1 cl1 fp1).2.1 (fun d L' => d = .tup (xs.map D.str) ∧ L' = L1) ⟨rfl, rfl⟩ _ σ3 H' ⟨sl3, cH, ⟨fun _ _ _ _ _ _ _ _ _ _ _ z => z.elim⟩⟩ _ fun {F4} v d H4 L4 r4 c4 f4 ⟨ed, eL⟩ => ?_)
    subst ed eL
    obtain ⟨a, vs, rfl, ha, ra⟩ := r4.tupE
    obtain ⟨_, f4t, h4t⟩ := f4.hid h3t (fun _ z => nomatch z) l1t f2t
    have fr4 := (f2.trans fH).trans f4
    have hvl : vs.length = xs.length := by rw [ra.length, List.length_map]
    refine ⟨a, rfl, ⟨vs, SqT.of ha⟩, fun j k H5 => k = xs.length - j ∧ j ≤ xs.length ∧ ∃ F5 n, C.Con L4 F5 H5 ∧ Fr L4 F1 H1 L4 F5 H5 ∧ Mv F4 H4 F5 H5 ∧ ¬ F5 t ∧ H5 t = some (SetXO C.X.w t (fun k => decide (k ∈ pre ++ xs.take j)) n) ∧ n ≤ (pre ++ xs.take j).length ∧ ∀ k ∈ pre ++ xs.take j, SOk k,
      ⟨xs.length, by simp, Nat.zero_le _, F4, n, c4, fr4, ⟨.refl H4, fun _ z => z, fun _ _ _ z => z⟩, f4t, by rw [h4t, List.take_zero, List.append_nil], by simpa using hn, by simpa using hS⟩, ?_⟩
    rintro j k H5 ⟨rfl, hj, F5, n5, c5, f5, m5, f5t, h5t, hn5, hS5⟩
    have sq : SqT C.X.K H5 a vs := SqT.of (m5.stay.tup _ _ ha)
    by_cases hjl : j < xs.length
    · refine .inr ⟨⟨vs, vs[j]'(by omega), sq, List.getElem?_eq_getElem _⟩, fun H6 => ∃ F5 n, C.Con L4 F5 H6 ∧ Fr L4 F1 H1 L4 F5 H6 ∧ Mv F4 H4 F5 H6 ∧ ¬ F5 t ∧ H6 t = some (SetXO C.X.w t (fun k => decide (k ∈ pre ++ xs.take (j + 1))) n) ∧ n ≤ (pre ++ xs.take (j + 1)).length ∧ ∀ k ∈ pre ++ xs.take (j + 1), SOk k, fun H6 hN => ⟨xs.length - (j + 1), by omega, rfl, hjl, hN⟩, fun x6 H6 y6 => ?_⟩
      obtain ⟨e6, y6⟩ := y6
      subst e6
      obtain ⟨d6, hd6, rd6⟩ := ra.getV (y6 vs sq)
      rw [List.getElem?_map, List.getElem?_eq_getElem hjl] at hd6
      cases hd6
      obtain ⟨Γ5, ws1, hws1, hin⟩ := (hbody s1 H01 Cc1 cl1 fp1).2.2 (.str xs[j]) (List.mem_map.mpr ⟨_, List.getElem_mem hjl, rfl⟩)
      intro s2 H02 Cc2 cl2 fp2
      refine (hin s2 H02 Cc2 cl2 fp2).1 _ _ H6 x6 (((sl3.mono f4.mv).mono m5).wipe vs1) (rd6.mono m5) _ fun σ7 sl7 but7 => ⟨But.wiped but7 hws1, ?_⟩
      intro s3 H03 Cc3 cl3 fp3
      refine (hin s3 H03 Cc3 cl3 fp3).2 (fun d L' => d = .str xs[j] ∧ L' = L4) ⟨rfl, rfl⟩ _ σ7 H6 ⟨sl7, c5, ⟨fun _ _ _ _ _ _ _ _ _ _ _ z => z.elim⟩⟩ _ fun {F8} v8 d8 H8 L8 r8 c8 f8 ⟨ed, eL⟩ => ?_
      subst ed eL
      obtain ⟨_, f8t, h8t⟩ := f8.hid h5t (fun _ z => nomatch z) l1t f5t
      have ev : v8 = .str xs[j] := by cases r8; rfl
      have so : SOk xs[j] := r8.bnd
      have et : xs.take (j + 1) = xs.take j ++ [xs[j]] := by rw [List.take_add_one, List.getElem?_eq_getElem hjl]; rfl
      have st := Stay.ext (o := SetXO C.X.w t (fun k => decide (k ∈ pre ++ xs.take (j + 1))) (if decide (xs[j] ∈ pre ++ xs.take j) = true then n5 else n5 + 1)) h8t
      have hl5 : (pre ++ xs.take j).length ≤ pre.length + j := by rw [List.length_append, List.length_take]; omega
      have ef : (fun k => decide (k ∈ pre ++ xs.take j) || decide (k = xs[j])) = fun k => decide (k ∈ pre ++ xs.take (j + 1)) := by
        funext k
        rw [et]
        generalize xs.take j = zs
        generalize xs[j] = z
        simp [Bool.or_assoc]
      rw [List.length_append] at eln
      refine ⟨xs[j], _, n5, ev, h8t, by omega, F8, _, ?_, ?_, ?_, f8t, by rw [upd_same, ef], ?_, ?_⟩
      · rw [ef]; exact c8.hid st l1t f8t
      · rw [ef]; exact (f5.trans f8).hidw ht f1t st
      · rw [ef]; exact (m5.trans f8.mv).trans (.hid st f8t)
      · rw [et, ← List.append_assoc, List.length_append]
        show _ ≤ _ + 1
        split <;> omega
      · intro k hk
        rw [et, ← List.append_assoc] at hk
        rcases List.mem_append.mp hk with hk | hk
        · exact hS5 k hk
        · rw [List.mem_singleton.mp hk]; exact so
    · have e : j = xs.length := by omega
      subst e
      rw [List.take_length] at h5t hn5 hS5
      exact .inl ⟨⟨vs, sq, by omega⟩, F5, n5, c5, f5, f5t, h5t, hn5, hS5⟩
  · have e : i = xss.length := by omega
    subst e
    rw [List.take_length] at h2t hn hS
    exact .inl ⟨k2 rfl, go _ _ H2 (put L1 t (.txs (fun k => decide (k ∈ xss.flatten)) n)) (.ptr t) (c2.shw f2t ⟨h2t, fun k hk => hS k (of_decide_eq_true hk)⟩) ((f1.trans f2).shw (f1.nul ht)) (q t n l1t hn)⟩
end
end DL
namespace DL
open PySem PySem.Spec PyProof.Rows L2
/-- an entry, as items() gives it -/
abbrev itD (x : List Key × D) : D := .tup [kD x.1, x.2]
def iItT (td : TE) : TI := fun σ H R => td σ H fun x H1 => ∃ d o kvs, x = .ref d ∧ H1 d = some (.frz o (.dT kvs)) ∧ R (Itit d o kvs) H1
theorem pi_itT {X : Cx} {e : Expr} {td : TE} {apos cpos : Pos} {elts : List Expr} {kk : Nat} {tpos : Pos} (he : PE X e td) (hbase : attributeBase e "items" X.env (eval e X.env) = eval e X.env := by rfl) (hline : (apos.endLine == cpos.line) = true := by rfl) :
    PI X (.Tuple elts kk tpos) (.Call (.Attribute e "items" apos) [] [] cpos) (iItT td) := by
  refine ⟨fun pins s σ H R I h => wpAny_Call_method (T := "dict") (id := "dict.items") hbase rfl hline F.plainAttrs_dict F.slot_dict_items F.type_dict_items (thn (he.run pins s σ H _ I h) fun u s1 hu => ?_)⟩
  obtain ⟨x, H1, I1, rx, d, o, kvs, rfl, hd, q⟩ := hu
  obtain rfl : u = Value.ref d := rx
  obtain ⟨es, ep, hdt, raw, hs, ty, hsz, _⟩ := raw_at I1 hd
  refine ⟨ty, ?_, ?_⟩
  · intro a' ea
    cases ea
    obtain ⟨o2, h1, h2, _⟩ := raw
    exact ⟨o2, h1, h2.2.1⟩
  have up : ∀ b ob, s1.heap.get? b = some ob → (s1.heap.push { cls := .type "dict_items", data := .fields #[.ref d] }).get? b = some ob := fun b ob z => Heap.get?_push_of_some _ z
  have I2 : Inv X pins σ H1 { s1 with heap := s1.heap.push { cls := .type "dict_items", data := .fields #[.ref d] } } := I1.kept (t' := s1.toks) up
  have fin : wpAny (model X.prog X.w) X.A (pyIter (.ref s1.heap.objs.size)) (PIE X pins σ (.Tuple elts kk tpos) R) X.xe { s1 with heap := s1.heap.push { cls := .type "dict_items", data := .fields #[.ref d] } } := by
    refine PySem.wpAny_pyIter_items_raw (d := d) ⟨_, Heap.get?_push_size _ rfl, rfl, rfl⟩ (raw.at fun ob z => up d ob z) (pi_one (tk := s1.toks) I2 _ (turn_itT _ hdt) ⟨.none, .none, ?_⟩ q)
    rw [← hsz]
    exact Heap.get?_push_size _ rfl
  show wpAny _ _ (callWith cpos (.builtin "dict.items") [.ref d] [] []) _ X.xe s1
  exact method_meetsIn F.slot_dict_items F.entry_dict_items rfl (PySem.evalArgs_none ⟨rfl, ty, F.args_dict_items_1 _, _, PySem.meets_dict_items_raw d hs, ⟨es, ep, raw⟩, fin⟩)
section
variable {C : Ctx} {Γ : Gm} {L : Lp} {elt tg iter tg1 iter1 e : Expr} {pos : Pos} {Q : D → Lp → Prop} {kds : List (List Key × D)} {E : AEnds} {d : D}
theorem itit_is {t : Addr} {od : Obj} {kvs : List (List Key × V)} {L0 : Lp} {F0 : Fz} {H0 : Hp} (st : ∀ F L H, Fr L0 F0 H0 L F H → H t = some (.frz od (.dT kvs))) (rr : KDs C.X.K F0 H0 kvs kds) (hk : ∀ q ∈ kds, KOk q.1) : IsIt C (Itit t od kvs) (kds.map itD) (fun _ => True) L0 F0 H0 := by
  intro F i H L s c g
  have hl : kvs.length = kds.length := Paired.length rr
  have ht := st F L H s
  rw [List.length_map]
  refine ⟨fun h => ⟨ht, by omega⟩, fun h => ⟨ht, by omega⟩, fun x H' y hi => ?_⟩
  obtain ⟨T, k, v, cc, e1, rfl, nT, hcc, rfl⟩ := y
  obtain ⟨⟨k2, d2⟩, hb, z1, z2⟩ := paired_get rr e1
  cases (show k = k2 from z1)
  refine ⟨itD (k, d2), by rw [List.getElem?_map, hb]; rfl, ?_, .inr ⟨T, _, nT, rfl⟩⟩
  have mv : Mv F H F (upd H T (.tup [.ref cc, v])) := .new nT
  have r1 : Rep C.X.K F (upd H T (.tup [.ref cc, v])) (.ref cc) (kD k) := (kD_rep hcc (hk _ (List.mem_of_getElem? hb))).mono mv
  have r2 : Rep C.X.K F (upd H T (.tup [.ref cc, v])) v d2 := (z2.mono s.mv).mono mv
  exact .tup upd_same (by show 2 ≤ sizeLine; decide) rfl fun j v' d' e1 e2 => by
    match j with
    | 0 => cases e1; cases e2; exact r1
    | 1 => cases e1; cases e2; exact r2
    | j + 2 => cases e1
theorem lc2_read {own : List (Str × Nat)} {vs1 : List Nat} {scope : Scope} {F : Fz} {σ : L2.St} {H : Hp} (okk : Ok C Γ L F σ H) {QV : VK} (go : Go C L F H Q QV)
    (h : AIp C tg iter L F σ H fun ds G L1 => G L1 ∧ ∃ ys : D → List D, (ds.flatMap ys).length ≤ sizeLine ∧ (∀ d ∈ ds, Two C scope Γ L1 tg tg1 iter1 elt (own.map (·.2)) vs1 d (ys d)) ∧ ∀ p, L1 p = none → Q (.ptr p) (put L1 p (.lst (ds.flatMap ys)))) :
    tLc2 (WI C.X tg iter) (gB C scope tg) tYes (wiB C scope tg1 iter1) (gB C scope tg1) tYes (teB C scope elt) (own.map (·.2)) vs1 σ H QV := by
  refine h _ fun {F1} J H1 L1 ds G c1 f1 it ⟨hG, ys, hz, hb, q⟩ => ?_
  intro t ht
  have f1t := c1.nf ht
  have l1t := c1.free ht
  refine ⟨fun i m H2 => m = ds.length - i ∧ i ≤ ds.length ∧ ∃ F2 vacc, C.Con L1 F2 H2 ∧ Fr L1 F1 H1 L1 F2 H2 ∧ ¬ F2 t ∧ H2 t = some (.lst vacc) ∧ Reps C.X.K F2 H2 vacc ((ds.take i).flatMap ys),
    ⟨ds.length, by simp, Nat.zero_le _, F1, [], c1.new ht, .new ht, f1t, upd_same, .nil⟩, ?_⟩
  rintro i m H2 ⟨rfl, hi, F2, vacc, c2, f2, f2t, h2t, ra⟩
  obtain ⟨k1, k2, k3⟩ := it i H2 L1 f2 c2 hG
  by_cases hlt : i < ds.length
  · refine .inr ⟨k1 hlt, fun H3 => ∃ F2 vacc, C.Con L1 F2 H3 ∧ Fr L1 F1 H1 L1 F2 H3 ∧ ¬ F2 t ∧ H3 t = some (.lst vacc) ∧ Reps C.X.K F2 H3 vacc ((ds.take (i + 1)).flatMap ys), fun H3 hN => ⟨ds.length - (i + 1), by omega, rfl, hlt, hN⟩, fun x H' y => ?_⟩
    obtain ⟨d, hd, rd, hH⟩ := k3 x H' y hlt
    rw [List.getElem?_eq_getElem hlt] at hd
    cases hd
    have etk : ds.take (i + 1) = ds.take i ++ [ds[i]] := by rw [List.take_add_one, List.getElem?_eq_getElem hlt]; rfl
    have eln : (ds.flatMap ys).length = ((ds.take (i + 1)).flatMap ys).length + ((ds.drop (i + 1)).flatMap ys).length := by rw [← List.length_append, ← List.flatMap_append, List.take_append_drop]
    rw [etk, List.flatMap_append, List.length_append] at eln
    rw [etk, List.flatMap_append]
    have hm : ds[i] ∈ ds := List.getElem_mem hlt
    have e1 : [ds[i]].flatMap ys = ys ds[i] := by simp
    rw [e1] at eln ⊢
    obtain ⟨Γ3, ws, hws, hbody⟩ := hb ds[i] hm
    generalize ds[i] = dd at *
    generalize (ds.take i).flatMap ys = pre at *
    generalize ys dd = xs at *
    have fH : Fr L1 F2 H2 L1 F2 H' := by
      rcases hH with e | ⟨T, vs, nT, e⟩
      · rw [e]; exact .refl L1 H2
      · rw [e]; exact .new nT
    have cH : C.Con L1 F2 H' := by
      rcases hH with e | ⟨T, vs, nT, e⟩
      · rw [e]; exact c2
      · rw [e]; exact c2.new nT
    obtain ⟨_, _, h3t⟩ := fH.hid h2t (fun _ z => nomatch z) l1t f2t
    have slw : Sl C.X.K F2 H' (wipe σ (own.map (·.2))) (wipeG Γ (own.map (·.2))) := (okk.sl.mono ((f1.trans f2).trans fH).mv).wipe _
    intro s0 H0 Cc cl fp
    refine (hbody s0 H0 Cc cl fp).1 _ _ H' x slw rd _ fun σ3 sl3 but => ⟨But.wiped but hws, ?_⟩
    unfold tYes
    dsimp only
    rw [if_pos rfl]
    intro s1 H01 Cc1 cl1 fp1
    refine wi_of (pi_tup pe_we) ((hbody s1 H01 Cc1 cl1 fp1).2.1 (fun d L' => d = .tup xs ∧ L' = L1) ⟨rfl, rfl⟩ _ σ3 H' ⟨sl3, cH, ⟨fun _ _ _ _ _ _ _ _ _ _ _ z => z.elim⟩⟩ _ fun {F4} v d H4 L4 r4 c4 f4 ⟨ed, eL⟩ => ?_)
    subst ed eL
    obtain ⟨a, vs, rfl, ha, rb⟩ := r4.tupE
    obtain ⟨_, f4t, h4t⟩ := f4.hid h3t (fun _ z => nomatch z) l1t f2t
    have fr4 := (f2.trans fH).trans f4
    have hvl : vs.length = xs.length := rb.length
    refine ⟨a, rfl, ⟨vs, SqT.of ha⟩, fun j k H5 => k = xs.length - j ∧ j ≤ xs.length ∧ ∃ F5 vacc, C.Con L4 F5 H5 ∧ Fr L4 F1 H1 L4 F5 H5 ∧ Mv F4 H4 F5 H5 ∧ ¬ F5 t ∧ H5 t = some (.lst vacc) ∧ Reps C.X.K F5 H5 vacc (pre ++ xs.take j),
      ⟨xs.length, by simp, Nat.zero_le _, F4, vacc, c4, fr4, ⟨.refl H4, fun _ z => z, fun _ _ _ z => z⟩, f4t, h4t, by rw [List.take_zero, List.append_nil]; exact (ra.mono fH.mv).mono f4.mv⟩, ?_⟩
    rintro j k H5 ⟨rfl, hj, F5, vacc5, c5, f5, m5, f5t, h5t, ra5⟩
    have sq : SqT C.X.K H5 a vs := SqT.of (m5.stay.tup _ _ ha)
    by_cases hjl : j < xs.length
    · refine .inr ⟨⟨vs, vs[j]'(by omega), sq, List.getElem?_eq_getElem _⟩, fun H6 => ∃ F5 vacc, C.Con L4 F5 H6 ∧ Fr L4 F1 H1 L4 F5 H6 ∧ Mv F4 H4 F5 H6 ∧ ¬ F5 t ∧ H6 t = some (.lst vacc) ∧ Reps C.X.K F5 H6 vacc (pre ++ xs.take (j + 1)), fun H6 hN => ⟨xs.length - (j + 1), by omega, rfl, hjl, hN⟩, fun x6 H6 y6 => ?_⟩
      obtain ⟨e6, y6⟩ := y6
      subst e6
      obtain ⟨d6, hd6, rd6⟩ := rb.getV (y6 vs sq)
      rw [List.getElem?_eq_getElem hjl] at hd6
      cases hd6
      obtain ⟨Γ5, ws1, hws1, hin⟩ := (hbody s1 H01 Cc1 cl1 fp1).2.2 xs[j] (List.getElem_mem hjl)
      intro s2 H02 Cc2 cl2 fp2
      refine (hin s2 H02 Cc2 cl2 fp2).1 _ _ H6 x6 (((sl3.mono f4.mv).mono m5).wipe vs1) (rd6.mono m5) _ fun σ7 sl7 but7 => ⟨But.wiped but7 hws1, ?_⟩
      rw [if_pos rfl]
      intro s3 H03 Cc3 cl3 fp3
      refine (hin s3 H03 Cc3 cl3 fp3).2 (fun d L' => d = xs[j] ∧ L' = L4) ⟨rfl, rfl⟩ _ σ7 H6 ⟨sl7, c5, ⟨fun _ _ _ _ _ _ _ _ _ _ _ z => z.elim⟩⟩ _ fun {F8} v8 d8 H8 L8 r8 c8 f8 ⟨ed, eL⟩ => ?_
      subst ed eL
      obtain ⟨_, f8t, h8t⟩ := f8.hid h5t (fun _ z => nomatch z) l1t f5t
      have et : xs.take (j + 1) = xs.take j ++ [xs[j]] := by rw [List.take_add_one, List.getElem?_eq_getElem hjl]; rfl
      have st : Stay H8 (upd H8 t (.lst (vacc5 ++ [v8]))) := .lst h8t
      have ra8 := ra5.mono f8.mv
      have hl8 := ra8.length
      rw [List.length_append, List.length_take] at hl8
      refine ⟨vacc5, h8t, by omega, F8, vacc5 ++ [v8], c8.hid st l1t f8t, (f5.trans f8).hidw ht f1t st, (m5.trans f8.mv).trans (.hid st f8t), f8t, upd_same, ?_⟩
      rw [et, ← List.append_assoc]
      exact (ra8.append (.cons r8 .nil)).mono (.hid st f8t)
    · have e : j = xs.length := by omega
      subst e
      rw [List.take_length] at ra5
      exact .inl ⟨⟨vs, sq, by omega⟩, F5, vacc5, c5, f5, f5t, h5t, ra5⟩
  · have e : i = ds.length := by omega
    subst e
    rw [List.take_length] at ra
    exact .inl ⟨k2 rfl, go _ _ H2 (put L1 t (.lst (ds.flatMap ys))) (.ptr t) (c2.shw f2t ⟨vacc, h2t, ra, hz⟩) ((f1.trans f2).shw (f1.nul ht)) (q t l1t)⟩
/-- y = [elt for k, v in e.items() for x in iter1] -/
theorem as_items2 (n : Nat) (own : List (Str × Nat)) (vs1 : List Nat) {y : Str} {py spos apos cpos tpos : Pos} {kk : Nat} {elts : List Expr} {scope : Scope} (hd : DR L d kds) (hi : ∀ L', (L' = L ∨ ∃ t, d = .ptr t ∧ L' = del L t) → AV C e Γ L' d) (ys : D → List D) (hz : ((kds.map itD).flatMap ys).length ≤ sizeLine)
    (hf : ∀ L', Le L' L → ∀ x ∈ kds, Two C scope Γ L' (.Tuple elts kk tpos) tg1 iter1 elt (own.map (·.2)) vs1 (itD x) (ys (itD x))) (q : ∀ p, L p = none → E.nx (Γ.set n (some (.ptr p))) (put L p (.lst ((kds.map itD).flatMap ys))))
    (hy : C.X.N[n]? = some y := by rfl) (hyl : C.X.env.scope.names.lookup y = some .local := by rfl) (hsw : swapsWith (.ListComp elt [⟨.Tuple elts kk tpos, .Call (.Attribute e "items" apos) [] [] cpos, [], 0⟩, ⟨tg1, iter1, [], 0⟩] scope pos) (some (.Name y py)) spos.line C.X.env = pure true := by exact sw_true rfl rfl rfl (by decide +kernel))
    (ok : BlkOk C.X.N C.X.env.scope scope own := by (dsimp only [fctx, bctx, cxOf, envOfC, compEnvC, Cx.blk]; exact blkOk_by (by decide +kernel))) (hv : ∀ i ∈ vs1, i ∈ own.map (·.2) := by decide) (hs : ∀ x, foldedSetIterable (.Call (.Attribute e "items" apos) [] [] cpos) C.X.env x = pure x := by intro _; rfl) (hs1 : ∀ env x, foldedSetIterable iter1 env x = pure x := by intro _ _; rfl)
    (hbase : attributeBase e "items" C.X.env (eval e C.X.env) = eval e C.X.env := by rfl) (hline : (apos.endLine == cpos.line) = true := by rfl) :
    AS C (.Assign [.Name y py] (.ListComp elt [⟨.Tuple elts kk tpos, .Call (.Attribute e "items" apos) [] [] cpos, [], 0⟩, ⟨tg1, iter1, [], 0⟩] scope pos) spos) Γ L E := by
  have ps := ps_setLc2 (wi := WI C.X (.Tuple elts kk tpos) (.Call (.Attribute e "items" apos) [] [] cpos)) (g := gB C scope (.Tuple elts kk tpos)) (tt := tYes) (wi1 := wiB C scope tg1 iter1) (g1 := gB C scope tg1) (tt1 := tYes) (te := teB C scope elt) C.calm C.nd hy hyl hsw pi_wi ok hv
    (fun s H0 Cc cl fp => ⟨fun pins s1 σ1 H1 v u Q1 I r q => (q s H0 Cc cl fp).run pins s1 u I r⟩) (fun s H0 Cc cl fp => pts_nil) (fun s H0 Cc cl fp => ⟨fun pins s1 σ1 H1 Q1 I q => (q s H0 Cc cl fp).run pins s1 I⟩) (fun s H0 Cc cl fp => ⟨fun pins s1 σ1 H1 v u Q1 I r q => (q s H0 Cc cl fp).run pins s1 u I r⟩) (fun s H0 Cc cl fp => pts_nil) (fun s H0 Cc cl fp => ⟨fun pins s1 σ1 H1 Q1 I q => (q s H0 Cc cl fp).run pins s1 I⟩) hs hs1
  intro F σ H okk DD go
  rcases hd with ⟨t, rfl, ht⟩ | rfl
  · obtain ⟨kvs, e0, rr, hk⟩ := okk.con.at_ t _ ht
    have nft := okk.con.nw ht
    refine ws_of (ps_lock ps) ⟨t, .dT kvs, e0, True.intro, fun od => ?_⟩
    have ne : ∀ b u, H b = some u → (∀ k, u ≠ .dT k) → b ≠ t := fun b u eb nd z => by rw [z, e0] at eb; exact nd _ (Option.some.inj eb).symm
    have st : Stay H (upd H t (.frz od (.dT kvs))) := ⟨fun b vs eb => by rw [upd_ne (ne b _ eb fun _ z => nomatch z)]; exact eb, fun b o xs eb => by rw [upd_ne (ne b _ eb fun _ z => nomatch z)]; exact eb, fun b eb => by rw [upd_ne (ne b _ eb fun _ z => nomatch z)]; exact eb⟩
    have mv : Mv F H F (upd H t (.frz od (.dT kvs))) := .hid st nft
    have fr : Fr L F H (del L t) F (upd H t (.frz od (.dT kvs))) := ⟨fun b u eb _ nb => by rw [upd_ne (fun z => by rw [z, ht] at nb; cases nb)]; exact eb, fun b z => upd_live z, st, fun b z => .inl ((del_le t).ne z), mv.fz, mv.fk, fun b z => .inl z⟩
    have c1 : C.Con (del L t) F (upd H t (.frz od (.dT kvs))) := ((okk.con.le (del_le t)).hid st del_same nft)
    have ok1 : Ok C Γ (del L t) F σ (upd H t (.frz od (.dT kvs))) := ⟨okk.sl.mono mv, c1, okk.lr.step fr⟩
    have rr1 := KDs.mono mv rr
    refine lc2_read (Q := fun d L2 => ∃ q, d = .ptr q ∧ del L t q = none ∧ L2 = put (del L t) q (.lst ((kds.map itD).flatMap ys))) ok1 (fun {F9} v d H' L' r c f2 ⟨q', ed, hq, eL⟩ => ?_) (fun RV g2 => ?_)
    · subst ed eL
      obtain ⟨lt, ft, ht'⟩ := f2.hid upd_same (fun _ z => nomatch z) del_same nft
      have hqt : q' ≠ t := fun z => by rw [z, put_same] at lt; cases lt
      obtain ⟨mv2, c2⟩ := unlock c ht' ft (KDs.mono f2.mv rr1) hk
      rw [put_del ht hq hqt] at c2
      have hq0 : L q' = none := by rw [del_ne hqt] at hq; exact hq
      have fr2 : Fr L F H (put L q' (.lst ((kds.map itD).flatMap ys))) F9 (upd H' t (.dT kvs)) := by
        refine ⟨fun b u eb no nb => ?_, fun b z => upd_live (f2.live b (upd_live z)), (st.trans f2.stay).trans mv2.stay, fun b z => ?_, fun b z => f2.fz b z, fun b u z eb => mv2.fk b u (f2.fz b z) (f2.fk b u z (mv.fk b u z eb)), fun b z => ?_⟩
        · have hb : b ≠ t := fun z => by rw [z, ht] at nb; cases nb
          rw [upd_ne hb]
          exact f2.keep b u (by rw [upd_ne hb]; exact eb) no (by rw [del_ne hb]; exact nb)
        · by_cases hb : b = q'
          · rw [hb]
            rcases f2.dom q' (by rw [put_same]; simp) with z2 | z2
            · exact absurd hq z2
            · rw [upd_ne hqt] at z2
              exact .inr z2
          · rw [put_ne hb] at z
            exact .inl z
        · rcases f2.off b z with z | z | z
          · exact .inl z
          · exact .inr (.inl ((del_le t).ne z))
          · by_cases hb : b = t
            · rw [hb, upd_same] at z; cases z
            · rw [upd_ne hb] at z
              exact .inr (.inr z)
      exact ⟨ht', go.nx _ _ _ _ ⟨(okk.sl.mono fr2.mv).set n (r.mono mv2), c2, okk.lr.step fr2⟩ fr2 (q q' hq0)⟩
    · refine wi_of (pi_itT pe_we hbase hline) (hi (del L t) (.inr ⟨t, rfl, rfl⟩) (fun d L2 => d = .ptr t ∧ L2 = del L t) ⟨rfl, rfl⟩ _ σ _ ok1 _ fun v d H2 L2 r2 c2 f2 ⟨ed, eL⟩ => ?_)
      subst ed eL
      have ht2 := f2.keep t _ upd_same (fun _ z => nomatch z) del_same
      refine ⟨t, od, kvs, r2.ptrE, ht2, g2 _ H2 _ (kds.map itD) (fun _ => True) c2 f2 (itit_is (fun F3 L3 H3 s => s.keep t _ ht2 (fun _ z => nomatch z) del_same) (KDs.mono f2.mv rr1) hk) ⟨trivial, ys, hz, fun d hd => ?_, fun p hp => ⟨p, rfl, hp, rfl⟩⟩⟩
      obtain ⟨x, hx, rfl⟩ := List.mem_map.mp hd
      exact hf _ (del_le t) x hx
  · refine ws_of ps (lc2_read (Q := fun d L1 => E.nx (Γ.set n (some d)) L1) okk (fun v d H1 L1 r c f q => go.nx _ H1 _ L1 ⟨(okk.sl.mono f.mv).set n r, c, okk.lr.step f⟩ f q) fun RV g2 => ?_)
    refine wi_of (pi_itT pe_we hbase hline) (hi L (.inl rfl) (fun d L2 => d = .fdct kds ∧ L2 = L) ⟨rfl, rfl⟩ _ σ H okk _ fun v d H1 L1 r c f ⟨ed, eL⟩ => ?_)
    subst ed eL
    obtain ⟨a, kvs, ea, hrd, rr, hk⟩ := DR.fz.at_ c r
    cases r with
    | @fdct a' kvs' _ o hl ha hk' hn he hi =>
      cases ea
      have ekv : kvs = kvs' := by
        rcases hrd with z | ⟨o', z⟩
        · rw [ha] at z; cases z
        · rw [ha] at z; cases z; rfl
      subst ekv
      refine ⟨_, o, kvs, rfl, ha, g2 _ H1 L1 _ (fun _ => True) c f (itit_is (fun F2 L2 H2 s => s.fk _ _ hl ha) rr hk) ⟨trivial, ys, hz, fun d hd => ?_, q⟩⟩
      obtain ⟨x, hx, rfl⟩ := List.mem_map.mp hd
      exact hf _ (.refl _) x hx
end
end DL
namespace GQ2
open PySem PySem.SeqAt GQ
open AutoSeq1 (wpAny_loadPart')
open MeetsSeq MeetsSeq2 MeetsSeq3 SeqRoads2
section
variable {prog : Program} {w : World} {A : Around} {R : Result → Shared → Prop}
theorem tuple_eqH (l b : Addr) (items items2 : Array Value) (n n2 : Nat) (dd dd2 : Option Addr) (sl sl2 : Array (Option Value)) (hsz : items.size = items2.size) (I : Nat → Shared → Prop)
    (turn : ∀ i (h1 : i < items.size) (h2 : i < items2.size) s, I i s → wpAny (model prog w) A.in1 (eqBool items[i] items2[i]) (fun r s' => (r = true → I (i + 1) s') ∧ (r = false → R (.ok (.ret (.bool false))) s')) (fun e s' => R (.error e) s') s)
    (fin : ∀ s, I items.size s → R (.ok (.ret (.bool true))) s) {s : Shared} (hl1 : s.heap.get? l = some { cls := .type "tuple", dict := dd, data := .seq items n, slots := sl }) (hb1 : s.heap.get? b = some { cls := .type "tuple", dict := dd2, data := .seq items2 n2, slots := sl2 }) (h : I 0 s) :
    wpAny (model prog w) A.in1 (Builtin.«tuple.__eq__» ⟨[.ref l, .ref b], []⟩) (FinOf prog w A R) (fun e s' => R (.error e) s') s := by
  have f2 := AutoSeq1.sub_tuple_tuple
  have hZ : (items.toList.zip items2.toList).length = items.size := by simp [hsz]
  have h0 := h
  obtain ⟨hp, g, d, tk, os⟩ := s
  wp_walk using wpAny_loadPart' hl1, wpAny_loadPart' hb1, wpAny_forIn_list _ (fun rest b s' => b.1 = none ∧ ∃ i, rest = (items.toList.zip items2.toList).drop i ∧ i ≤ items.size ∧ I i s') _
  case turn =>
    rintro ⟨y, x⟩ rest b s' ⟨hb', i, hz, hi, hI⟩
    have hlt : i < (items.toList.zip items2.toList).length := by
      rcases Nat.lt_or_ge i (items.toList.zip items2.toList).length with h' | h'
      · exact h'
      · rw [List.drop_of_length_le h'] at hz; cases hz
    have h1 : i < items.size := hZ ▸ hlt
    have h2 : i < items2.size := hsz ▸ h1
    rw [List.drop_eq_getElem_cons hlt] at hz
    injection hz with hyx hrest
    have hy : y = items[i] := by have := congrArg Prod.fst hyx; simpa using this
    have hx : x = items2[i] := by have := congrArg Prod.snd hyx; simpa using this
    subst hy hx
    refine wpAny_bind (wpAny_mono (turn i h1 h2 s' hI) (fun r s2 q2 => ?_) fun _ _ x => x)
    obtain ⟨qt, qf⟩ := q2
    cases r with
    | true =>
      wp_walk
      exact ⟨rfl, i + 1, hrest, h1, qt rfl⟩
    | false =>
      have hf := qf rfl
      wp_walk
      exact hf
  case fin =>
    rintro ⟨b1, b2⟩ s' ⟨hb', i, hz, hi, hI⟩
    simp only at hb'
    subst hb'
    have hge : items.size ≤ i := by
      rcases Nat.lt_or_ge i (items.toList.zip items2.toList).length with h' | h'
      · rw [List.drop_eq_getElem_cons h'] at hz; cases hz
      · exact hZ ▸ h'
    have hi' : i = items.size := by omega
    have hR : R (.ok (.ret (.bool true))) s' := fin s' (hi' ▸ hI)
    wp_walk
    simpa [Builtin.Tuple.tupleCompareSizes, hsz] using hR
  case h =>
    exact ⟨rfl, 0, rfl, Nat.zero_le _, h0⟩
end
section
variable {prog : Program} {w : World} {A : Around} {E : Value → Shared → Prop} {s : Shared}
theorem rc_tupH {l b : Addr} {items items2 : Array Value} {Q : Value → Shared → Prop} (hsz : items.size = items2.size) (hu : A.units < cLine) (I : Nat → Shared → Prop)
    (hl : s.heap.IsTuple l items) (hb : s.heap.IsTuple b items2)
    (turn : ∀ i (h1 : i < items.size) (h2 : i < items2.size) s, I i s → wpAny (model prog w) A.in1 (eqBool items[i] items2[i]) (fun r s' => (r = true → I (i + 1) s') ∧ (r = false → Q (.bool false) s')) E s)
    (fin : ∀ s, I items.size s → Q (.bool true) s) (h : I 0 s) : wpAny (model prog w) A (richCompare .Eq (.ref l) (.ref b)) Q E s := by
  obtain ⟨⟨cls, dd, data, sl⟩, ho, hc, n, hd⟩ := id hl
  obtain ⟨⟨cls2, dd2, data2, sl2⟩, ho2, hc2, n2, hd2⟩ := id hb
  simp only at hc hd hc2 hd2
  subst hc hd hc2 hd2
  refine wpAny_richCompare_same_room (op := .Eq) ⟨_, ho, rfl⟩ ⟨_, ho2, rfl⟩ F.slot_tuple_eq (call_here F.slot_tuple_eq ⟨_, ho, rfl⟩ F.entry_tuple_eq (F.args_tuple_eq_2 _ _) ?_) hu
  exact tuple_eqH (R := wants (fun v s' => v ≠ .notImplemented ∧ Q v s') E) l b items items2 n n2 dd dd2 sl sl2 hsz I (fun i h1 h2 s' q => wpAny_mono (turn i h1 h2 s' q) (fun r s2 z => ⟨z.1, fun e => ⟨(fun x => nomatch x), z.2 e⟩⟩) fun _ _ x => x) (fun s' q => ⟨(fun x => nomatch x), fin s' q⟩) ho ho2 h
end
end GQ2
namespace DL
open PySem PySem.Spec PyProof.Rows L2
/-- x == y as a builtin asks it, somewhere below the running body -/
structure EqI (C : DL.Ctx) (k : Nat) (Γ : Gm) (x y : D) (L : Lp) (Q : Bool → Lp → Prop) : Prop where
  run : ∀ A, Sub C.X k A → ∀ Z σ H, Ok C Γ L Z σ H → ∀ vx vy, Rep C.X.K Z H vx x → Rep C.X.K Z H vy y → ∀ QB : Bool → Hp → Prop, (∀ {Z'} b H' L', C.Con L' Z' H' → Fr L Z H L' Z' H' → Q b L' → QB b H') → ∀ pins s v u, Inv C.X pins σ H s → RelV vx v → RelV vy u →
    wpAny (model C.X.prog C.X.w) A (eqBool v u) (fun r s' => ∃ H', Inv C.X pins σ H' s' ∧ QB r H') C.X.xe s
/-- .. one pair behind the other -/
def EqsI (C : DL.Ctx) (k : Nat) (Γ : Gm) : List D → List D → Lp → (Bool → Lp → Prop) → Prop
  | [], [], L, Q => Q true L
  | x :: xs, y :: ys, L, Q => EqI C k Γ x y L fun b L1 => (b = true → EqsI C k Γ xs ys L1 Q) ∧ (b = false → Q false L1)
  | _, _, _, _ => False
section
variable {C : DL.Ctx} {Γ : Gm} {L : Lp} {x y : D} {k : Nat} {Cl g : Addr} {sp : SpA} {t : Value}
/-- the same object, or by the class's own == -/
theorem eqi_O {Q : Bool → Lp → Prop} (hs : PySem.W.findIn C.X.K (.ref Cl) "__eq__" = some (some (.ref g))) (hf : PySem.W.isFn C.X.K (.ref g) = true) (F : FnA C.X.prog C.X.w C.X.K C.X.mg C.X.base k g sp)
    (ix : IsIns L x Cl) (iy : IsIns L y Cl) (hsame : ∀ {Z H v}, C.Con L Z H → Rep C.X.K Z H v x → Rep C.X.K Z H v y → Q true L) (q : sp [x, y] L (fun d L' => ∃ k, d = .bl k ∧ Q k L') fun _ _ _ => False) : EqI C k Γ x y L Q := ⟨fun A sb Z σ H ok vx vy rx ry QB go pins s v u I r1 r2 => by
  obtain ⟨a, dx, vs, rfl, st⟩ := ix.slt ok.con rx
  obtain ⟨b, dy, ws, rfl, st2⟩ := iy.slt ok.con ry
  cases (show v = Value.ref a from r1)
  cases (show u = Value.ref b from r2)
  by_cases hab : a = b
  · subst hab
    exact SeqAt.EqAt.same (A := A) (s := s) (.ref a) C.X.prog C.X.w C.X.xe _ ⟨H, I, go true H L ok.con (.refl L H) (hsame ok.con rx ry)⟩
  · refine GQ.eqBool_refG hab ?_
    obtain ⟨sl, od, _, J, _⟩ := SlX.slt_inst I st
    obtain ⟨sl', od', _, J', _⟩ := SlX.slt_inst I st2
    obtain ⟨m, hF⟩ := I.fr
    have e0 : Env0 C.X.prog C.X.w C.X.K C.X.mg C.X.base A C.X.stack s H := by
      have e := I.env0
      exact ⟨by rw [sb.fr]; exact e.frames, e.mod, e.bs, e.bsz, e.funs, e.frf, e.hok, e.bare⟩
    refine PySem.W.cmp_K (op := .Eq) (tb := .ref Cl) sb.room.units0 hF I.ok.mod.kin J J'.type (by simp [PySem.W.notFirst]) hs hf ?_
    refine wpAny_mono (wpAny_call (run_fnD (us := [.ref a, .ref b]) (vs := [.ref a, .ref b]) (QV := fun z H' => ∃ k, z = .bl k ∧ QB k H') F sb.room e0 I ok (.cons rfl (.cons rfl .nil)) (.cons rx (.cons ry .nil)) q fun v d H' L' r c f ⟨k, ed, q⟩ => ⟨k, by subst ed; exact r.blE, go k H' L' c f q⟩)) (fun w s' z => ?_) fun _ _ x => x
    obtain ⟨z', H', I', rz, k, ek, qz⟩ := z
    subst ek
    cases rz
    exact ⟨k, rfl, H', I', qz⟩⟩
theorem EqsI.same : ∀ {xs ys : List D} {L : Lp} {Q : Bool → Lp → Prop}, EqsI C k Γ xs ys L Q → xs.length = ys.length ∨ xs ≠ [] := fun {xs ys} _ _ h => by
  cases xs with
  | nil =>
    cases ys with
    | nil => exact .inl rfl
    | cons => exact h.elim
  | cons => exact .inr (fun z => nomatch z)
/-- tuples by their items -/
theorem j_eqTup {xs ys : List D} {Q : D → Lp → Prop} (hr : Room (k + 1) C.X.A) (hl : xs.length = ys.length) (h : EqsI C k Γ xs ys L fun b L' => Q (.bl b) L') : OpJ C (.cmp .Eq) Γ (.tup xs) (.tup ys) L Q := ⟨fun Z σ H ok vx vy rx ry QV go pins s v u I r1 r2 => by
  obtain ⟨a, vs, rfl, ha, ra⟩ := rx.tupE
  obtain ⟨b, ws, rfl, hb, rb⟩ := ry.tupE
  cases (show v = Value.ref a from r1)
  cases (show u = Value.ref b from r2)
  obtain ⟨its, r, e, z⟩ := I.tuple (SqT.of ha)
  obtain ⟨its2, r', e2, z2⟩ := I.tuple (SqT.of hb)
  have hsz : its.toArray.size = its2.toArray.size := by rw [List.size_toArray, List.size_toArray, ← r.length, ← r'.length, ra.length, rb.length]; exact hl
  show wpAny _ _ (richCompare .Eq (.ref a) (.ref b)) _ _ _
  refine GQ2.rc_tupH hsz hr.units0 (fun i s' => ∃ H' L' Z', Inv C.X pins σ H' s' ∧ C.Con L' Z' H' ∧ Fr L Z H L' Z' H' ∧ EqsI C k Γ (xs.drop i) (ys.drop i) L' fun b L' => Q (.bl b) L') e e2 (fun i h1 h2 s' l => ?_) (fun s' l => ?_) ⟨H, L, Z, I, ok.con, .refl L H, by simpa using h⟩
  · obtain ⟨H1, L1, Z1, I1, c1, f1, q⟩ := l
    have g1 : its[i]? = some its.toArray[i] := by
      have h1' : i < its.length := by simpa using h1
      rw [List.getElem?_eq_getElem h1'] <;> simp
    have g2 : its2[i]? = some its2.toArray[i] := by
      have h2' : i < its2.length := by simpa using h2
      rw [List.getElem?_eq_getElem h2'] <;> simp
    have k1 : i < vs.length := by rw [r.length]; simpa using h1
    have k2 : i < ws.length := by rw [r'.length]; simpa using h2
    obtain ⟨u, hu, ru⟩ := r.get (List.getElem?_eq_getElem k1)
    obtain ⟨v, hv, rv⟩ := r'.get (List.getElem?_eq_getElem k2)
    rw [g1] at hu
    rw [g2] at hv
    rw [Option.some.inj hu, Option.some.inj hv]
    have m1 : i < xs.length := by rw [← ra.length]; exact k1
    have m2 : i < ys.length := by rw [← rb.length]; exact k2
    rw [List.drop_eq_getElem_cons m1, List.drop_eq_getElem_cons m2] at q
    have x1 : Rep C.X.K Z1 H1 vs[i] xs[i] := by
      obtain ⟨v0, e0, q0⟩ := ra.get (List.getElem?_eq_getElem m1)
      rw [List.getElem?_eq_getElem k1] at e0
      rw [Option.some.inj e0]
      exact q0.mono f1.mv
    have x2 : Rep C.X.K Z1 H1 ws[i] ys[i] := by
      obtain ⟨v0, e0, q0⟩ := rb.get (List.getElem?_eq_getElem m2)
      rw [List.getElem?_eq_getElem k2] at e0
      rw [Option.some.inj e0]
      exact q0.mono f1.mv
    refine wpAny_mono (q.run C.X.A.in1 ⟨hr.in1, rfl⟩ Z1 σ H1 (ok.step c1 f1) vs[i] ws[i] x1 x2 (fun b H2 => ∃ L2 Z2, C.Con L2 Z2 H2 ∧ Fr L Z H L2 Z2 H2 ∧ ((b = true → EqsI C k Γ (xs.drop (i + 1)) (ys.drop (i + 1)) L2 fun b L' => Q (.bl b) L') ∧ (b = false → Q (.bl false) L2))) (fun b H2 L2 c2 f2 q2 => ⟨L2, _, c2, f1.trans f2, q2⟩) pins s' _ _ I1 ru rv) (fun rr s2 hq => ?_) fun _ _ x => x
    obtain ⟨H2, I2, L2, Z2, c2, f2, qt, qf⟩ := hq
    exact ⟨fun e => ⟨H2, L2, Z2, I2, c2, f2, qt e⟩, fun e => ⟨.bl false, H2, I2, rfl, go _ _ H2 L2 (.bl _) c2 f2 (qf e)⟩⟩
  · obtain ⟨H1, L1, Z1, I1, c1, f1, q⟩ := l
    rw [List.drop_of_length_le (by rw [← ra.length, r.length]; simp), List.drop_of_length_le (by rw [← hl, ← ra.length, r.length]; simp)] at q
    exact ⟨.bl true, H1, I1, rfl, go _ _ H1 L1 (.bl _) c1 f1 q⟩⟩
end
end DL
namespace DL
open PySem PySem.Spec PyProof.Rows L2
section
variable {P : Program} {w : World} {A : Around} {E : Value → Shared → Prop} {s : Shared}
set_option maxHeartbeats 3200000 in
theorem call_setX_tup {l : Addr} {items : Array Value} (xs : List Str) {Q : Value → Shared → Prop} (hh : A.handled = none) (hl : s.heap.IsTuple l items) (hit : StrsAre items.toList xs) (hb : xs.length + 1 < scanBound)
    (h : ∀ (h' : Heap) (tk c : Nat), SetX w h' s.heap.objs.size (fun j => decide (j ∈ xs)) c → c ≤ xs.length → (∀ b o, s.heap.get? b = some o → h'.get? b = some o) → Q (.ref s.heap.objs.size) { s with heap := h', toks := tk }) :
    wpAny (model P w) A (call (.type "set") [.ref l]) Q E s := by
  have hisz : items.size = xs.length := by rw [← StrsAre.len_eq hit, Array.length_toList]
  obtain ⟨c0, tl, hmro⟩ := PySem.F.called_set.mro
  have k_made := PySem.F.called_set.made
  have k_sub := PySem.F.called_set.sub
  refine wpAny_call (codeAny_of_tree ?_)
  show wpAny _ _ (callAny (.type "set") _) _ _ _
  refine wpAny_pure ⟨Code.quiet_builtin _ (by decide +kernel), codeAny_builtin PySem.F.entry_type_call ?_⟩
  rw [Around.under_plain (weight_type_call_type "set" [.ref l] []) rfl]
  have k_1 := PySem.F.called_set.notType
  have k_2 := PySem.F.called_set.canCreate
  have k_3 := PySem.F.typeCall_set_1 (.ref l)
  repeat (any_goals (first | assumption | wp_step))
  refine codeAny_mono (code_set_led1 (.ref l) (E := E) (Q₁ := fun ob s₁ => ob = .ref s.heap.objs.size ∧ s₁ = { s with heap := s.heap.push (freshS w) }) ⟨rfl, rfl⟩) fun r s₁ hr => ?_
  cases r with
  | error e => exact hr
  | ok fl =>
    cases fl with
    | ret ob =>
      obtain ⟨rfl, rfl⟩ := hr
      have hS : (s.heap.push (freshS w)).get? s.heap.objs.size = some (freshS w) := Heap.get?_push_size _ rfl
      have hT : Shared.TypeIs { s with heap := s.heap.push (freshS w) } (.ref s.heap.objs.size) "set" := ⟨_, hS, rfl⟩
      have k_4 := PySem.F.called_set.init.lookup
      have k_5 := PySem.F.called_set.init.bind (.ref s.heap.objs.size)
      repeat (any_goals (first | assumption | wp_step))
      refine codeAny_mono (codeAny_call_builtin (R := wants (fun r s₂ => r = .none ∧ ∃ h' tk c, s₂ = { s with heap := h', toks := tk } ∧ SetX w h' s.heap.objs.size (fun j => decide (j ∈ xs)) c ∧ c ≤ xs.length ∧
          (∀ b o, s.heap.get? b = some o → h'.get? b = some o)) E) PySem.F.called_set.init.plain PySem.F.entry_set_init (check_set_init_1 hT ?_)) fun r₂ s₂ hr₂ => ?_
      · obtain ⟨ol, hol, hcl, nl, hdl⟩ := hl
        obtain ⟨ocls, odict, odata, oslots⟩ := ol
        simp only at hcl hdl
        subst hcl; subst hdl
        have hol' : (s.heap.push (freshS w)).get? l = some { cls := .type "tuple", dict := odict, data := .seq items nl, slots := oslots } := Heap.get?_push_of_some _ hol
        have k_6 := PySem.F.sub_tuple_set
        have k_7 := PySem.F.sub_tuple_frozenset
        have k_8 : (Value.type "tuple" == Value.type "dict") = false := by decide
        have hl1 : (s.heap.push (freshS w)).IsTuple l items := ⟨_, hol', rfl, nl, rfl⟩
        unfold Builtin.«set.__init__» noKeywords Builtin.Frozenset.updateFrom
        generalize hPI : pyIter = PI
        wp_walk
        subst hPI
        refine wpAny_pyIter_tuple hl1 ?_
        refine wpAny_bind (wpAny_runValue ?_)
        have hlS : l < s.heap.objs.size := Heap.lt_size hol
        have hh3 : A.in1.in1.in1.handled = none := by simp [hh]
        have hz1 : (s.heap.push (freshS w)).objs.size = s.heap.objs.size + 1 := Heap.size_push ..
        have hneI : l ≠ (s.heap.push (freshS w)).objs.size := by
          rw [hz1]; exact Nat.ne_of_lt (Nat.lt_succ_of_lt hlS)
        have hSf : s.heap.objs.size ∉ [(s.heap.push (freshS w)).objs.size, l] := by
          rw [hz1]; simp only [List.mem_cons, List.not_mem_nil, or_false, not_or]
          exact ⟨Nat.ne_of_lt (Nat.lt_succ_self _), Nat.ne_of_gt hlS⟩
        have hval : ∀ (i : Nat) (v : Value), items[i]? = some v → ∃ k t, xs[i]? = some k ∧ v = .str k t := fun i v hv => by
          have hi : i < xs.length := by rw [← hisz]; exact (Array.getElem?_eq_some_iff.mp hv).1
          obtain ⟨t, e⟩ := SS.strs_at hit i v (by rw [Array.getElem?_toList]; exact hv)
          refine ⟨xs[i], t, List.getElem?_eq_getElem hi, ?_⟩
          rw [e, List.getD_eq_getElem?_getD, List.getElem?_eq_getElem hi] <;> rfl
        refine setX_loop ((Walks.tuple hh3 _ l hneI items).toS) s.heap.objs.size
          hSf xs hisz hb hval (items.size - 0) 0 _ (by omega) (Nat.zero_le _)
          ⟨⟨_, Heap.get?_push_size _ rfl, rfl, rfl⟩, (hl1.at fun o z => Heap.get?_push_of_some _ z)⟩ ?hS0 ?hR
        case hS0 =>
          refine ⟨0, Nat.le_refl 0, (setX_fresh (Heap.get?_push_of_some _ hS)).congr fun k => ?_⟩
          simp
        case hR =>
          intro s' c' hm hc' hS'
          obtain ⟨h', g2, d', tk', os'⟩ := s'
          obtain rfl : g2 = s.gens := hm.gens
          obtain rfl : d' = s.drawn := hm.drawn
          obtain rfl : os' = s.os := hm.os
          show wpAny _ _ _ _ _ _
          refine wpAny_pure ?_
          show wpAny _ _ (ret Value.none) _ _ _
          rw [hisz] at hc'
          refine wpAny_pure ⟨rfl, h', tk', c', rfl, hS', hc', fun b o e => ?_⟩
          have hb0 : b < s.heap.objs.size := Heap.lt_size e
          refine hm.heap b o ?_ (Heap.get?_push_of_some _ (Heap.get?_push_of_some _ e))
          rw [hz1]
          simp only [List.mem_cons, List.not_mem_nil, or_false, not_or]
          exact ⟨Nat.ne_of_lt hb0, Nat.ne_of_lt (Nat.lt_succ_of_lt hb0)⟩
      · cases r₂ with
        | error e => exact hr₂
        | ok fl₂ =>
          cases fl₂ with
          | ret r =>
            obtain ⟨rfl, h', tk, c', rfl, hS', hc', hk'⟩ := hr₂
            repeat (any_goals (first | assumption | wp_step))
            exact h _ _ _ hS' hc' hk'
          | _ => exact hr₂.elim
    | _ => exact hr.elim
end
section
variable {X : Cx}
/-- set(tuple of texts) -/
abbrev rSetT (K : PySem.W.Frag) (w : World) : List V → Hp → VK → Prop := fun vs H Q => ∃ (l : Addr) (xs : List Str), vs = [.ref l] ∧ SqT K H l (xs.map V.str) ∧ xs.length + 1 < scanBound ∧
  ∀ a n, H a = none → n ≤ xs.length → Q (.ref a) (upd H a (.ext fun h => SetX w h a (fun k => decide (k ∈ xs)) n))
theorem cr_setT (hc : X.calm = true) : CallR X (.type "set") (rSetT X.K X.w) := fun pins s σ H vs us Q I r ⟨l, xs, ev, hl, hb, q⟩ => by
  subst ev
  obtain ⟨u, rfl, ru⟩ := vals1 r
  obtain rfl : u = Value.ref l := ru
  obtain ⟨its, rv, pl, hz⟩ := I.tuple hl
  have hn : H s.heap.objs.size = none := I.hok.fresh (Nat.le_refl _)
  refine call_setX_tup (P := X.prog) (w := X.w) xs (I.ok.hd hc) pl (by simpa using strs_vals rv) hb fun h' tk c R hle k => ?_
  exact ⟨.ref s.heap.objs.size, _, I.laid (t' := tk) k (Nat.le_refl _) (setX_obj R), rfl, q _ c hn hle⟩
end
section
variable {C : DL.Ctx} {Γ : Gm} {L : Lp} {Q : D → Lp → Prop} {x y : D}
theorem c_setT {xs : List Str} (hb : xs.length + 1 < scanBound) (q : ∀ l n, L l = none → n ≤ xs.length → Q (.ptr l) (put L l (.txs (fun k => decide (k ∈ xs)) n))) : LcR C (rSetT C.X.K C.X.w) [.tup (xs.map D.str)] L Q := fun F vs H c r0 QV go => by
  obtain ⟨v, rfl, r⟩ := r0.oneE
  obtain ⟨p, ws, rfl, ha, ra⟩ := r.tupE
  have e := reps_strs ra
  subst e
  refine ⟨p, xs, rfl, SqT.of ha, hb, fun l n hl hn => go _ _ _ (put L l (.txs (fun k => decide (k ∈ xs)) n)) (.ptr l) (c.newL hl ⟨upd_same, fun k hk => ?_⟩) (.newL hl) (q l n (c.free hl) hn)⟩
  obtain ⟨i, hi⟩ := List.getElem?_of_mem (of_decide_eq_true hk)
  obtain ⟨v, _, rv⟩ := ra.get (show (xs.map D.str)[i]? = some (.str k) by rw [List.getElem?_map, hi]; rfl)
  exact rv.bnd
/-! lists of plain data, == and != -/
theorem LR.dp {ds : List D} {F : Fz} {H : Hp} {v : V} (h : LR L x ds) (c : C.Con L F H) (r : Rep C.X.K F H v x) (ok : okDs ds = true) : Dp C.X.K H v (.list (pys ds)) ∧ (PyData.list (pys ds)).canLay0 = true := by
  obtain ⟨a, vs, rfl, ha, ra, _⟩ := h.at_ c r
  obtain ⟨h1, h2⟩ := Reps.dp ds vs ok ra
  exact ⟨.lst (SqL.of ha) h1, by rw [PyData.canLay0]; exact h2⟩
theorem dep_list {α : Type} [Enc α] (xs : List α) (h : Enc.dep α ≤ 63) : (PyData.list (pys (xs.map (Enc.enc (α := α))))).depth ≤ 64 := by
  have := depAll (ds := pys (xs.map (Enc.enc (α := α)))) (n := 63) fun d hd => by
    rw [pys_map] at hd
    obtain ⟨z, _, rfl⟩ := List.mem_map.mp hd
    exact Nat.le_trans (Enc.dpt z) h
  have e : (PyData.list (pys (xs.map (Enc.enc (α := α))))).depth = (PyData.tuple (pys (xs.map (Enc.enc (α := α))))).depth := by simp only [PyData.depth]
  rw [e]
  exact this
theorem eqv_list {α : Type} [Enc α] [DecidableEq α] (xs ys : List α) : PyData.eqv (.list (pys (xs.map (Enc.enc (α := α))))) (.list (pys (ys.map Enc.enc))) = decide (xs = ys) := by
  have h := eqv_dec (α := List α) xs ys
  rw [← h]
  show _ = PyData.eqv (py (.tup _)) (py (.tup _))
  rw [py, py]
  simp only [PyData.eqv]
theorem eq_LL {α : Type} [Enc α] [DecidableEq α] {xs ys : List α} (hx : LR L x (xs.map Enc.enc)) (hy : LR L y (ys.map Enc.enc)) (q : Q (.bl (decide (xs = ys))) L) (h : Enc.dep α ≤ 63 := by decide) : L2R C (rEqA C.X.K) x y L Q := by
  unfold rEqA
  refine .ri fun F vx vy H c rx ry QV go => ?_
  obtain ⟨a1, a2⟩ := hx.dp c rx (plDs_ok _ (plDs_map _ _ fun z _ => Enc.pl z))
  obtain ⟨b1, b2⟩ := hy.dp c ry (plDs_ok _ (plDs_map _ _ fun z _ => Enc.pl z))
  refine ⟨_, _, a1, b1, shaped_of a2 (dep_list xs h), shaped_of b2 (dep_list ys h), ?_⟩
  rw [eqv_list]
  exact go _ _ H L (.bl _) c (.refl L H) q
theorem ne_LL {α : Type} [Enc α] [DecidableEq α] {xs ys : List α} (hx : LR L x (xs.map Enc.enc)) (hy : LR L y (ys.map Enc.enc)) (q : Q (.bl (!decide (xs = ys))) L) (h : Enc.dep α ≤ 63 := by decide) : L2R C (rNeA C.X.K) x y L Q := by
  unfold rNeA
  refine .ri fun F vx vy H c rx ry QV go => ?_
  obtain ⟨a1, a2⟩ := hx.dp c rx (plDs_ok _ (plDs_map _ _ fun z _ => Enc.pl z))
  obtain ⟨b1, b2⟩ := hy.dp c ry (plDs_ok _ (plDs_map _ _ fun z _ => Enc.pl z))
  refine ⟨_, _, a1, b1, shaped_of a2 (dep_list xs h), shaped_of b2 (dep_list ys h), ?_⟩
  rw [eqv_list]
  exact go _ _ H L (.bl _) c (.refl L H) q
theorem ne_B {a b : Bool} (q : Q (.bl (a != b)) L) : L2R C (rNeA C.X.K) (.bl a) (.bl b) L Q := by
  refine ne_D rfl rfl (by cases a <;> decide) (by cases b <;> decide) ?_
  have e : (!PyData.eqv (py (.bl a)) (py (.bl b))) = (a != b) := by cases a <;> cases b <;> decide
  rw [e]
  exact q
end
end DL
namespace DL
open PySem PySem.Spec PyProof.Rows L2
/-! ### tuples of texts that are known to be no more than tuples -/
def dU (ys : List Str) : D := .wds ys
theorem Rep.wdsE {K : PySem.W.Frag} {F : Fz} {H : Hp} {v : V} {ys : List Str} (r : Rep K F H v (.wds ys)) : ∃ a o, v = .ref a ∧ F a ∧ H a = some (.frz o (.tup (ys.map V.str))) ∧ o.dict = none ∧ ys.length ≤ sizeLine ∧ ∀ y ∈ ys, SOk y := by
  cases r with
  | wds hl h ho hz hs => exact ⟨_, _, rfl, hl, h, ho, hz, hs⟩
theorem reps_strs_of {K : PySem.W.Frag} {F : Fz} {H : Hp} : ∀ {ys : List Str}, (∀ y ∈ ys, SOk y) → Reps K F H (ys.map V.str) (ys.map D.str)
  | [], _ => .nil
  | y :: ys, h => .cons (.str y (h y List.mem_cons_self)) (reps_strs_of fun z hz => h z (List.mem_cons_of_mem _ hz))
/-- a tuple of either kind -/
def TS (d : D) (xs : List D) : Prop := d = .tup xs ∨ ∃ ys, d = .wds ys ∧ xs = ys.map .str
theorem TS.u (ys : List Str) : TS (.wds ys) (ys.map .str) := .inr ⟨ys, rfl, rfl⟩
theorem TS.t (xs : List D) : TS (.tup xs) xs := .inl rfl
theorem TS.at_ {K : PySem.W.Frag} {F : Fz} {H : Hp} {v : V} {d : D} {xs : List D} (h : TS d xs) (r : Rep K F H v d) : ∃ a vs, v = .ref a ∧ Reps K F H vs xs ∧ xs.length ≤ sizeLine ∧ SqT K H a vs ∧ ∀ {F' H'}, Mv F H F' H' → SqT K H' a vs := by
  rcases h with rfl | ⟨ys, rfl, rfl⟩
  · have hb := r.bnd
    obtain ⟨a, vs, rfl, ha, ra⟩ := r.tupE
    exact ⟨a, vs, rfl, ra, hb, SqT.of ha, fun m => SqT.of (m.stay.tup _ _ ha)⟩
  · obtain ⟨a, o, rfl, fa, ha, _, hz, hs⟩ := r.wdsE
    exact ⟨a, _, rfl, reps_strs_of hs, by rw [List.length_map]; exact hz, .inl (.inr ⟨o, ha⟩), fun m => .inl (.inr ⟨o, m.fk _ _ fa ha⟩)⟩
section
variable {C : DL.Ctx} {Γ : Gm} {L : Lp} {Q : D → Lp → Prop} {pos p p2 apos : Pos} {e e2 o tg : Expr} {es : List Expr} {ys : List Str} {d : D} {xs : List D}
/-! ### made -/
abbrev rTupW (K : PySem.W.Frag) : List V → Hp → VK → Prop := fun xs H Q => ∃ p, ∃ ys : List Str, xs = [.ref p] ∧ SqL K H p (ys.map V.str) ∧ ∀ l o, H l = none → o.dict = none → Q (.ref l) (upd H l (.frz o (.tup (ys.map V.str))))
theorem call_tupW {X : Cx} : CallR X (.type "tuple") (rTupW X.K) := by
  intro pins s σ H xs us Q I r h
  obtain ⟨p, ys, rfl, hq, q⟩ := h
  obtain ⟨u, rfl, rx⟩ := r.one
  cases rx
  obtain ⟨its, r', pl, hz⟩ := I.list hq
  have hlen := r'.length
  refine call_tuple_list pl.isList (fun h' kp => ?_) (by simp only [List.size_toArray] <;> omega)
  have I1 : Inv X pins σ H { s with heap := h' } := I.kept (t' := s.toks) kp
  have hg : (h'.push { cls := .type "tuple", data := .seq its.toArray }).get? h'.objs.size = some { cls := .type "tuple", data := .seq its.toArray } := Heap.get?_push_size _ rfl
  have I2 : Inv X pins σ (upd H h'.objs.size (.frz { cls := .type "tuple", data := .seq its.toArray } (.tup (ys.map V.str)))) { s with heap := h'.push { cls := .type "tuple", data := .seq its.toArray } } :=
    I1.laid (t' := s.toks) (fun b o e => Heap.get?_push_of_some _ e) (Nat.le_refl _) (show ObjOk X.prog X.w _ _ _ (.frz _ (.tup (ys.map V.str))) from ⟨hg, hz, its, r', IsTup.new _ _⟩)
  exact ⟨.ref h'.objs.size, _, I2, rfl, q _ _ (I1.hok.fresh (Nat.le_refl _)) rfl⟩
theorem frzNew {F : Fz} {H : Hp} {l : Addr} {ob : Obj} {u : HO} (c : C.Con L F H) (hl : H l = none) : C.Con L (fun b => F b ∨ b = l) (upd H l (.frz ob u)) ∧ Fr L F H L (fun b => F b ∨ b = l) (upd H l (.frz ob u)) := by
  have f0 : Fr L F H L F (upd H l (.frz ob u)) := .new hl
  have c0 := c.new (o := .frz ob u) hl
  have mv : Mv F (upd H l (.frz ob u)) (fun b => F b ∨ b = l) (upd H l (.frz ob u)) := ⟨.refl _, fun b z => .inl z, fun b o z e => e⟩
  refine ⟨⟨fun b o e => (c0.at_ b o e).mono mv rfl, fun b z => ?_⟩, f0.keep, f0.live, f0.stay, f0.dom, fun b z => .inl z, fun b o z e => f0.fk b o z e, fun b z => ?_⟩
  · rcases z with z | z
    · exact c0.fz b z
    · rw [z]
      exact ⟨c.free hl, .frz ob u, upd_same, fun y e => (by cases e), fun e => (by cases e)⟩
  · rcases z with z | z
    · exact .inl z
    · rw [z]
      exact .inr (.inr hl)
theorem c_tupW {p : Addr} (hp : L p = some (.lst (ys.map .str))) (q : Q (.wds ys) L) : LcR C (rTupW C.X.K) [.ptr p] L Q := fun F vs H c r0 QV go => by
  obtain ⟨v, rfl, r⟩ := r0.oneE
  obtain ⟨ws, ha, ra, hz⟩ := c.at_ p _ hp
  have hs := reps_strOk ra
  have ev := reps_strs ra
  subst ev
  refine ⟨p, ys, by rw [r.ptrE], SqL.of ha, fun l ob hl ho => ?_⟩
  obtain ⟨c2, f2⟩ := frzNew (ob := ob) (u := .tup (ys.map V.str)) c hl
  exact go _ _ _ L (.wds (.inr rfl) upd_same ho (by rw [List.length_map] at hz; exact hz) hs) c2 f2 q
theorem ae_tupW (hm : C.X.mg "tuple" = none) (h : AL C e Γ L fun ds L1 => ∃ ys, ds = ys.map .str ∧ Q (.wds ys) L1) (hg : Gl C.X "tuple" := by rfl) (he : starEach [e] C.X.env = [(false, eval e C.X.env)] := by rfl) : AE C (.Call (.Name "tuple" p) [e] [] pos) Γ L Q :=
  AE.drop (ae_callT call_tupW hm (aa_cons (AE.mono (ae_L (Q := fun d L2 => ∃ L1 p ys, d = .ptr p ∧ L1 p = none ∧ L2 = put L1 p (.lst (ys.map .str)) ∧ Q (.wds ys) L1) (h.mono fun ds L1 ⟨ys, e, q⟩ p hp => ⟨L1, p, ys, rfl, hp, by rw [e], q⟩)) fun d L2 ⟨L1, p, ds, ed, hn, eL, q⟩ => by
    subst ed eL
    exact aa_nil (c_tupW put_same ⟨L1, le_put hn, q⟩)) he) (hg := hg) (he := he))
/-- of a list of the store, that stays -/
theorem ae_tupWp (hm : C.X.mg "tuple" = none) (h : AE C e Γ L fun d L1 => ∃ a ys, d = .ptr a ∧ L1 a = some (.lst (ys.map .str)) ∧ Q (.wds ys) L1) (hg : Gl C.X "tuple" := by rfl) (he : starEach [e] C.X.env = [(false, eval e C.X.env)] := by rfl) : AE C (.Call (.Name "tuple" p) [e] [] pos) Γ L Q :=
  ae_callT call_tupW hm (aa_cons (h.mono fun d L2 ⟨a, ys, ed, ha, q⟩ => by
    subst ed
    exact aa_nil (c_tupW ha q)) he) (hg := hg) (he := he)
/-! ### used -/
theorem len_U (q : Q (.int ys.length) L) : LcR C (rLenA C.X.K) [.wds ys] L Q := by
  unfold rLenA
  exact .le fun F vs H c r0 QV go => by
    obtain ⟨v, rfl, r⟩ := r0.oneE
    obtain ⟨a, vs, rfl, rs, hz, hq, _⟩ := (TS.u ys).at_ r
    refine ⟨a, vs, rfl, .inr hq, ?_⟩
    rw [rs.length, List.length_map]
    exact go _ _ H L (.int _) c (.refl L H) q
theorem in_U {x : Str} (q : Q (.bl (decide (x ∈ ys))) L) : L2R C (rInA C.X.K) (.str x) (.wds ys) L Q := by
  unfold rInA
  exact .ri (.ri fun F vx vy H c rx ry QV go => by
  obtain ⟨p, ws, rfl, ra, _, hq, _⟩ := (TS.u ys).at_ ry
  have e := reps_strs ra
  subst e
  refine ⟨p, _, rfl, .inr hq, by rw [rx.strE]; rfl, by rw [List.all_map]; exact List.all_eq_true.mpr fun _ _ => rfl, ?_⟩
  rw [rx.strE]
  show QV (.bl (inV (.str x) (ys.map V.str))) H
  rw [inV_strs]
  exact go _ _ H L (.bl _) c (.refl L H) q)
theorem notIn_U {x : Str} (q : Q (.bl (!decide (x ∈ ys))) L) : L2R C (rNotInA C.X.K) (.str x) (.wds ys) L Q := by
  unfold rNotInA
  refine .ri fun F vx vy H c rx ry QV go => ?_
  obtain ⟨p, ws, rfl, ra, _, hq, _⟩ := (TS.u ys).at_ ry
  have e := reps_strs ra
  subst e
  refine ⟨p, _, rfl, .inr hq, by rw [rx.strE]; rfl, by rw [List.all_map]; exact List.all_eq_true.mpr fun _ _ => rfl, ?_⟩
  rw [rx.strE]
  show QV (.bl (!inV (.str x) (ys.map V.str))) H
  rw [inV_strs]
  exact go _ _ H L (.bl _) c (.refl L H) q
theorem ixa_U {i : Int} (q : Q d L) (h : atI (ys.map D.str) i = some d) : L2R C (rIxA C.X.K) (.wds ys) (.int i) L Q := by
  unfold rIxA
  exact .le fun F vx vy H c rx ry QV go => by
    obtain ⟨a, vs, rfl, ra, _, hq, _⟩ := (TS.u ys).at_ rx
    obtain ⟨v, h1, h2⟩ := atI_reps ra h
    exact ⟨a, vs, i, v, rfl, ry.intE, hq, h1, go _ _ H L h2 c (.refl L H) q⟩
theorem sla_U {lo hi : Option Int} (q : ∀ d2, TS d2 (cut (ys.map D.str) lo hi) → Q d2 L) : LsR C (rSlAA C.X.K) (.wds ys) lo hi L Q := by
  unfold rSlAA
  exact fun F v H c r QV go => .inl (by
    obtain ⟨a, vs, rfl, ra, hz, hq, _⟩ := (TS.u ys).at_ r
    refine ⟨a, vs, rfl, hq, fun h => ?_, fun _ p hp => ?_⟩
    · rw [ra.length] at h
      exact go _ _ H L r c (.refl L H) (q _ (by rw [cut_whole h]; exact .u ys))
    · exact go _ _ _ L (Rep.tupI upd_same ((ra.cut lo hi).mono (.new hp)) (Nat.le_trans (cut_len _ lo hi) hz)) (c.new hp) (.new hp) (q _ (.t _)))
theorem isi_U (q : Q (.bl true) L) : LcR C (rIsi C.X.K) [.wds ys, .ty "tuple"] L Q := fun F vs H c r QV go => by
  obtain ⟨v, w, rfl, r1, r2⟩ := r.twoE
  rw [r2.tyE]
  obtain ⟨a, ob, rfl, _, ha, _⟩ := r1.wdsE
  exact ⟨.ref a, .ty "tuple", .type "tuple", .type "tuple", true, rfl, .ty "tuple", .fTuple ha, kit_ty (by exact (by decide +kernel : kitB "tuple" "tuple" = some true)), go _ _ H L (.bl _) c (.refl L H) q⟩
theorem dp_U {K : PySem.W.Frag} {F : Fz} {H : Hp} {v : V} (r : Rep K F H v (.wds ys)) : Dp K H v (py (Enc.enc ys)) ∧ (py (Enc.enc ys)).canLay0 = true := by
  obtain ⟨a, ob, rfl, fa, ha, _, hz, hs⟩ := r.wdsE
  have ra : Reps K F H (ys.map V.str) (ys.map D.str) := reps_strs_of hs
  obtain ⟨h1, h2⟩ := Reps.dp (ys.map D.str) _ (plDs_ok _ (plDs_map _ _ fun x _ => by rw [plD])) ra
  show Dp K H (.ref a) (py (.tup (ys.map D.str))) ∧ (py (.tup (ys.map D.str))).canLay0 = true
  rw [py]
  exact ⟨.tup (.inl (.inr ⟨ob, ha⟩)) h1, by rw [PyData.canLay0]; exact h2⟩
theorem eq_UU {zs : List Str} (q : Q (.bl (decide (ys = zs))) L) : L2R C (rEqA C.X.K) (.wds ys) (.wds zs) L Q := by
  unfold rEqA
  exact .ri fun F vx vy H c rx ry QV go => by
    obtain ⟨a1, a2⟩ := dp_U rx
    obtain ⟨b1, b2⟩ := dp_U ry
    have hd : ∀ us : List Str, (py (Enc.enc us)).depth ≤ 64 := fun us => Nat.le_trans (Enc.dpt us) (show Enc.dep (List Str) ≤ 64 by decide)
    refine ⟨_, _, a1, b1, shaped_of a2 (hd ys), shaped_of b2 (hd zs), ?_⟩
    rw [eqv_dec]
    exact go _ _ H L (.bl _) c (.refl L H) q
theorem ne_UU {zs : List Str} (q : Q (.bl (!decide (ys = zs))) L) : L2R C (rNeA C.X.K) (.wds ys) (.wds zs) L Q := by
  unfold rNeA
  exact .ri fun F vx vy H c rx ry QV go => by
    obtain ⟨a1, a2⟩ := dp_U rx
    obtain ⟨b1, b2⟩ := dp_U ry
    have hd : ∀ us : List Str, (py (Enc.enc us)).depth ≤ 64 := fun us => Nat.le_trans (Enc.dpt us) (show Enc.dep (List Str) ≤ 64 by decide)
    refine ⟨_, _, a1, b1, shaped_of a2 (hd ys), shaped_of b2 (hd zs), ?_⟩
    rw [eqv_dec]
    exact go _ _ H L (.bl _) c (.refl L H) q
theorem aa_starT {Q : List D → Lp → Prop} (h : AE C e Γ L fun d L1 => ∃ xs, TS d xs ∧ AA C es Γ L1 fun ds L2 => Q (xs ++ ds) L2) (hs : starEach (.Starred e p :: es) C.X.env = (true, eval e C.X.env) :: starEach es C.X.env := by rfl) : AA C (.Starred e p :: es) Γ L Q := fun F σ H ok QV go =>
  wa_of (StX.pa_star pe_we pa_we hs) (h _ σ H ok _ fun v d H1 L1 r c f ⟨xs, hd, q⟩ => by
    obtain ⟨a, vs, rfl, ra, _, hq, _⟩ := hd.at_ r
    exact ⟨a, vs, rfl, .inl hq, q _ σ H1 (ok.step c f) _ fun ws ds H2 L2 r2 c2 f2 q2 => go (vs ++ ws) (xs ++ ds) H2 L2 ((ra.mono f2.mv).append r2) c2 (f.trans f2) q2⟩)
theorem ai_ts {R : List D → (Lp → Prop) → Lp → Prop} (h : AE C e Γ L fun d L1 => ∃ ds, TS d ds ∧ (ds.length ≤ sizeLine → R ds (fun _ => True) L1)) : AI C tg e Γ L R := fun F σ H ok RV go =>
  wi_of (pi_tup pe_we) (h _ σ H ok _ fun v d H1 L1 r c f ⟨ds, ht, q⟩ => by
    obtain ⟨a, vs, rfl, ra, hz, hq0, hqs⟩ := ht.at_ r
    refine ⟨a, rfl, ⟨vs, hq0⟩, go _ H1 L1 ds (fun _ => True) c f (fun i H2 L2 s2 c2 _ => ?_) (q hz)⟩
    have hq : SqT C.X.K H2 a vs := hqs s2.mv
    refine ⟨fun hi => ⟨vs, vs[i]'(by rw [ra.length]; exact hi), hq, List.getElem?_eq_getElem _⟩, fun hi => ⟨vs, hq, by rw [ra.length, hi]; exact Nat.le_refl _⟩, fun x H' y hi => ?_⟩
    obtain ⟨e1, y⟩ := y
    subst e1
    obtain ⟨d, hd, rd⟩ := ra.getV (y vs hq)
    exact ⟨d, hd, rd.mono s2.mv, .inl rfl⟩)
theorem ai_zipTS {tpos : Pos} {elts : List Expr} {kk : Nat} {R : List D → (Lp → Prop) → Lp → Prop} (hm : C.X.mg "zip" = none) (h : AA C [e, e2] Γ L fun ds L1 => ∃ d1 d2 xs ys, ds = [d1, d2] ∧ TS d1 xs ∧ TS d2 ys ∧ (xs.length ≤ sizeLine → R (zipD xs ys) (fun _ => True) L1)) (hg : Gl C.X "zip" := by rfl)
    (hs : starEach [e, e2] C.X.env = (false, eval e C.X.env) :: starEach [e2] C.X.env := by rfl) (hpl : (backTo pos (starEach [e2] C.X.env)).any (·.1) = false := by rfl) : AI C (.Tuple elts kk tpos) (.Call (.Name "zip" p) [e, e2] [] pos) Γ L R := fun F σ H ok RV go =>
  wi_of (RZ.pi_zipA hg hm pa_we hs hpl) (h _ σ H ok _ fun vs ds H1 L1 r c f ⟨d1, d2, xs, ys, ed, t1, t2, q⟩ => by
    subst ed
    obtain ⟨v, w, rfl, r1, r2⟩ := r.twoE
    obtain ⟨x, vx, rfl, rx, hz, hx, kx⟩ := t1.at_ r1
    obtain ⟨y, vy, rfl, ry, _, hy, ky⟩ := t2.at_ r2
    refine ⟨x, y, vx, vy, rfl, .inr ⟨hx, hy, go _ H1 L1 _ _ c f (fun i H L s cc g => ?_) (q hz)⟩⟩
    have hx' := kx s.mv
    have hy' := ky s.mv
    have hl : (zipD xs ys).length = min xs.length ys.length := by unfold zipD; simp
    have l1 := rx.length
    have l2 := ry.length
    rw [hl]
    refine ⟨fun h => ?_, fun h => ⟨vx, vy, hx', hy', ?_⟩, fun v H' yy hi => ?_⟩
    · have h1 : i < vx.length := by rw [l1]; exact Nat.lt_of_lt_of_le h (Nat.min_le_left _ _)
      have h2 : i < vy.length := by rw [l2]; exact Nat.lt_of_lt_of_le h (Nat.min_le_right _ _)
      exact ⟨vx, vy, vx[i], vy[i], hx', hy', List.getElem?_eq_getElem h1, List.getElem?_eq_getElem h2⟩
    · omega
    · obtain ⟨T, x1, y1, e1, nT, e2, k1, k2⟩ := yy
      subst e1 e2
      obtain ⟨d1, g1, q1⟩ := rx.getV (k1 vx hx')
      obtain ⟨d2, g2, q2⟩ := ry.getV (k2 vy hy')
      have s2 : Mv _ H1 _ (upd H T (.tup [x1, y1])) := s.mv.trans (.new nT)
      refine ⟨.tup [d1, d2], ?_, Rep.tupI upd_same (.cons (q1.mono s2) (.cons (q2.mono s2) .nil)) (by show 2 ≤ sizeLine; decide), .inr ⟨T, _, nT, rfl⟩⟩
      unfold zipD
      rw [List.getElem?_zipWith, g1, g2])
/-- t.index(x) -/
theorem idx_first {z : Str} (hz : z ∈ ys) : ys[ys.idxOf z]? = some z ∧ ∀ m, m < ys.idxOf z → ys[m]? ≠ some z := by
  have hi := List.idxOf_lt_length_iff.mpr hz
  refine ⟨by rw [List.getElem?_eq_getElem hi, List.getElem_idxOf], fun m hm e => ?_⟩
  obtain ⟨hm2, e2⟩ := List.getElem?_eq_some_iff.mp e
  have := List.not_of_lt_findIdx (xs := ys) (p := (· == z)) (i := m) hm
  rw [e2] at this
  simp at this
theorem ae_idxU (h : AE C o Γ L fun x L1 => ∃ ys, x = .wds ys ∧ AE C e Γ L1 fun y L2 => ∃ z, y = .str z ∧ z ∈ ys ∧ Q (.int (ys.idxOf z : Nat)) L2)
    (hbase : attributeBase o "index" C.X.env (eval o C.X.env) = eval o C.X.env := by rfl)
    (hfew : ((backTo pos (starEach [e] C.X.env)).all (fun x => !x.1) && (backToKw pos (keywordEach [] C.X.env)).all (fun x => x.1.isSome)
      && decide ([e].length + ([] : List Keyword).length + (if ([] : List Keyword).isEmpty then 0 else 1) < 30)) = true := by rfl)
    (hline : (apos.endLine == pos.line) = true := by rfl) (hs : starEach [e] C.X.env = (false, eval e C.X.env) :: starEach [] C.X.env := by rfl) (hplain : (backTo pos (starEach [] C.X.env)).any (·.1) = false := by rfl) : AE C (.Call (.Attribute o "index" apos) [e] [] pos) Γ L Q := fun Z σ H ok QV go => ⟨fun pins s I => by
  refine wpAny_Call_method_late hbase hfew hline rfl (thn ((h Z σ H ok (fun v H1 => ∃ x L1 Z1, Rep C.X.K Z1 H1 v x ∧ C.Con L1 Z1 H1 ∧ Fr L Z H L1 Z1 H1 ∧ ∃ ys, x = .wds ys ∧ AE C e Γ L1 fun y L2 => ∃ z, y = .str z ∧ z ∈ ys ∧ Q (.int (ys.idxOf z : Nat)) L2) fun v d H' L' r c f q => ⟨d, L', _, r, c, f, q⟩).run pins s I) fun v s1 ⟨vx, H1, I1, r1, x, L1, Z1, rx, c1, f1, ys, ex, q1⟩ => ?_)
  subst ex
  obtain ⟨a, ob, rfl, fa, ha, hd, hz, hso⟩ := rx.wdsE
  cases (show v = Value.ref a from r1)
  obtain ⟨hg, _, its, rv, p0⟩ := (show ObjOk C.X.prog C.X.w H1 s1.heap a (.frz ob (.tup (ys.map V.str))) from I1.hok a _ ha)
  obtain ⟨o2, g2, hcl, _⟩ := p0
  rw [hg] at g2
  cases g2
  refine ⟨"tuple", "tuple.index", PySem.F.plainAttrs_tuple, PySem.F.slot_tuple_index, PySem.F.type_tuple_index, ⟨ob, hg, hcl⟩, fun b eb => by cases eb; exact ⟨ob, hg, hd⟩, ?_⟩
  have hB : AA C [e] Γ L1 fun ds L2 => ∃ z, ds = [.str z] ∧ z ∈ ys ∧ Q (.int (ys.idxOf z : Nat)) L2 := aa_cons (q1.mono fun y L2 q => by
    obtain ⟨z, ey, q⟩ := q
    exact aa_nil ⟨z, by rw [ey], q⟩) hs
  have hA := (hB Z1 σ H1 (ok.step c1 f1) (fun vs H2 => ∃ z L2 Z2, Reps C.X.K Z2 H2 vs [.str z] ∧ C.Con L2 Z2 H2 ∧ Fr L1 Z1 H1 L2 Z2 H2 ∧ z ∈ ys ∧ Q (.int (ys.idxOf z : Nat)) L2) fun vs ds H2 L2 r c f ⟨z, ed, hz, q⟩ => ⟨z, L2, _, by rw [← ed]; exact r, c, f, hz, q⟩).run pos pins s1 I1
  rw [hs] at hA ⊢
  refine Calls.callWith_builtin (by show (false || (backTo pos (starEach [] C.X.env)).any (·.1)) = false; rw [hplain] <;> rfl) (Calls.evalArgs_plain ?_)
  refine thn hA fun us s2 ⟨vs, H2, I2, r2, z, L2, Z2, rz, c2, f2, hz2, q2⟩ => ?_
  obtain ⟨v2, rfl, rz1⟩ := rz.oneE
  rw [rz1.strE] at r2
  obtain ⟨h1, h2⟩ := idx_first hz2
  exact mt_tup_index pins s2 σ H2 (.ref a) [.str z] (.ref a) us QV I2 rfl r2 ⟨a, ys, z, ys.idxOf z, rfl, rfl, .inl (.inr ⟨ob, f2.fk _ _ fa ha⟩), h1, h2, go _ _ H2 L2 (.int _) c2 (f1.trans f2) q2⟩⟩
/-- set(t) -/
theorem c_setU (hb : ys.length + 1 < scanBound) (q : ∀ l n, L l = none → n ≤ ys.length → Q (.ptr l) (put L l (.txs (fun k => decide (k ∈ ys)) n))) : LcR C (rSetT C.X.K C.X.w) [.wds ys] L Q := fun F vs H c r0 QV go => by
  obtain ⟨v, rfl, r⟩ := r0.oneE
  obtain ⟨a, ob, rfl, fa, ha, _, hz, hs⟩ := r.wdsE
  exact ⟨a, ys, rfl, .inl (.inr ⟨ob, ha⟩), hb, fun l n hl hn => go _ _ _ (put L l (.txs (fun k => decide (k ∈ ys)) n)) (.ptr l) (c.newL hl ⟨upd_same, fun k hk => hs k (of_decide_eq_true hk)⟩) (.newL hl) (q l n (c.free hl) hn)⟩
end
end DL
namespace DL
open PySem PySem.Spec PyProof.Rows L2
/-! ### enumerate(tuple) -/
set_option maxHeartbeats 1000000 in
theorem mts_enum1 {x : Value} {oI : Obj} {Hx : Heap → Prop} (B : Begins x oI Hx) :
    Meets (Builtin.«enumerate.__new__» ⟨[.type "enumerate", x], []⟩) (fun _ R s => Hx s.heap ∧
      R (.ok (.ret (.ref (s.heap.push oI).objs.size))) { s with heap := (s.heap.push oI).push ⟨.type "enumerate", none, .fields #[.none, .bool false, .ref s.heap.objs.size, rawInt 0, .none, .none], #[]⟩ }) := .of_wp fun P w Ar R s ⟨hx, hr⟩ => by
  obtain ⟨hp, g, d, tk, os⟩ := s
  have hsb := sub_enumerate
  have beg : ∀ {Ar' : Around} {Ee : Value → Shared → Prop} {Qq : Value → Shared → Prop}, Qq (.ref hp.objs.size) ⟨hp.push oI, g, d, tk, os⟩ → wpAny (model P w) Ar' (pyIter x) Qq Ee ⟨hp, g, d, tk, os⟩ := fun q => B.iter P w _ _ ⟨hp, g, d, tk, os⟩ _ hx q
  wp_walk
  refine wpAny_stack_any fun st => wpAny_pure ?_
  split
  · rename_i cc _ _ _ _ _
    cases (cc == Value.type "enumerate") <;> (wp_walk using beg; exact ⟨_, rfl, hr⟩)
  · wp_walk using beg
    exact ⟨_, rfl, hr⟩
theorem enum1_call {P : Program} {w : World} {Ar : Around} {Er : Value → Shared → Prop} {s : Shared} {x : Value} {oI : Obj} {Hx : Heap → Prop} {Qq : Value → Shared → Prop} (B : Begins x oI Hx) (hx : Hx s.heap)
    (hq : ∀ G, IsEnum G (s.heap.objs.size + 1) s.heap.objs.size 0 .none → G.get? s.heap.objs.size = some oI → (∀ b o, s.heap.get? b = some o → G.get? b = some o) → Qq (.ref (s.heap.objs.size + 1)) { s with heap := G }) :
    wpAny (model P w) Ar (call (.type "enumerate") [x]) Qq Er s := by
  refine callType_new F.called_enumerate (by decide) (F.typeCall_enumerate_1 _) (F.newCall_enumerate_1 _) (fun ob => F.args_object_init_2 ob _) F.entry_enumerate_new (mts_enum1 B) ⟨hx, ?_⟩
  have e1 : (s.heap.push oI).objs.size = s.heap.objs.size + 1 := Heap.size_push ..
  show _ ∧ _
  rw [e1]
  have ge : IsEnum ((s.heap.push oI).push ⟨.type "enumerate", none, .fields #[.none, .bool false, .ref s.heap.objs.size, rawInt 0, .none, .none], #[]⟩) (s.heap.objs.size + 1) s.heap.objs.size 0 .none := e1 ▸ Heap.get?_push_size (s.heap.push oI) (o := ⟨.type "enumerate", none, .fields #[.none, .bool false, .ref s.heap.objs.size, rawInt 0, .none, .none], #[]⟩) rfl
  exact ⟨⟨_, ge, rfl⟩, hq _ ge (Heap.get?_push_of_some _ (Heap.get?_push_size _ B.free)) fun b o y => Heap.get?_push_of_some _ (Heap.get?_push_of_some _ y)⟩
/-- the tuple at a with its numbers -/
def Item (K : PySem.W.Frag) (a : Addr) : It where
  go := fun i H => ∃ (xs : List V) (x : V), SqT K H a xs ∧ xs[i]? = some x
  yld := fun i H v H' => ∃ T x, v = .ref T ∧ H T = none ∧ H' = upd H T (.tup [.int (i : Nat), x]) ∧ ∀ xs, SqT K H a xs → xs[i]? = some x
  stop := fun i H => ∃ xs : List V, SqT K H a xs ∧ xs.length = i
theorem turn_enumTu {P : Program} {w : World} {K : PySem.W.Frag} {elts : List Expr} {kk : Nat} {tpos : Pos} (a e it : Addr) (hne : e ≠ it) (hea : e ≠ a) (hia : a ≠ it) :
    Turn P w K (.Tuple elts kk tpos) (Item K a) [e, it] e (fun i h => (∃ old, IsEnum h e it ((i : Nat) : Int) old) ∧ h.IsTupleIter it a i) where
  mem := List.mem_cons_self
  obj := fun i h ⟨⟨old, he⟩, o, ho, hc, hd⟩ b hb => by
    rcases List.mem_cons.mp hb with rfl | hb
    · exact ⟨_, he, fun v q => nomatch q⟩
    · rw [List.mem_singleton.mp hb]
      exact ⟨o, ho, fun v q => by rw [hd] at q; cases q⟩
  keep := fun i h h' ⟨⟨old, he⟩, hi⟩ k => ⟨⟨old, k e (by simp) _ he⟩, hi.at fun o q => k it (by simp) o q⟩
  item := by
    intro X hP hw hK hc i pins s σ H E I hf st hg
    subst hP hw hK
    obtain ⟨⟨old, he⟩, hit⟩ := st
    obtain ⟨xs, x, hq, hx⟩ := hg
    obtain ⟨its, rv, p, hz⟩ := I.tuple hq
    obtain ⟨u, hu, ru⟩ := rv.get hx
    have lte : e < s.heap.objs.size := Heap.lt_size he
    have lti : it < s.heap.objs.size := by obtain ⟨_, q, _⟩ := hit; exact Heap.lt_size q
    have hlt : i < its.toArray.size := by
      have := (List.getElem?_eq_some_iff.mp hu).1
      simpa using this
    have DD := Draws.tuple (prog := X.prog) (w := X.w) (A := X.A.in1) (I.ok.hd hc) it a hia its.toArray
    refine wpAny_pyNext_enum_itemD DD he ⟨hit, p⟩ hlt hne (by simp [hne, hea]) fun u2 h' tk hu2 ho st' hT hsz hk => ?_
    have eu : u2 = u := by
      have : its.toArray[i]? = some u := by simpa using hu
      rw [this] at hu2
      exact (Option.some.inj hu2).symm
    subst eu
    refine ⟨_, rfl, wpAny_letOwnedTupleGo_enum (s := { s with heap := h', toks := tk + 1 }) ho fun h'' he' sb => ?_⟩
    have gT : h''.get? s.heap.objs.size = some { cls := .type "tuple", data := .seq #[.int i tk, u2] } := (sb.2 _ (Nat.ne_of_gt lte)).trans hT
    have okT : ObjOk X.prog X.w (upd H s.heap.objs.size (.tup [.int (i : Nat), x])) h'' s.heap.objs.size (.tup [.int (i : Nat), x]) := ⟨Nat.le_of_ble_eq_true rfl, [.int i tk, u2], .cons ⟨_, rfl⟩ (.cons ru .nil), ⟨_, gT, rfl, _, rfl⟩⟩
    have I1 : Inv X pins σ (upd H s.heap.objs.size (.tup [.int (i : Nat), x])) { s with heap := h'', toks := tk + 1 } :=
      I.turnedNew (t' := tk + 1) (ch := [e, it]) (fun b ob hb q => (sb.2 b fun z => hb (z ▸ List.mem_cons_self)).trans (hk b ob (fun z => hb (z ▸ List.mem_cons_self)) (fun z => hb (z ▸ List.mem_cons_of_mem _ List.mem_cons_self)) q)) hf (Nat.le_refl _) okT
    refine ⟨.ref s.heap.objs.size, _, I1, rfl, ⟨_, x, rfl, I.hok.fresh (Nat.le_refl _), rfl, fun ys hy => by rw [I.tuple_inj hy hq]; exact hx⟩, ⟨⟨u2, ?_⟩, st'.1.at fun o q => (sb.2 it (Ne.symm hne)).trans q⟩, fun b hb => ?_⟩
    · rw [show ((i + 1 : Nat) : Int) = (i : Int) + 1 from by omega]
      exact he'
    · have hb' : b < s.heap.objs.size := by
        rcases List.mem_cons.mp hb with z | z
        · exact z ▸ lte
        · exact List.mem_singleton.mp z ▸ lti
      rw [upd_ne (Nat.ne_of_lt hb')]
      exact (hf b hb).1
  done := by
    intro X hP hw hK hc i pins s σ H E I hf st hg
    subst hP hw hK
    obtain ⟨⟨old, he⟩, hit⟩ := st
    obtain ⟨xs, hq, hx⟩ := hg
    obtain ⟨its, rv, p, hz⟩ := I.tuple hq
    have DD := Draws.tuple (prog := X.prog) (w := X.w) (A := X.A.in1) (I.ok.hd hc) it a hia its.toArray
    obtain ⟨f0, f1, f2, f3, f4, f5⟩ := hf it (by simp)
    have en : i = its.toArray.size := by rw [List.size_toArray, ← rv.length, hx]
    subst en
    exact wpAny_pyNext_enum_endD DD he ⟨hit, p⟩ fun h' eb => ⟨rfl, I.turned (t' := s.toks) (fun b o hb q => eb b o hb q) f0 f1 f3 f4 f5⟩
  self := fun A i s Q E ⟨⟨_, he⟩, _⟩ h => wpAny_pyIter_enum he h
section
variable {C : DL.Ctx} {Γ : Gm} {L : Lp} {pos p : Pos} {e e2 : Expr}
theorem pi_enumT {X : Cx} {e : Expr} {ta : TA} {p pos tpos : Pos} {elts : List Expr} {kk : Nat} (hg : Gl X "enumerate") (hm : X.mg "enumerate" = none) (ha : PA X [e] ta) (hs : starEach [e] X.env = [(false, eval e X.env)] := by rfl) :
    PI X (.Tuple elts kk tpos) (.Call (.Name "enumerate" p) [e] [] pos) (fun σ H R => ta σ H fun vs H1 => ∃ a xs, vs = [.ref a] ∧ SqT X.K H1 a xs ∧ R (Item X.K a) H1) := by
  refine ⟨fun pins s σ H R I h => Call_ (ld_blt I hg hm boot_enumerate (PyProof.Rows.callWith_type1 (thn (ha.run pos pins s σ H _ I h) fun us s1 ⟨vs, H1, I1, r1, a, xs, ex, hq, q⟩ => ?_) hs rfl))⟩
  subst ex
  obtain ⟨u, rfl, ru⟩ := r1.one
  cases (show u = Value.ref a from ru)
  obtain ⟨its, rv, pt, hz⟩ := I1.tuple hq
  have ptl : a < s1.heap.objs.size := by obtain ⟨o, ho, _⟩ := id pt; exact Heap.lt_size ho
  refine enum1_call (begins_tuple a its.toArray) pt fun G he hi hk => wpAny_pyIter_enum he ?_
  have I2 : Inv X pins σ H1 { s1 with heap := G } := I1.kept (t' := s1.toks) hk
  refine ⟨s1.heap.objs.size + 1, [s1.heap.objs.size + 1, s1.heap.objs.size], _, _, H1, rfl, I2, turn_enumTu a (s1.heap.objs.size + 1) s1.heap.objs.size (Nat.succ_ne_self _) (Nat.ne_of_gt (Nat.lt_succ_of_lt ptl)) (Nat.ne_of_lt ptl), ⟨⟨.none, he⟩, ⟨_, hi, rfl, rfl⟩⟩, fun b hb => ?_, q⟩
  have hle : s1.heap.objs.size ≤ b := by
    rcases List.mem_cons.mp hb with z | z
    · rw [z]; exact Nat.le_succ _
    · rw [List.mem_singleton.mp z]; exact Nat.le_refl _
  exact I1.fpOk hle (I1.hok.fresh hle)
def enumD (xs : List D) : List D := xs.zipIdx.map fun q => .tup [.int (q.2 : Nat), q.1]
theorem enumD_len (xs : List D) : (enumD xs).length = xs.length := by unfold enumD; simp
theorem enumD_get {xs : List D} {i : Nat} {d : D} (h : xs[i]? = some d) : (enumD xs)[i]? = some (.tup [.int (i : Nat), d]) := by
  unfold enumD
  rw [List.getElem?_map, List.getElem?_zipIdx, h]
  simp
theorem enumD_inv {xs : List D} {i : Nat} {d : D} (h : (enumD xs)[i]? = some d) : ∃ x, xs[i]? = some x ∧ d = .tup [.int (i : Nat), x] := by
  cases e : xs[i]? with
  | none =>
    have := List.getElem?_eq_none_iff.mp e
    rw [List.getElem?_eq_none (by rw [enumD_len]; exact this)] at h
    cases h
  | some x =>
    rw [enumD_get e] at h
    exact ⟨x, rfl, (Option.some.inj h).symm⟩
theorem ai_enumT {tpos : Pos} {elts : List Expr} {kk : Nat} {R : List D → (Lp → Prop) → Lp → Prop} (hm : C.X.mg "enumerate" = none) (h : AE C e Γ L fun d L1 => ∃ xs, TS d xs ∧ (xs.length ≤ sizeLine → R (enumD xs) (fun _ => True) L1)) (hg : Gl C.X "enumerate" := by rfl) (hs : starEach [e] C.X.env = [(false, eval e C.X.env)] := by rfl) :
    AI C (.Tuple elts kk tpos) (.Call (.Name "enumerate" p) [e] [] pos) Γ L R := fun F σ H ok RV go =>
  have hB : AA C [e] Γ L fun ds L1 => ∃ d xs, ds = [d] ∧ TS d xs ∧ (xs.length ≤ sizeLine → R (enumD xs) (fun _ => True) L1) := aa_cons (h.mono fun d L1 q => by
    obtain ⟨xs, t, q⟩ := q
    exact aa_nil ⟨d, xs, rfl, t, q⟩) hs
  wi_of (pi_enumT hg hm pa_we hs) (hB _ σ H ok _ fun vs ds H1 L1 r c f ⟨d, xs, ed, ht, q⟩ => by
    subst ed
    obtain ⟨v, rfl, r1⟩ := r.oneE
    obtain ⟨a, vx, rfl, rx, hz, hx, kx⟩ := ht.at_ r1
    refine ⟨a, vx, rfl, hx, go _ H1 L1 _ _ c f (fun i H L s cc g => ?_) (q hz)⟩
    have hx' := kx s.mv
    rw [enumD_len]
    refine ⟨fun h => ?_, fun h => ⟨vx, hx', by rw [rx.length, h]⟩, fun v H' yy hi => ?_⟩
    · have h1 : i < vx.length := by rw [rx.length]; exact h
      exact ⟨vx, vx[i], hx', List.getElem?_eq_getElem h1⟩
    · obtain ⟨T, x1, e1, nT, e2, k1⟩ := yy
      subst e1 e2
      obtain ⟨d1, g1, q1⟩ := rx.getV (k1 vx hx')
      have s2 : Mv _ H1 _ (upd H T (.tup [.int (i : Nat), x1])) := s.mv.trans (.new nT)
      exact ⟨_, enumD_get g1, Rep.tupI upd_same (.cons (.int _) (.cons (q1.mono s2) .nil)) (by show 2 ≤ sizeLine; decide), .inr ⟨T, _, nT, rfl⟩⟩)
theorem ai_enumL {tpos : Pos} {elts : List Expr} {kk : Nat} {R : List D → (Lp → Prop) → Lp → Prop} (hm : C.X.mg "enumerate" = none) (h : AE C e Γ L fun d L1 => ∃ a xs, d = .ptr a ∧ L1 a = some (.lst xs) ∧ (xs.length ≤ sizeLine → R (enumD xs) (fun L => L a = some (.lst xs)) L1)) (hg : Gl C.X "enumerate" := by rfl) (hs : starEach [e] C.X.env = [(false, eval e C.X.env)] := by rfl) :
    AI C (.Tuple elts kk tpos) (.Call (.Name "enumerate" p) [e] [] pos) Γ L R := fun F σ H ok RV go =>
  have hB : AA C [e] Γ L fun ds L1 => ∃ a xs, ds = [.ptr a] ∧ L1 a = some (.lst xs) ∧ (xs.length ≤ sizeLine → R (enumD xs) (fun L => L a = some (.lst xs)) L1) := aa_cons (h.mono fun d L1 q => by
    obtain ⟨a, xs, ed, t, q⟩ := q
    exact aa_nil ⟨a, xs, by rw [ed], t, q⟩) hs
  wi_of (pi_enum hg hm pa_we hs) (hB _ σ H ok _ fun vs ds H1 L1 r c f ⟨a, xs, ed, ha, q⟩ => by
    subst ed
    obtain ⟨v, rfl, r1⟩ := r.oneE
    obtain ⟨vx, hx, rx, hz⟩ := c.at_ a _ ha
    refine ⟨a, vx, by rw [r1.ptrE], SqL.of hx, go _ H1 L1 _ _ c f (fun i H L s cc g => ?_) (q hz)⟩
    obtain ⟨us, hb, rb, _⟩ := cc.at_ a _ g
    rw [enumD_len]
    refine ⟨fun h => ?_, fun h => ⟨us, SqL.of hb, by rw [rb.length, h]; exact Nat.le_refl _⟩, fun v H' yy hi => ?_⟩
    · have h1 : i < us.length := by rw [rb.length]; exact h
      exact ⟨us, us[i], SqL.of hb, List.getElem?_eq_getElem h1⟩
    · obtain ⟨T, x1, e1, nT, e2, k1⟩ := yy
      subst e1 e2
      obtain ⟨d1, g1, q1⟩ := rb.getV (k1 us (SqL.of hb))
      exact ⟨_, enumD_get g1, Rep.tupI upd_same (.cons (.int _) (.cons (q1.mono (.new nT)) .nil)) (by show 2 ≤ sizeLine; decide), .inr ⟨T, _, nT, rfl⟩⟩)
/-! ### zip(list, tuple) -/
/-- the list at a beside the tuple at b -/
def Iz2 (K : PySem.W.Frag) (a b : Addr) : It where
  go := fun i H => ∃ (xs ys : List V) (x y : V), SqL K H a xs ∧ SqT K H b ys ∧ xs[i]? = some x ∧ ys[i]? = some y
  yld := fun i H v H' => ∃ T x y, v = .ref T ∧ H T = none ∧ H' = upd H T (.tup [x, y]) ∧ (∀ xs, SqL K H a xs → xs[i]? = some x) ∧ ∀ ys, SqT K H b ys → ys[i]? = some y
  stop := fun i H => ∃ xs ys : List V, SqL K H a xs ∧ SqT K H b ys ∧ i ≤ xs.length ∧ i ≤ ys.length ∧ (i = xs.length ∨ i = ys.length)
structure Ap2 (z TI TO i1 i2 a b : Addr) : Prop where
  S : ZipSep2 z TI TO i1 i2 [i1, a] [i2, b]
  ai : a ≠ i1
  bi : b ≠ i2
theorem turn_zip2 {P : Program} {w : World} {K : PySem.W.Frag} {elts : List Expr} {kk : Nat} {tpos : Pos} {a b z TI TO i1 i2 : Addr} (D : Ap2 z TI TO i1 i2 a b) :
    Turn P w K (.Tuple elts kk tpos) (Iz2 K a b) [z, TI, TO, i1, i2] z (fun i h => IsZip h z TI TO .none ∧ IsTupOf2 h TI (.ref i1) (.ref i2) ∧ (∃ x y, IsTupOf2 h TO x y) ∧ h.IsListIter i1 a i ∧ h.IsTupleIter i2 b i) where
  mem := List.mem_cons_self
  obj := fun i h ⟨hz, hTI, ⟨x, y, hTO⟩, ⟨o1, e1, _, d1⟩, ⟨o2, e2, _, d2⟩⟩ c hc => by
    simp only [List.mem_cons, List.not_mem_nil, or_false] at hc
    rcases hc with rfl | rfl | rfl | rfl | rfl
    · exact ⟨_, hz, fun v q => nomatch q⟩
    · exact ⟨_, hTI, fun v q => nomatch q⟩
    · exact ⟨_, hTO, fun v q => nomatch q⟩
    · exact ⟨o1, e1, fun v q => by rw [d1] at q; cases q⟩
    · exact ⟨o2, e2, fun v q => by rw [d2] at q; cases q⟩
  keep := fun i h h' ⟨hz, hTI, ⟨x, y, hTO⟩, h1, h2⟩ k => ⟨k z (by simp) _ hz, k TI (by simp) _ hTI, ⟨x, y, k TO (by simp) _ hTO⟩, h1.at fun o q => k i1 (by simp) o q, h2.at fun o q => k i2 (by simp) o q⟩
  item := by
    intro X hP hw hK hc i pins s σ H E I hf st hg
    subst hP hw hK
    obtain ⟨hz, hTI, ⟨x0, y0, hTO⟩, h1, h2⟩ := st
    obtain ⟨xs, ys, x, y, hqx, hqy, hx, hy⟩ := hg
    obtain ⟨its, rv, p, _⟩ := I.list hqx
    obtain ⟨its2, rv2, p2, _⟩ := I.tuple hqy
    obtain ⟨u, hu, ru⟩ := rv.get hx
    obtain ⟨u2, hu2, ru2⟩ := rv2.get hy
    have hzl : z < s.heap.objs.size := Heap.lt_size hz
    have D1 := Draws.list (prog := X.prog) (w := X.w) (A := X.A.in1) (I.ok.hd hc) i1 a D.ai its.toArray
    have D2 := Draws.tuple (prog := X.prog) (w := X.w) (A := X.A.in1) (I.ok.hd hc) i2 b D.bi its2.toArray
    have l1 : i < its.toArray.size := by have := (List.getElem?_eq_some_iff.mp hu).1; simpa using this
    have l2 : i < its2.toArray.size := by have := (List.getElem?_eq_some_iff.mp hu2).1; simpa using this
    refine wpAny_pyNext_zipD2_item D.S D1 D2 hz hTI hTO ⟨h1, p.isList⟩ ⟨h2, p2⟩ l1 l2 fun w1 w2 h' tk hw1 hw2 z' TO' s1' s2' hT hsz hk => ?_
    have e1 : w1 = u := by
      have : its.toArray[i]? = some u := by simpa using hu
      rw [this] at hw1
      exact (Option.some.inj hw1).symm
    have e2 : w2 = u2 := by
      have : its2.toArray[i]? = some u2 := by simpa using hu2
      rw [this] at hw2
      exact (Option.some.inj hw2).symm
    subst e1 e2
    refine ⟨_, rfl, wpAny_letOwnedTupleGo_zip (s := { s with heap := h', toks := tk }) z' fun h'' z'' sb => ?_⟩
    have gT : h''.get? s.heap.objs.size = some { cls := .type "tuple", data := .seq #[w1, w2] } := (sb.2 _ (Nat.ne_of_gt hzl)).trans hT
    have okT : ObjOk X.prog X.w (upd H s.heap.objs.size (.tup [x, y])) h'' s.heap.objs.size (.tup [x, y]) := ⟨Nat.le_of_ble_eq_true rfl, [w1, w2], .cons ru (.cons ru2 .nil), ⟨_, gT, rfl, _, rfl⟩⟩
    have I1 : Inv X pins σ (upd H s.heap.objs.size (.tup [x, y])) { s with heap := h'', toks := tk } :=
      I.turnedNew (t' := tk) (ch := [z, TI, TO, i1, i2]) (fun c o hb q => (sb.2 c fun q' => hb (by simp [q'])).trans (hk c o (fun q' => hb (by simp [q'])) (fun q' => hb (by simp [q'])) (fun q' => hb (by simp [q'])) (fun q' => hb (by simp [q'])) q)) hf (Nat.le_refl _) okT
    refine ⟨.ref s.heap.objs.size, _, I1, rfl, ⟨_, x, y, rfl, I.hok.fresh (Nat.le_refl _), rfl, fun l hl => by rw [I.list_inj hl hqx]; exact hx, fun l hl => by rw [I.tuple_inj hl hqy]; exact hy⟩, ⟨z'', ?_, ⟨w1, w2, ?_⟩, ?_, ?_⟩, fun c hcm => ?_⟩
    · exact (sb.2 _ D.S.TIz).trans (hk _ _ D.S.TIz D.S.TITO D.S.TIi1 D.S.TIi2 hTI)
    · exact (sb.2 _ D.S.TOz).trans TO'
    · exact s1'.1.at fun o q => (sb.2 _ (Ne.symm D.S.zi1)).trans q
    · exact s2'.1.at fun o q => (sb.2 _ (Ne.symm D.S.zi2)).trans q
    · have hlt : c < s.heap.objs.size := by
        simp only [List.mem_cons, List.not_mem_nil, or_false] at hcm
        rcases hcm with rfl | rfl | rfl | rfl | rfl
        · exact hzl
        · exact Heap.lt_size hTI
        · exact Heap.lt_size hTO
        · obtain ⟨_, e1, _⟩ := h1; exact Heap.lt_size e1
        · obtain ⟨_, e2, _⟩ := h2; exact Heap.lt_size e2
      rw [upd_ne (Nat.ne_of_lt hlt)]
      exact (hf c hcm).1
  done := by
    intro X hP hw hK hc i pins s σ H E I hf st hg
    subst hP hw hK
    obtain ⟨hz, hTI, ⟨x0, y0, hTO⟩, h1, h2⟩ := st
    obtain ⟨xs, ys, hqx, hqy, g1, g2, hend⟩ := hg
    obtain ⟨its, rv, p, _⟩ := I.list hqx
    obtain ⟨its2, rv2, p2, _⟩ := I.tuple hqy
    have D1 := Draws.list (prog := X.prog) (w := X.w) (A := X.A.in1) (I.ok.hd hc) i1 a D.ai its.toArray
    have D2 := Draws.tuple (prog := X.prog) (w := X.w) (A := X.A.in1) (I.ok.hd hc) i2 b D.bi its2.toArray
    have l1 : its.toArray.size = xs.length := by rw [List.size_toArray, ← rv.length]
    have l2 : its2.toArray.size = ys.length := by rw [List.size_toArray, ← rv2.length]
    exact wpAny_pyNext_zipD2_end D.S D1 D2 hz hTI hTO ⟨h1, p.isList⟩ ⟨h2, p2⟩ (by rw [l1]; exact g1) (by rw [l2]; exact g2) (by rw [l1, l2]; exact hend) fun h' tk hk => ⟨rfl, I.turnedL (t' := tk) (ch := [z, TI, TO, i1, i2]) (fun c o hb q =>
      hk c o (fun q' => hb (by simp [q'])) (fun q' => hb (by simp [q'])) (fun q' => hb (by simp [q'])) (fun q' => hb (by simp [q'])) q) hf⟩
  self := fun A i s Q E st h => wpAny_pyIter_zip st.1 h
theorem ap2_new {N a b : Addr} (ha : a < N) (hb : b < N) : Ap2 (N + 4) (N + 2) (N + 3) N (N + 1) a b :=
  ⟨zip_sep2 (fun c hc => by rw [List.mem_singleton.mp hc]; exact ha) fun c hc => by rw [List.mem_singleton.mp hc]; exact hb, Nat.ne_of_lt ha, Nat.ne_of_lt (Nat.lt_succ_of_lt hb)⟩
theorem pi_zip2 {X : Cx} {e e2 : Expr} {ta : TA} {p pos tpos : Pos} {elts : List Expr} {kk : Nat} (hg : Gl X "zip") (hm : X.mg "zip" = none) (ha : PA X [e, e2] ta)
    (hs : starEach [e, e2] X.env = (false, eval e X.env) :: starEach [e2] X.env := by rfl) (hpl : (backTo pos (starEach [e2] X.env)).any (·.1) = false := by rfl) :
    PI X (.Tuple elts kk tpos) (.Call (.Name "zip" p) [e, e2] [] pos) (fun σ H R => ta σ H fun vs H1 => ∃ a b xs ys, vs = [.ref a, .ref b] ∧ SqL X.K H1 a xs ∧ SqT X.K H1 b ys ∧ R (Iz2 X.K a b) H1) := by
  refine ⟨fun pins s σ H R I h => Call_ (ld_blt I hg hm PyProof.Rows.boot_zip (PyProof.Rows.callWith_type1 (thn (ha.run pos pins s σ H _ I h) fun us s1 ⟨vs, H1, I1, r1, a, b, xs, ys, ex, hqx, hqy, q⟩ => ?_) hs hpl))⟩
  subst ex
  obtain ⟨u, u2, rfl, ru, ru2⟩ := r1.two
  cases (show u = Value.ref a from ru)
  cases (show u2 = Value.ref b from ru2)
  obtain ⟨its, rv, p1, _⟩ := I1.list hqx
  obtain ⟨its2, rv2, p2, _⟩ := I1.tuple hqy
  have la : a < s1.heap.objs.size := by obtain ⟨o, ho, _⟩ := p1.isList; exact Heap.lt_size ho
  have lb : b < s1.heap.objs.size := by obtain ⟨o, ho, _⟩ := id p2; exact Heap.lt_size ho
  refine zip_begins2 (begins_list a its.toArray) (begins_tuple b its2.toArray) p1.isList p2 fun G hz hTI hTO g1 g2 _ hk => wpAny_pyIter_zip hz ?_
  have I2 : Inv X pins σ H1 { s1 with heap := G } := I1.kept (t' := s1.toks) hk
  refine ⟨s1.heap.objs.size + 4, [s1.heap.objs.size + 4, s1.heap.objs.size + 2, s1.heap.objs.size + 3, s1.heap.objs.size, s1.heap.objs.size + 1], _, _, H1, rfl, I2, turn_zip2 (ap2_new la lb), ⟨hz, hTI, ⟨_, _, hTO⟩, ⟨_, g1, rfl, rfl⟩, ⟨_, g2, rfl, rfl⟩⟩, fun c hc => ?_, q⟩
  have hle : s1.heap.objs.size ≤ c := by
    simp only [List.mem_cons, List.not_mem_nil, or_false] at hc
    rcases hc with rfl | rfl | rfl | rfl | rfl
    · exact Nat.le_add_right _ _
    · exact Nat.le_add_right _ _
    · exact Nat.le_add_right _ _
    · exact Nat.le_refl _
    · exact Nat.le_add_right _ _
  exact I1.fpOk hle (I1.hok.fresh hle)
theorem ai_zip2 {tpos : Pos} {elts : List Expr} {kk : Nat} {R : List D → (Lp → Prop) → Lp → Prop} (hm : C.X.mg "zip" = none) (h : AA C [e, e2] Γ L fun ds L1 => ∃ a d2 xs ys, ds = [.ptr a, d2] ∧ L1 a = some (.lst xs) ∧ TS d2 ys ∧ (xs.length ≤ sizeLine → R (zipD xs ys) (fun L => L a = some (.lst xs)) L1)) (hg : Gl C.X "zip" := by rfl)
    (hs : starEach [e, e2] C.X.env = (false, eval e C.X.env) :: starEach [e2] C.X.env := by rfl) (hpl : (backTo pos (starEach [e2] C.X.env)).any (·.1) = false := by rfl) : AI C (.Tuple elts kk tpos) (.Call (.Name "zip" p) [e, e2] [] pos) Γ L R := fun F σ H ok RV go =>
  wi_of (pi_zip2 hg hm pa_we hs hpl) (h _ σ H ok _ fun vs ds H1 L1 r c f ⟨a, d2, xs, ys, ed, ha, t2, q⟩ => by
    subst ed
    obtain ⟨v, w, rfl, r1, r2⟩ := r.twoE
    obtain ⟨vx, hx, rx, hz⟩ := c.at_ a _ ha
    obtain ⟨y, vy, rfl, ry, _, hy, ky⟩ := t2.at_ r2
    refine ⟨a, y, vx, vy, by rw [r1.ptrE], SqL.of hx, hy, go _ H1 L1 _ _ c f (fun i H L s cc g => ?_) (q hz)⟩
    obtain ⟨us, hb, rb, _⟩ := cc.at_ a _ g
    have hy' := ky s.mv
    have hl : (zipD xs ys).length = min xs.length ys.length := by unfold zipD; simp
    have l1 := rb.length
    have l2 := ry.length
    rw [hl]
    refine ⟨fun h => ?_, fun h => ⟨us, vy, SqL.of hb, hy', by omega, by omega, by omega⟩, fun v H' yy hi => ?_⟩
    · have h1 : i < us.length := by omega
      have h2 : i < vy.length := by omega
      exact ⟨us, vy, us[i], vy[i], SqL.of hb, hy', List.getElem?_eq_getElem h1, List.getElem?_eq_getElem h2⟩
    · obtain ⟨T, x1, y1, e1, nT, e2, k1, k2⟩ := yy
      subst e1 e2
      obtain ⟨d1, g1, q1⟩ := rb.getV (k1 us (SqL.of hb))
      obtain ⟨d2, g2, q2⟩ := ry.getV (k2 vy hy')
      refine ⟨.tup [d1, d2], ?_, Rep.tupI upd_same (.cons (q1.mono (.new nT)) (.cons (q2.mono (s.mv.trans (.new nT))) .nil)) (by show 2 ≤ sizeLine; decide), .inr ⟨T, _, nT, rfl⟩⟩
      unfold zipD
      rw [List.getElem?_zipWith, g1, g2])
/-- zip(list, list) -/
theorem ai_zipLL {tpos : Pos} {elts : List Expr} {kk : Nat} {R : List D → (Lp → Prop) → Lp → Prop} (hm : C.X.mg "zip" = none) (h : AA C [e, e2] Γ L fun ds L1 => ∃ a b xs ys, ds = [.ptr a, .ptr b] ∧ L1 a = some (.lst xs) ∧ L1 b = some (.lst ys) ∧ (xs.length ≤ sizeLine → R (zipD xs ys) (fun L => L a = some (.lst xs) ∧ L b = some (.lst ys)) L1)) (hg : Gl C.X "zip" := by rfl)
    (hs : starEach [e, e2] C.X.env = (false, eval e C.X.env) :: starEach [e2] C.X.env := by rfl) (hpl : (backTo pos (starEach [e2] C.X.env)).any (·.1) = false := by rfl) : AI C (.Tuple elts kk tpos) (.Call (.Name "zip" p) [e, e2] [] pos) Γ L R := fun F σ H ok RV go =>
  wi_of (pi_zip hg hm pa_we hs hpl) (h _ σ H ok _ fun vs ds H1 L1 r c f ⟨a, b, xs, ys, ed, ha, hb, q⟩ => by
    subst ed
    obtain ⟨v, w, rfl, r1, r2⟩ := r.twoE
    obtain ⟨vx, hx, rx, hz⟩ := c.at_ a _ ha
    obtain ⟨vy, hy, ry, _⟩ := c.at_ b _ hb
    refine ⟨a, b, vx, vy, by rw [r1.ptrE, r2.ptrE], SqL.of hx, SqL.of hy, go _ H1 L1 _ _ c f (fun i H L s cc g => ?_) (q hz)⟩
    obtain ⟨us, hu, ru, _⟩ := cc.at_ a _ g.1
    obtain ⟨ws, hw, rw', _⟩ := cc.at_ b _ g.2
    have hl : (zipD xs ys).length = min xs.length ys.length := by unfold zipD; simp
    have l1 := ru.length
    have l2 := rw'.length
    rw [hl]
    refine ⟨fun h => ?_, fun h => ⟨us, ws, SqL.of hu, SqL.of hw, by omega⟩, fun v H' yy hi => ?_⟩
    · have h1 : i < us.length := by omega
      have h2 : i < ws.length := by omega
      exact ⟨us, ws, us[i], ws[i], SqL.of hu, SqL.of hw, List.getElem?_eq_getElem h1, List.getElem?_eq_getElem h2⟩
    · obtain ⟨T, x1, y1, e1, nT, e2, k1, k2⟩ := yy
      subst e1 e2
      obtain ⟨d1, g1, q1⟩ := ru.getV (k1 us (SqL.of hu))
      obtain ⟨d2, g2, q2⟩ := rw'.getV (k2 ws (SqL.of hw))
      refine ⟨.tup [d1, d2], ?_, Rep.tupI upd_same (.cons (q1.mono (.new nT)) (.cons (q2.mono (.new nT)) .nil)) (by show 2 ≤ sizeLine; decide), .inr ⟨T, _, nT, rfl⟩⟩
      unfold zipD
      rw [List.getElem?_zipWith, g1, g2])
end
end DL
namespace DL
open PySem PySem.Spec PyProof.Rows L2
section
variable {C : DL.Ctx} {Γ : Gm} {L : Lp} {Q : D → Lp → Prop} {pos p p2 apos : Pos} {e o fe : Expr} {es : List Expr} {d x y : D} {k : Nat} {g pm Cl : Addr} {mc : Value} {sp : SpA} {m : Str} {pl : Sem Bool}
/-! ### Cl.m(e, ..), m a classmethod -/
theorem ae_cmeth (r : ClX.CRead C.X.K Cl mc) (c : ClX.CMet C.X.K Cl mc m pm g) (F : FnA C.X.prog C.X.w C.X.K C.X.mg C.X.base k g sp) (hr : Room k C.X.A) (h : AE C o Γ L fun y L1 => y = .ptr Cl ∧ AA C (e :: es) Γ L1 fun ds L2 => sp (.ptr Cl :: ds) L2 Q (C.R Γ))
    (hst : starEach (e :: es) C.X.env = (false, eval e C.X.env) :: starEach es C.X.env := by rfl) (hpl : (backTo pos (starEach es C.X.env)).any (·.1) = false := by rfl)
    (ht : eval (.Call (.Attribute o m apos) (e :: es) [] pos) C.X.env = (do
      let ov ← eval o C.X.env
      standAt apos.atName
      let (f, first) ← holding [ov] (getMethod ov m pl)
      callWith pos f first (backTo pos (starEach (e :: es) C.X.env)) (backToKw pos (keywordEach [] C.X.env))) := by rfl) : AE C (.Call (.Attribute o m apos) (e :: es) [] pos) Γ L Q := fun Z σ H ok QV go => by
  refine ⟨fun pins s I => ?_⟩
  refine PySem.W.methodCall_KW (pl := pl) (thn ((h _ σ H ok (fun v H1 => ∃ L1 Z1, v = .ref Cl ∧ C.Con L1 Z1 H1 ∧ Fr L Z H L1 Z1 H1 ∧ AA C (e :: es) Γ L1 fun ds L2 => sp (.ptr Cl :: ds) L2 Q (C.R Γ)) (fun v y H1 L1 r cc f ⟨hi, q⟩ => ⟨L1, _, by subst hi; exact r.ptrE, cc, f, q⟩)).run pins s I) fun u s1 ⟨v, H1, I1, ry, L1, Z1, ev, c1, f1, q⟩ => ?_) ht
  subst ev
  obtain rfl : u = Value.ref Cl := ry
  refine ClX.getmethcm_ok I1 r c fun s2 I2 => ?_
  refine ClX.callwith_cm I2 (ClX.base_none I1 (Nat.le_refl _)) c.fi (thn ((q _ σ H1 (ok.step c1 f1) (fun vs H2 => ∃ ds L2 Z2, Reps C.X.K Z2 H2 vs ds ∧ C.Con L2 Z2 H2 ∧ Fr L1 Z1 H1 L2 Z2 H2 ∧ sp (.ptr Cl :: ds) L2 Q (C.R Γ)) (fun vs ds H2 L2 r cc f q => ⟨ds, L2, _, r, cc, f, q⟩)).run pos _ s2 I2) fun us s3 ⟨vs, H2, I3, rv, ds, L2, Z2, rd, c2, f2, q2⟩ => ⟨⟨ClX.pin_at I3, I3.kIn⟩, ?_⟩) hst hpl
  have z := wpAny_call (PySem.W.method_call (ClX.pin_at I3) (run_fnA (us := .ref Cl :: us) (vs := .ref Cl :: vs) F hr I3 (ok.step c2 (f1.trans f2)) (.cons rfl rv) (.cons (.ptr Cl) rd) q2 (go.after (f1.trans f2))))
  exact thn z fun _ _ y => ClX.unpinE y
/-- Cl.m() -/
theorem ae_cmeth0 (r : ClX.CRead C.X.K Cl mc) (c : ClX.CMet C.X.K Cl mc m pm g) (F : FnA C.X.prog C.X.w C.X.K C.X.mg C.X.base k g sp) (hr : Room k C.X.A) (h : AE C o Γ L fun y L1 => y = .ptr Cl ∧ sp [.ptr Cl] L1 Q (C.R Γ))
    (ht : eval (.Call (.Attribute o m apos) [] [] pos) C.X.env = (do
      let ov ← eval o C.X.env
      standAt apos.atName
      let (f, first) ← holding [ov] (getMethod ov m pl)
      callWith pos f first (backTo pos (starEach [] C.X.env)) (backToKw pos (keywordEach [] C.X.env))) := by rfl) : AE C (.Call (.Attribute o m apos) [] [] pos) Γ L Q := fun Z σ H ok QV go => by
  refine ⟨fun pins s I => ?_⟩
  refine PySem.W.methodCall_KW (pl := pl) (thn ((h _ σ H ok (fun v H1 => ∃ L1 Z1, v = .ref Cl ∧ C.Con L1 Z1 H1 ∧ Fr L Z H L1 Z1 H1 ∧ sp [.ptr Cl] L1 Q (C.R Γ)) (fun v y H1 L1 r cc f ⟨hi, q⟩ => ⟨L1, _, by subst hi; exact r.ptrE, cc, f, q⟩)).run pins s I) fun u s1 ⟨v, H1, I1, ry, L1, Z1, ev, c1, f1, q⟩ => ?_) ht
  subst ev
  obtain rfl : u = Value.ref Cl := ry
  refine ClX.getmethcm_ok I1 r c fun s2 I2 => ?_
  refine PySem.W.callWith_M0 ⟨ClX.pin_at I2, I2.kIn⟩ c.fi ?_
  have z := wpAny_call (PySem.W.method_call (ClX.pin_at I2) (run_fnA (us := [.ref Cl]) (vs := [.ref Cl]) F hr I2 (ok.step c1 f1) (.cons rfl .nil) (.cons (.ptr Cl) .nil) q (go.after f1)))
  exact thn z fun _ _ y => ClX.unpinE y
/-! ### f(e, ..), f a local name that holds a class -/
theorem ae_makeV (M : Mk C.X.K Cl g) (F : FnA C.X.prog C.X.w C.X.K C.X.mg C.X.base k g sp) (hr : Room (k + 1) C.X.A) {z : Str} (h : AE C (.Name z p) Γ L fun y L1 => y = .ptr Cl ∧ AA C (e :: es) Γ L1 fun ds L2 => ∀ x, L2 x = none → sp (.ptr x :: ds) (put L2 x (.ins Cl [])) (fun v L3 => v = .non ∧ Q (.ptr x) L3) (C.R Γ))
    (he : starEach (e :: es) C.X.env = (false, eval e C.X.env) :: starEach es C.X.env := by rfl) (hpl : (backTo pos (starEach es C.X.env)).any (·.1) = false := by rfl) : AE C (.Call (.Name z p) (e :: es) [] pos) Γ L Q := fun Z σ H ok QV go => by
  refine ⟨fun pins s I => ?_⟩
  refine wpAny_Call_Name_kw (thn ((h _ σ H ok (fun v H1 => ∃ L1 Z1, v = .ref Cl ∧ C.Con L1 Z1 H1 ∧ Fr L Z H L1 Z1 H1 ∧ AA C (e :: es) Γ L1 fun ds L2 => ∀ x, L2 x = none → sp (.ptr x :: ds) (put L2 x (.ins Cl [])) (fun v L3 => v = .non ∧ Q (.ptr x) L3) (C.R Γ)) (fun v y H1 L1 r cc f ⟨hi, q⟩ => ⟨L1, _, by subst hi; exact r.ptrE, cc, f, q⟩)).run pins s I) fun u s0 ⟨v, H0, I0, ry, L0, Z0, ev, c0, f0, q⟩ => ?_)
  subst ev
  obtain rfl : u = Value.ref Cl := ry
  refine PySem.W.callWith_K (h₀ := C.X.base) I0.ok.mod.kin M.kp (thn ((q _ σ H0 (ok.step c0 f0) (fun vs H1 => ∃ ds L1 Z1, Reps C.X.K Z1 H1 vs ds ∧ C.Con L1 Z1 H1 ∧ Fr L0 Z0 H0 L1 Z1 H1 ∧ ∀ x, L1 x = none → sp (.ptr x :: ds) (put L1 x (.ins Cl [])) (fun v L2 => v = .non ∧ Q (.ptr x) L2) (C.R Γ)) (fun vs ds H1 L1 r c f q => ⟨ds, L1, _, r, c, f, q⟩)).run pos pins s0 I0) fun us s1 ⟨vs, H1, I1, r, ds, L1, Z1, rd, c1, f1, q⟩ => ⟨I1.kIn, ?_⟩) he hpl
  exact run_makeA M F hr I1 (ok.step c1 (f0.trans f1)) r rd q (go.after (f0.trans f1))
/-! ### ~x by the class's own __invert__ -/
theorem ae_invO (hs : PySem.W.findIn C.X.K (.ref Cl) "__invert__" = some (some (.ref g))) (hf : PySem.W.isFn C.X.K (.ref g) = true) (F : FnA C.X.prog C.X.w C.X.K C.X.mg C.X.base k g sp) (hr : Room k C.X.A) (h : AE C e Γ L fun y L1 => IsIns L1 y Cl ∧ sp [y] L1 Q (C.R Γ)) : AE C (.UnaryOp .Invert e pos) Γ L Q := fun Z σ H ok QV go => ⟨fun pins s I => by
  refine UnaryOp_ (thn ((h _ σ H ok (fun v H1 => ∃ y L1 Z1, Rep C.X.K Z1 H1 v y ∧ C.Con L1 Z1 H1 ∧ Fr L Z H L1 Z1 H1 ∧ IsIns L1 y Cl ∧ sp [y] L1 Q (C.R Γ)) (fun v y H1 L1 r cc f ⟨hi, q⟩ => ⟨y, L1, _, r, cc, f, hi, q⟩)).run pins s I) fun u s1 ⟨v, H1, I1, ry, y, L1, Z1, rep, c1, f1, hi, q⟩ => ?_)
  obtain ⟨a, dx, ws, ea, st⟩ := hi.slt c1 rep
  subst ea
  obtain rfl : u = Value.ref a := ry
  obtain ⟨sl, od, _, J, _⟩ := SlX.slt_inst I1 st
  obtain ⟨mm, hF⟩ := I1.fr
  exact PySem.W.ksp_inv hF I1.ok.mod.kin J hs hf (wpAny_call (run_fnA (us := [.ref a]) (vs := [.ref a]) F hr I1 (ok.step c1 f1) (.cons rfl .nil) (.cons rep .nil) q (go.after f1)))⟩
/-! ### x op t by the class's own method, t a tuple -/
open PySem.W in
theorem tupOp {P : Program} {w : World} {Ar : Around} {Er : Value → Shared → Prop} {s : Shared} {K : Frag} {a Cl Lc g : Addr} {h0 : Heap} {mm : Str → Option Value} {oa : Obj} {da : Option Obj} {op : Operator} {b : Value} {rc : Option Value} {Qv : Value → Shared → Prop} (Fh : PyProof.Rows.Fr h0 Lc s.heap mm) (K0 : K.In h0) (Ia : InstAt s.heap a oa Cl da)
    (tb : Looks (model P w) s.heap (typeOf b) (.type "tuple")) (cf : selfFirst K Cl = true) (mh : findIn K (.ref Cl) (PySem.dunder op.info.2) = some (some (.ref g))) (fg : isFn K (.ref g) = true) (rh : findIn K (.ref Cl) (dunderR op.info.2) = some rc) (rp : rc = none ∨ ∃ z : Addr, rc = some (.ref z))
    (t1 : findIn K (.type "tuple") (PySem.dunder op.info.2) = some none) (t2 : findIn K (.type "tuple") (dunderR op.info.2) = some none) (ts : subIn K (.type "tuple") (.ref Cl) = some false)
    (h : wpAny (model P w) Ar (call (.ref g) [.ref a, b]) (PySem.W.CmpBack Qv) Er s) : wpAny (model P w) Ar (binaryOp op (.ref a) b) Qv Er s := by
  have KS := K0.keeps Fh.keep
  obtain ⟨cd, tl, e1, e2⟩ := ksp_first cf
  rcases ei : op.info with ⟨sy, n⟩
  rw [ei] at mh rh t1 t2
  dsimp only at mh rh t1 t2
  have run := ksp_try KS Ia mh fg h
  obtain ⟨hh, gg, dd, tk, os⟩ := s
  have k1 : Looks (model P w) hh (typeOf (.ref a)) (.ref Cl) := Ia.type
  have k2 : Looks (model P w) hh (typeOf b) (.type "tuple") := tb
  have k3 : Looks (model P w) hh (fillsNumberSlot (.ref Cl) n) true := fills_K KS e1 e2 mh
  have k4 : Looks (model P w) hh (fillsNumberSlot (.type "tuple") n) false := ksp_fillsT KS t1 t2
  have k5 : Looks (model P w) hh (isSubtype (.type "tuple") (.ref Cl)) false := looks_subIn KS ts
  have k6 : Looks (model P w) hh (numberSlotInPython (.ref Cl) n) true := ksp_inPy KS mh rh rp
  have k7 : Looks (model P w) hh (numberSlotInPython (.type "tuple") n) false := Looks.of_pure rfl
  have k8 : Looks (model P w) hh (typeLookup (.type "tuple") (dunderR n)) none := looks_findIn KS t2
  have ne : (Value.ref Cl == Value.type "tuple") = false := Bool.eq_false_iff.mpr fun q => by cases beq_iff_eq.mp q
  simp only [binaryOp, ei]
  refine wpAny_holding (wpAny_bind ?_)
  unfold binaryOp1
  refine wpAny_bind (k1.at (wpAny_bind (k2.at (wpAny_bind (k3.at ?_)))))
  simp only [ne, Bool.false_eq_true, if_false]
  ksp_lk
  refine wpAny_mono run (fun r s' ⟨v, er, hq⟩ => ?_) fun _ _ z => z
  subst er
  ksp_lk
  exact hq
theorem j_binT {op : Operator} {ds : List D} {rc : Option Value} (hc : PySem.W.selfFirst C.X.K Cl = true) (hs : PySem.W.findIn C.X.K (.ref Cl) (PySem.dunder op.info.2) = some (some (.ref g))) (hf : PySem.W.isFn C.X.K (.ref g) = true) (rh : PySem.W.findIn C.X.K (.ref Cl) (dunderR op.info.2) = some rc) (rp : rc = none ∨ ∃ z : Addr, rc = some (.ref z))
    (t1 : PySem.W.findIn C.X.K (.type "tuple") (PySem.dunder op.info.2) = some none) (t2 : PySem.W.findIn C.X.K (.type "tuple") (dunderR op.info.2) = some none) (ts : PySem.W.subIn C.X.K (.type "tuple") (.ref Cl) = some false)
    (F : FnA C.X.prog C.X.w C.X.K C.X.mg C.X.base k g sp) (hr : Room k C.X.A) (ix : IsIns L x Cl) (q : sp [x, .tup ds] L Q (C.R Γ)) : OpJ C (.bin op) Γ x (.tup ds) L Q := ⟨fun Z σ H ok vx vy rx ry QV go pins s v u I r1 r2 => by
  obtain ⟨a, dx, vs, rfl, st⟩ := ix.slt ok.con rx
  obtain ⟨b, ws, rfl, hb, _⟩ := ry.tupE
  cases (show v = Value.ref a from r1)
  cases (show u = Value.ref b from r2)
  obtain ⟨sl, od, _, J, _⟩ := SlX.slt_inst I st
  obtain ⟨mm, hF⟩ := I.fr
  obtain ⟨its, rv, ⟨o, ho, hcl, _⟩, _⟩ := I.tuple (SqT.of hb)
  refine tupOp hF I.ok.mod.kin J (fun Ar Qt Et st kk qq => wpAny_typeOf_ref (kk _ _ ho) (by rw [hcl]; exact qq)) hc hs hf rh rp t1 t2 ts ?_
  refine wpAny_mono (wpAny_call (run_fnA (us := [.ref a, .ref b]) (vs := [.ref a, .ref b]) F hr I ok (.cons rfl (.cons rfl .nil)) (.cons rx (.cons ry .nil)) q go)) (fun w s' z => ?_) fun _ _ x => x
  obtain ⟨z', H', I', rz, qz⟩ := z
  exact SlX.cmpback rz ⟨z', H', I', rz, qz⟩⟩
end
end DL
namespace DL
open PySem PySem.Spec PyProof.Rows L2
/-! ### steps -/
def wrt (rs : Rl) (cs : List Cell) (a : Nat) : List Cell := if szAt rs cs a = 0 then [cs.getD a []] else (lk rs (kAt rs cs a)).getD []
def stF (rs : Rl) (cs : List Cell) : Nat → Nat → Nat → List (Nat × List Wd × Nat)
  | 0, _, _ => []
  | n + 1, a, m => if a < cs.length then (a, kAt rs cs a, m) :: stF rs cs n (a + max 1 (szAt rs cs a)) (m + (wrt rs cs a).length) else []
def st1 (rs : Rl) (cs : List Cell) : List (Nat × List Wd × Nat) := stF rs cs cs.length 0 0
def dSt (x : Nat × List Wd × Nat) : D := .tup [.int x.1, dW x.2.1, .int x.2.2]
theorem stF_end {rs : Rl} {cs : List Cell} {n a m : Nat} (h : cs.length ≤ a) : stF rs cs n a m = [] := by
  cases n with
  | zero => rfl
  | succ n =>
    show (if a < cs.length then _ else _) = _
    rw [if_neg (by omega)]
theorem stF_step {rs : Rl} {cs : List Cell} {n a m : Nat} (h : a < cs.length) : stF rs cs (n + 1) a m = (a, kAt rs cs a, m) :: stF rs cs n (a + max 1 (szAt rs cs a)) (m + (wrt rs cs a).length) := by
  show (if a < cs.length then _ else _) = _
  rw [if_pos h]
theorem rwF_step {rs : Rl} {cs : List Cell} {n a : Nat} (h : a < cs.length) : rwF rs cs (n + 1) a = wrt rs cs a ++ rwF rs cs n (a + max 1 (szAt rs cs a)) := by
  unfold wrt
  by_cases h0 : szAt rs cs a = 0
  · rw [if_pos h0, rwF_0 h h0, h0]
    rfl
  · obtain ⟨z, h1, h2, h3⟩ := kAt_some h0
    rw [if_neg h0, h2, rwF_1 h h0 h2, Nat.max_eq_right (by omega)]
    rfl
theorem wrt_len {rs : Rl} (hR : RL2 rs) (cs : List Cell) (a : Nat) : (wrt rs cs a).length ≤ 2 := by
  unfold wrt
  split
  · show 1 ≤ 2; decide
  · cases e : lk rs (kAt rs cs a) with
    | none => exact Nat.zero_le _
    | some z => exact hR.lk e
theorem kAt_len (rs : Rl) (cs : List Cell) (a : Nat) : (kAt rs cs a).length = szAt rs cs a := by
  by_cases h0 : szAt rs cs a = 0
  · rw [kAt_none h0, h0]; rfl
  · exact (kAt_some h0).choose_spec.2.2
theorem kAt_end {rs : Rl} {cs : List Cell} {a : Nat} (h : a < cs.length) : a + max 1 (szAt rs cs a) ≤ cs.length := by
  by_cases h0 : szAt rs cs a = 0
  · rw [h0]; show a + 1 ≤ _; omega
  · obtain ⟨z, h1, h2, h3⟩ := kAt_some h0
    have := wAt_end h1 (by omega)
    omega
theorem stF_len {rs : Rl} {cs : List Cell} : ∀ n a m, (stF rs cs n a m).length ≤ n
  | 0, _, _ => Nat.le_refl _
  | n + 1, a, m => by
    by_cases h : a < cs.length
    · rw [stF_step h, List.length_cons]
      exact Nat.succ_le_succ (stF_len n _ _)
    · rw [stF_end (by omega)]
      exact Nat.zero_le _
/-- texts of single words -/
def one (ws : List Wd) : List Cell := ws.map fun w => [w]
theorem one_cut (ws : List Wd) (a m : Nat) : ((one ws).drop a).take m = one ((ws.drop a).take m) := by
  unfold one
  rw [← List.map_drop, ← List.map_take]
theorem one_heads (ws : List Wd) : (one ws).map hd0 = ws := by
  unfold one
  rw [List.map_map]
  exact List.map_id _
theorem fits_one (rs : Rl) (ws : List Wd) (a m : Nat) : fits rs (one ws) a m = (decide (((ws.drop a).take m).length = m) && (lk rs ((ws.drop a).take m)).isSome) := by
  rw [fits_eq, one_cut, one_heads]
  have e1 : (one ((ws.drop a).take m)).length = ((ws.drop a).take m).length := List.length_map ..
  have e2 : (one ((ws.drop a).take m)).all (fun c => decide (c.length = 1)) = true := by
    unfold one
    rw [List.all_map, List.all_eq_true]
    intro x _
    rfl
  rw [e1, e2, Bool.and_true]
/-- the longest key so far -/
def kU (rs : Rl) (ws : List Wd) (a : Nat) : Nat → List Wd
  | 0 => []
  | i + 1 => if fits rs (one ws) a (i + 1) then (ws.drop a).take (i + 1) else kU rs ws a i
theorem kU_3 (rs : Rl) (ws : List Wd) (a : Nat) : kU rs ws a 3 = kAt rs (one ws) a := by
  have key : ∀ m, fits rs (one ws) a m = true → wAt (one ws) a m = some ((ws.drop a).take m) := fun m h => by
    obtain ⟨w, z, h1, h2⟩ := fits_w h
    obtain ⟨e, _⟩ := wAt_heads h1
    rw [one_cut, one_heads] at e
    rw [h1, e]
  unfold kAt szAt
  show (if fits rs (one ws) a 3 then (ws.drop a).take 3 else if fits rs (one ws) a 2 then (ws.drop a).take 2 else if fits rs (one ws) a 1 then (ws.drop a).take 1 else []) = _
  by_cases h3 : fits rs (one ws) a 3 = true
  · rw [if_pos h3, if_pos h3, if_neg (by decide), key 3 h3]; rfl
  · rw [if_neg h3, if_neg h3]
    by_cases h2 : fits rs (one ws) a 2 = true
    · rw [if_pos h2, if_pos h2, if_neg (by decide), key 2 h2]; rfl
    · rw [if_neg h2, if_neg h2]
      by_cases h1 : fits rs (one ws) a 1 = true
      · rw [if_pos h1, if_pos h1, if_neg (by decide), key 1 h1]; rfl
      · rw [if_neg h1, if_neg h1, if_pos rfl]
theorem okD_dSt (x : Nat × List Wd × Nat) : okD (dSt x) = true := by
  unfold dSt
  rw [okD, okDs, okDs, okDs, okDs, okD, okD, okD_dW]
  rfl
theorem dep_dSt (x : Nat × List Wd × Nat) : (py (dSt x)).depth ≤ 3 := by
  unfold dSt
  rw [py, pys, pys, pys, pys]
  refine dep_all fun d hd => ?_
  rcases List.mem_cons.mp hd with e | hd
  · rw [e, py, PyData.depth]; exact Nat.zero_le _
  · rcases List.mem_cons.mp hd with e | hd
    · rw [e]; exact dep_dW _
    · rw [List.mem_singleton.mp hd, py, PyData.depth]; exact Nat.zero_le _
end DL
namespace DL
open PySem PySem.Spec PyProof.Rows L2
/-! ### rewriting that may wait -/
/-- the cells from a on are the beginning of a longer key -/
def wait (rs : Rl) (cs : List Cell) (a : Nat) : Bool := decide (cs.length - a < 3) && match wAt cs a (cs.length - a) with | some ws => rs.any fun r => decide (cs.length - a < r.1.length) && decide (r.1.take (cs.length - a) = ws) | none => false
/-- one step goes on -/
def goes (w : Bool) (rs : Rl) (cs : List Cell) (a : Nat) : Bool := decide (a < cs.length) && (w || !wait rs cs a)
def rwG (w : Bool) (rs : Rl) (cs : List Cell) : Nat → Nat → List Cell × Nat
  | 0, a => ([], a)
  | n + 1, a => if goes w rs cs a then (wrt rs cs a ++ (rwG w rs cs n (a + max 1 (szAt rs cs a))).1, (rwG w rs cs n (a + max 1 (szAt rs cs a))).2) else ([], a)
/-- what is written, what is left -/
def rw2 (w : Bool) (rs : Rl) (cs : List Cell) : List Cell × List Cell := ((rwG w rs cs cs.length 0).1, cs.drop (rwG w rs cs cs.length 0).2)
theorem rwG_end {w : Bool} {rs : Rl} {cs : List Cell} {n a : Nat} (h : goes w rs cs a = false) : rwG w rs cs n a = ([], a) := by
  cases n with
  | zero => rfl
  | succ n =>
    show (if goes w rs cs a then _ else _) = _
    rw [h]
    rfl
theorem rwG_step {w : Bool} {rs : Rl} {cs : List Cell} {n a : Nat} (h : goes w rs cs a = true) : rwG w rs cs (n + 1) a = (wrt rs cs a ++ (rwG w rs cs n (a + max 1 (szAt rs cs a))).1, (rwG w rs cs n (a + max 1 (szAt rs cs a))).2) := by
  show (if goes w rs cs a then _ else _) = _
  rw [h]
  rfl
theorem goes_lt {w : Bool} {rs : Rl} {cs : List Cell} {a : Nat} (h : goes w rs cs a = true) : a < cs.length := by
  unfold goes at h
  rw [Bool.and_eq_true] at h
  exact of_decide_eq_true h.1
theorem rwG_whole {rs : Rl} {cs : List Cell} : ∀ n a, a ≤ cs.length → cs.length ≤ a + n → rwG true rs cs n a = (rwF rs cs n a, cs.length)
  | 0, a, h1, h2 => by
    have : a = cs.length := by omega
    subst this
    rfl
  | n + 1, a, h1, h2 => by
    by_cases h : a < cs.length
    · have hg : goes true rs cs a = true := by unfold goes; rw [decide_eq_true h]; rfl
      have he := kAt_end (rs := rs) h
      rw [rwG_step hg, rwF_step h, rwG_whole n _ he (by omega)]
    · have hg : goes true rs cs a = false := by unfold goes; rw [decide_eq_false h]; rfl
      rw [rwG_end hg, rwF_end (by omega)]
      have : a = cs.length := by omega
      rw [this]
theorem rw2_whole (rs : Rl) (cs : List Cell) : rw2 true rs cs = (rw1 rs cs, []) := by
  unfold rw2 rw1
  rw [rwG_whole _ _ (Nat.zero_le _) (by omega)]
  simp
theorem rwG_len {w : Bool} {rs : Rl} (hR : RL2 rs) (cs : List Cell) : ∀ n a, (rwG w rs cs n a).1.length ≤ 2 * n
  | 0, a => Nat.zero_le _
  | n + 1, a => by
    by_cases h : goes w rs cs a = true
    · rw [rwG_step h, List.length_append]
      have h1 := wrt_len hR cs a
      have h2 := rwG_len (w := w) hR cs n (a + max 1 (szAt rs cs a))
      omega
    · rw [rwG_end (by simpa using h)]
      exact Nat.zero_le _
/-- what is left has one word a cell -/
theorem rwG_left {rs : Rl} {cs : List Cell} : ∀ n a, a ≤ cs.length → cs.length ≤ a + n → (rwG false rs cs n a).2 ≤ cs.length ∧ ∀ c ∈ cs.drop (rwG false rs cs n a).2, c.length = 1
  | 0, a, h1, h2 => by
    have : a = cs.length := by omega
    subst this
    refine ⟨Nat.le_refl _, fun c hc => ?_⟩
    rw [show (rwG false rs cs 0 cs.length).2 = cs.length from rfl, List.drop_length] at hc
    cases hc
  | n + 1, a, h1, h2 => by
    by_cases h : goes false rs cs a = true
    · have hl := goes_lt h
      have he := kAt_end (rs := rs) hl
      rw [rwG_step h]
      exact rwG_left n _ he (by omega)
    · have hf : goes false rs cs a = false := by simpa using h
      rw [rwG_end hf]
      refine ⟨h1, fun c hc => ?_⟩
      unfold goes at hf
      by_cases hl : a < cs.length
      · rw [decide_eq_true hl] at hf
        have hw : wait rs cs a = true := by simpa using hf
        unfold wait at hw
        rw [Bool.and_eq_true] at hw
        cases e : wAt cs a (cs.length - a) with
        | none => rw [e] at hw; cases hw.2
        | some ws =>
          obtain ⟨_, hone⟩ := wAt_heads e
          refine hone c ?_
          rw [List.take_of_length_le (by rw [List.length_drop]; exact Nat.le_refl _)]
          exact hc
      · rw [List.drop_eq_nil_of_le (by omega)] at hc
        cases hc
theorem rw2_left (rs : Rl) (cs : List Cell) : ∀ c ∈ (rw2 false rs cs).2, c.length = 1 := (rwG_left cs.length 0 (Nat.zero_le _) (by omega)).2
theorem rw2_len {w : Bool} {rs : Rl} (hR : RL2 rs) (cs : List Cell) : (rw2 w rs cs).1.length ≤ 2 * cs.length := rwG_len hR cs _ _
theorem rw2_lenL (w : Bool) (rs : Rl) (cs : List Cell) : (rw2 w rs cs).2.length ≤ cs.length := by
  unfold rw2
  rw [List.length_drop]
  omega
end DL
namespace DL
open PySem PySem.Spec PyProof.Rows L2
theorem rw2_one (wh : Bool) (rs : Rl) (cs : List Cell) : ∀ c ∈ (rw2 wh rs cs).2, c.length = 1 := by
  cases wh with
  | false => exact rw2_left rs cs
  | true =>
    rw [rw2_whole]
    intro c hc
    cases hc
/-- one book behind the other, each behind what is pending -/
def thrS (wh : Bool) (acc : List (List Wd) × List Cell) (q : Rl × List Wd) : List (List Wd) × List Cell := (acc.1 ++ [(rw2 wh q.1 (one q.2 ++ acc.2)).2.map hd0], (rw2 wh q.1 (one q.2 ++ acc.2)).1)
def thr (wh : Bool) (qs : List (Rl × List Wd)) (cs : List Cell) : List (List Wd) × List Cell := qs.foldl (thrS wh) ([], cs)
theorem thr_snoc (wh : Bool) (qs : List (Rl × List Wd)) (q : Rl × List Wd) (cs : List Cell) : thr wh (qs ++ [q]) cs = thrS wh (thr wh qs cs) q := by
  unfold thr
  rw [List.foldl_append]
  rfl
theorem thr_len1 (wh : Bool) (qs : List (Rl × List Wd)) (cs : List Cell) : (thr wh qs cs).1.length = qs.length := by
  have key : ∀ (qs : List (Rl × List Wd)) (a : List (List Wd) × List Cell), (qs.foldl (thrS wh) a).1.length = a.1.length + qs.length := by
    intro qs
    induction qs with
    | nil => intro a; rfl
    | cons q qs ih =>
      intro a
      rw [List.foldl_cons, ih]
      unfold thrS
      rw [List.length_append, List.length_cons, List.length_cons, List.length_nil]
      omega
  rw [show thr wh qs cs = qs.foldl (thrS wh) ([], cs) from rfl, key]
  simp
/-- sizes -/
def grow (n : Nat) : Nat → Nat
  | 0 => n
  | k + 1 => 2 * (grow n k + 1000)
theorem thr_len2 {wh : Bool} {qs : List (Rl × List Wd)} (cs : List Cell) : (∀ q ∈ qs, RL2 q.1 ∧ q.2.length ≤ 1000) → ∀ i, i ≤ qs.length → (thr wh (qs.take i) cs).2.length ≤ grow cs.length i
  | _, 0, _ => by rw [List.take_zero]; exact Nat.le_refl _
  | h, i + 1, hi => by
    have ih := thr_len2 (wh := wh) cs h i (by omega)
    have hx : i < qs.length := hi
    rw [List.take_add_one, List.getElem?_eq_getElem hx]
    show (thr wh (qs.take i ++ [qs[i]]) cs).2.length ≤ _
    rw [thr_snoc]
    have hq := h qs[i] (List.getElem_mem hx)
    refine Nat.le_trans (rw2_len hq.1 _) ?_
    rw [List.length_append]
    have e1 : (one qs[i].2).length = qs[i].2.length := List.length_map ..
    rw [e1]
    show _ ≤ 2 * (grow cs.length i + 1000)
    omega
end DL
namespace DL
/-! ### machines of sets of texts, plainly -/
/-- whether it is in, the goals of the words, the goal of any other word -/
abbrev RowM := Bool × List Nat × Nat
abbrev Rws := List RowM
def rowAt (rows : Rws) (s : Nat) : RowM := rows.getD s (false, [], 0)
/-- the goal by a column, by any other word -/
def gl (r : RowM) : Option Nat → Nat
  | none => r.2.2
  | some c => r.2.1.getD c 0
/-- rows for so many words -/
structure MOk (n : Nat) (rows : Rws) : Prop where
  len : ∀ r ∈ rows, r.2.1.length = n
  go : ∀ r ∈ rows, ∀ g ∈ r.2.1, g < rows.length
  oth : ∀ r ∈ rows, r.2.2 < rows.length
theorem rowAt_get {rows : Rws} {s : Nat} (h : s < rows.length) : rows[s]? = some (rowAt rows s) := by
  unfold rowAt
  rw [List.getD_eq_getElem?_getD, List.getElem?_eq_getElem h]
  rfl
theorem rowAt_mem {rows : Rws} {s : Nat} (h : s < rows.length) : rowAt rows s ∈ rows := List.mem_of_getElem? (rowAt_get h)
theorem MOk.gl {n : Nat} {rows : Rws} (h : MOk n rows) {s : Nat} (hs : s < rows.length) (c : Option Nat) (hc : ∀ k, c = some k → k < n) : DL.gl (rowAt rows s) c < rows.length := by
  have hm := rowAt_mem hs
  cases c with
  | none => exact h.oth _ hm
  | some k =>
    refine h.go _ hm _ ?_
    have hk : k < (rowAt rows s).2.1.length := by rw [h.len _ hm]; exact hc k rfl
    show (rowAt rows s).2.1.getD k 0 ∈ _
    rw [List.getD_eq_getElem?_getD, List.getElem?_eq_getElem hk]
    exact List.getElem_mem hk
/-! one after the other, each once -/
def addO {α : Type} [DecidableEq α] (o : List α) (g : α) : List α := if g ∈ o then o else o ++ [g]
def ddp {α : Type} [DecidableEq α] (xs : List α) : List α := xs.foldl addO []
theorem addO_nodup {α : Type} [DecidableEq α] {o : List α} {g : α} (h : o.Nodup) : (addO o g).Nodup := by
  unfold addO
  split
  · exact h
  · rename_i hg
    exact List.nodup_append.mpr ⟨h, by simp, fun a ha b hb e => hg (by rw [List.mem_singleton.mp hb] at e; rw [← e]; exact ha)⟩
theorem addO_mem {α : Type} [DecidableEq α] {o : List α} {g x : α} : x ∈ addO o g ↔ x ∈ o ∨ x = g := by
  unfold addO
  split
  · rename_i hg
    exact ⟨.inl, fun h => h.elim id fun e => e ▸ hg⟩
  · simp
theorem addO_pre {α : Type} [DecidableEq α] (o : List α) (g : α) : ∃ t, addO o g = o ++ t := by
  unfold addO
  split
  · exact ⟨[], by simp⟩
  · exact ⟨[g], rfl⟩
theorem fold_nodup {α : Type} [DecidableEq α] : ∀ (xs o : List α), o.Nodup → (xs.foldl addO o).Nodup
  | [], _, h => h
  | x :: xs, o, h => fold_nodup xs _ (addO_nodup h)
theorem fold_mem {α : Type} [DecidableEq α] : ∀ (xs o : List α) {x : α}, x ∈ xs.foldl addO o ↔ x ∈ o ∨ x ∈ xs
  | [], o, x => by simp
  | y :: xs, o, x => by
    rw [List.foldl_cons, fold_mem xs, addO_mem, List.mem_cons, or_assoc]
theorem fold_pre {α : Type} [DecidableEq α] : ∀ (xs o : List α), ∃ t, xs.foldl addO o = o ++ t
  | [], o => ⟨[], by simp⟩
  | x :: xs, o => by
    obtain ⟨t, h⟩ := addO_pre o x
    obtain ⟨u, h2⟩ := fold_pre xs (addO o x)
    exact ⟨t ++ u, by rw [List.foldl_cons, h2, h, List.append_assoc]⟩
theorem ddp_nodup {α : Type} [DecidableEq α] (xs : List α) : (ddp xs).Nodup := fold_nodup xs [] .nil
theorem ddp_mem {α : Type} [DecidableEq α] {xs : List α} {x : α} : x ∈ ddp xs ↔ x ∈ xs := by
  unfold ddp
  rw [fold_mem]
  simp
theorem ddp_snoc {α : Type} [DecidableEq α] (xs : List α) (x : α) : ddp (xs ++ [x]) = addO (ddp xs) x := by
  unfold ddp
  rw [List.foldl_append]
  rfl
theorem idx_get {α : Type} [DecidableEq α] {xs : List α} {x : α} (h : x ∈ xs) : xs[xs.idxOf x]? = some x := by
  have := List.idxOf_lt_length_iff.mpr h
  rw [List.getElem?_eq_getElem this, List.getElem_idxOf]
theorem idx_of_get {α : Type} [DecidableEq α] {xs : List α} (hn : xs.Nodup) {i : Nat} {x : α} (h : xs[i]? = some x) : xs.idxOf x = i := by
  obtain ⟨hi, e⟩ := List.getElem?_eq_some_iff.mp h
  rw [← e]
  exact hn.idxOf_getElem i hi
theorem idx_inj {α : Type} [DecidableEq α] {xs : List α} {x y : α} (hx : x ∈ xs) (hy : y ∈ xs) (h : xs.idxOf x = xs.idxOf y) : x = y := by
  have := idx_get hx
  rw [h, idx_get hy] at this
  exact (Option.some.inj this).symm
theorem idx_app {α : Type} [DecidableEq α] {xs ys : List α} {x : α} (h : x ∈ xs) : (xs ++ ys).idxOf x = xs.idxOf x := by
  rw [List.idxOf_append, if_pos h]
/-! what is reached, in the order in which it is met -/
def colsN (cols : List Nat) : List (Option Nat) := cols.map some ++ [none]
def ordI (cols : List Nat) (r : RowM) (o : List Nat) : List Nat := ((colsN cols).map (gl r)).foldl addO o
def ordW (cols : List Nat) (rows : Rws) : Nat → Nat → List Nat → List Nat
  | 0, _, o => o
  | n + 1, k, o => match o[k]? with
    | none => o
    | some s => ordW cols rows n (k + 1) (ordI cols (rowAt rows s) o)
def orderOf (cols : List Nat) (rows : Rws) (first : Nat) : List Nat := ordW cols rows (rows.length + 1) 0 [first]
def renum (cols : List Nat) (o : List Nat) (r : RowM) : RowM := (r.1, cols.map fun c => o.idxOf (gl r (some c)), o.idxOf r.2.2)
def reachM (cols : List Nat) (rows : Rws) (first : Nat) : Rws := (orderOf cols rows first).map fun s => renum cols (orderOf cols rows first) (rowAt rows s)
theorem nodup_lt : ∀ {n : Nat} {xs : List Nat}, xs.Nodup → (∀ x ∈ xs, x < n) → xs.length ≤ n
  | 0, [], _, _ => Nat.le_refl _
  | 0, x :: _, _, h => absurd (h x List.mem_cons_self) (Nat.not_lt_zero _)
  | n + 1, xs, hn, h => by
    by_cases hm : n ∈ xs
    · have h1 : (xs.erase n).length ≤ n := nodup_lt (hn.erase n) fun x hx => by
        have h2 := h x (List.mem_of_mem_erase hx)
        have h3 : x ≠ n := fun e => by rw [e, hn.mem_erase_iff] at hx; exact hx.1 rfl
        omega
      rw [List.length_erase_of_mem hm] at h1
      omega
    · exact Nat.le_succ_of_le (nodup_lt hn fun x hx => by
        have h2 := h x hx
        have h3 : x ≠ n := fun e => hm (e ▸ hx)
        omega)
/-- the states met so far, of which k are done -/
structure OrdI (cols : List Nat) (rows : Rws) (first k : Nat) (o : List Nat) : Prop where
  nd : o.Nodup
  lt : ∀ s ∈ o, s < rows.length
  zero : o[0]? = some first
  kl : k ≤ o.length
  cl : ∀ (i s : Nat), i < k → o[i]? = some s → ∀ c ∈ colsN cols, gl (rowAt rows s) c ∈ o
section
variable {n : Nat} {cols : List Nat} {rows : Rws} {first k : Nat} {o : List Nat}
theorem colsN_lt (hc : ∀ c ∈ cols, c < n) {c : Option Nat} (h : c ∈ colsN cols) : ∀ k, c = some k → k < n := fun k e => by
  subst e
  unfold colsN at h
  rcases List.mem_append.mp h with h | h
  · obtain ⟨x, hx, e⟩ := List.mem_map.mp h
    cases e
    exact hc _ hx
  · simp at h
theorem ordI_step (hM : MOk n rows) (hc : ∀ c ∈ cols, c < n) (h : OrdI cols rows first k o) {s : Nat} (hs : o[k]? = some s) : OrdI cols rows first (k + 1) (ordI cols (rowAt rows s) o) := by
  obtain ⟨t, ht⟩ := fold_pre ((colsN cols).map (gl (rowAt rows s))) o
  have hsl := h.lt s (List.mem_of_getElem? hs)
  have hkl := (List.getElem?_eq_some_iff.mp hs).1
  have up : ∀ x, x ∈ o → x ∈ ordI cols (rowAt rows s) o := fun x hx => by unfold ordI; rw [fold_mem]; exact .inl hx
  refine ⟨fold_nodup _ _ h.nd, fun x hx => ?_, ?_, ?_, fun i u hi hu c hcc => ?_⟩
  · unfold ordI at hx
    rw [fold_mem] at hx
    rcases hx with hx | hx
    · exact h.lt x hx
    · obtain ⟨c, hcc, rfl⟩ := List.mem_map.mp hx
      exact hM.gl hsl c (colsN_lt hc hcc)
  · unfold ordI
    rw [ht, List.getElem?_append_left (by omega)]
    exact h.zero
  · unfold ordI
    rw [ht, List.length_append]
    omega
  · have hio : i < o.length := by omega
    unfold ordI at hu
    rw [ht, List.getElem?_append_left hio] at hu
    by_cases e : i = k
    · subst e
      rw [hs] at hu
      cases hu
      unfold ordI
      rw [fold_mem]
      exact .inr (List.mem_map_of_mem hcc)
    · exact up _ (h.cl i u (by omega) hu c hcc)
theorem ordW_end (hM : MOk n rows) (hc : ∀ c ∈ cols, c < n) : ∀ (m k : Nat) (o : List Nat), OrdI cols rows first k o → rows.length < k + m → OrdI cols rows first (ordW cols rows m k o).length (ordW cols rows m k o)
  | 0, k, o, h, hm => by
    have := nodup_lt h.nd h.lt
    have := h.kl
    omega
  | m + 1, k, o, h, hm => by
    unfold ordW
    cases e : o[k]? with
    | none =>
      have hk := List.getElem?_eq_none_iff.mp e
      have : k = o.length := Nat.le_antisymm h.kl hk
      rw [← this]
      exact h
    | some s => exact ordW_end hM hc m (k + 1) _ (ordI_step hM hc h e) (by omega)
theorem order_ok (hM : MOk n rows) (hc : ∀ c ∈ cols, c < n) (hf : first < rows.length) : OrdI cols rows first (orderOf cols rows first).length (orderOf cols rows first) :=
  ordW_end hM hc _ 0 [first] ⟨by simp, fun s hs => by rw [List.mem_singleton.mp hs]; exact hf, rfl, Nat.zero_le _, fun i s hi => absurd hi (Nat.not_lt_zero _)⟩ (by omega)
/-- fuel that is enough is as good as any -/
theorem ordW_fuel (hM : MOk n rows) (hc : ∀ c ∈ cols, c < n) : ∀ (m m' k : Nat) (o : List Nat), OrdI cols rows first k o → rows.length < k + m → rows.length < k + m' → ordW cols rows m k o = ordW cols rows m' k o
  | 0, m', k, o, h, hm, _ => by
    have := nodup_lt h.nd h.lt
    have := h.kl
    omega
  | m + 1, 0, k, o, h, _, hm => by
    have := nodup_lt h.nd h.lt
    have := h.kl
    omega
  | m + 1, m' + 1, k, o, h, hm, hm' => by
    unfold ordW
    cases e : o[k]? with
    | none => rfl
    | some s => exact ordW_fuel hM hc m m' (k + 1) _ (ordI_step hM hc h e) (by omega) (by omega)
end
/-! ### what a machine tells of a text, by its columns -/
def stepM (rows : Rws) (s : Nat) (c : Option Nat) : Nat := gl (rowAt rows s) c
/-- the column of a word -/
def colW {W : Type} [DecidableEq W] (words : List W) (w : W) : Option Nat := if w ∈ words then some (words.idxOf w) else none
def runM {W : Type} [DecidableEq W] (words : List W) (rows : Rws) : Nat → List W → Nat
  | s, [] => s
  | s, w :: t => runM words rows (stepM rows s (colW words w)) t
def accM {W : Type} [DecidableEq W] (words : List W) (rows : Rws) (s : Nat) (t : List W) : Bool := (rowAt rows (runM words rows s t)).1
theorem colW_lt {W : Type} [DecidableEq W] {words : List W} {w : W} : ∀ k, colW words w = some k → k < words.length := fun k e => by
  unfold colW at e
  split at e
  · cases e
    exact List.idxOf_lt_length_iff.mpr (by assumption)
  · cases e
/-- states of two machines that tell the same -/
theorem acc_sim {W : Type} [DecidableEq W] {ws vs : List W} {rows qows : Rws} (R : Nat → Nat → Prop) (h1 : ∀ i j, R i j → (rowAt rows i).1 = (rowAt qows j).1) (h2 : ∀ i j w, R i j → R (stepM rows i (colW ws w)) (stepM qows j (colW vs w))) : ∀ (t : List W) (i j : Nat), R i j → accM ws rows i t = accM vs qows j t
  | [], i, j, h => h1 i j h
  | w :: t, i, j, h => acc_sim R h1 h2 t _ _ (h2 i j w h)
end DL
namespace DL
/-! ### numbers by the first one alike -/
theorem nodup_subl {α : Type} [DecidableEq α] : ∀ {xs ys : List α}, xs.Nodup → (∀ x ∈ xs, x ∈ ys) → xs.length ≤ ys.length
  | [], _, _, _ => Nat.zero_le _
  | x :: xs, ys, hn, h => by
    obtain ⟨n1, n2⟩ := List.nodup_cons.mp hn
    have hx := h x List.mem_cons_self
    have := nodup_subl (xs := xs) (ys := ys.erase x) n2 fun y hy => (List.mem_erase_of_ne (fun e => n1 (e ▸ hy) : y ≠ x)).mpr (h y (List.mem_cons_of_mem _ hy))
    rw [List.length_erase_of_mem hx] at this
    have : 0 < ys.length := List.length_pos_of_mem hx
    rw [List.length_cons]
    omega
def num {α : Type} [DecidableEq α] (xs : List α) : List Nat := xs.map fun x => (ddp xs).idxOf x
section
variable {α β : Type} [DecidableEq α] [DecidableEq β]
theorem fold_map {f : α → β} : ∀ (xs o : List α), (∀ x ∈ o ++ xs, ∀ y ∈ o ++ xs, f x = f y → x = y) → (xs.map f).foldl addO (o.map f) = (xs.foldl addO o).map f
  | [], o, _ => rfl
  | x :: xs, o, h => by
    have e : addO (o.map f) (f x) = (addO o x).map f := by
      unfold addO
      by_cases hx : x ∈ o
      · rw [if_pos hx, if_pos (List.mem_map_of_mem hx)]
      · rw [if_neg hx, if_neg (fun z => by
          obtain ⟨y, hy, e⟩ := List.mem_map.mp z
          exact hx ((h y (List.mem_append_left _ hy) x (List.mem_append_right _ List.mem_cons_self) e) ▸ hy)), List.map_append]
        rfl
    rw [List.map_cons, List.foldl_cons, List.foldl_cons, e]
    refine fold_map xs (addO o x) fun a ha b hb => h a ?_ b ?_
    · rcases List.mem_append.mp ha with ha | ha
      · rcases addO_mem.mp ha with ha | rfl
        · exact List.mem_append_left _ ha
        · exact List.mem_append_right _ List.mem_cons_self
      · exact List.mem_append_right _ (List.mem_cons_of_mem _ ha)
    · rcases List.mem_append.mp hb with ha | ha
      · rcases addO_mem.mp ha with ha | rfl
        · exact List.mem_append_left _ ha
        · exact List.mem_append_right _ List.mem_cons_self
      · exact List.mem_append_right _ (List.mem_cons_of_mem _ ha)
theorem ddp_map {f : α → β} {xs : List α} (h : ∀ x ∈ xs, ∀ y ∈ xs, f x = f y → x = y) : ddp (xs.map f) = (ddp xs).map f := fold_map xs [] h
theorem idx_map {f : α → β} {l : List α} (hn : (l.map f).Nodup) {x : α} (hx : x ∈ l) : (l.map f).idxOf (f x) = l.idxOf x :=
  idx_of_get hn (by rw [List.getElem?_map, idx_get hx]; rfl)
theorem num_map {f : α → β} {xs : List α} (h : ∀ x ∈ xs, ∀ y ∈ xs, f x = f y → x = y) : num (xs.map f) = num xs := by
  unfold num
  rw [List.map_map]
  refine List.map_congr_left fun x hx => ?_
  show (ddp (xs.map f)).idxOf (f x) = _
  have hn := ddp_nodup (xs.map f)
  rw [ddp_map h] at hn ⊢
  exact idx_map hn (ddp_mem.mpr hx)
theorem num_len (xs : List α) : (num xs).length = xs.length := List.length_map ..
theorem num_inj {xs : List α} {x y : α} (hx : x ∈ xs) (hy : y ∈ xs) (h : (ddp xs).idxOf x = (ddp xs).idxOf y) : x = y := idx_inj (ddp_mem.mpr hx) (ddp_mem.mpr hy) h
theorem ddp_num (xs : List α) : ddp (num xs) = List.range (ddp xs).length := by
  unfold num
  rw [ddp_map fun x hx y hy h => num_inj hx hy h]
  refine List.ext_getElem? fun i => ?_
  rw [List.getElem?_map]
  by_cases hi : i < (ddp xs).length
  · rw [List.getElem?_eq_getElem hi, List.getElem?_range hi]
    show some ((ddp xs).idxOf (ddp xs)[i]) = _
    rw [(ddp_nodup xs).idxOf_getElem i hi]
  · rw [List.getElem?_eq_none (by omega), List.getElem?_eq_none (by simp; omega)]
    rfl
theorem num_num (xs : List α) : num (num xs) = num xs := num_map fun x hx y hy h => num_inj hx hy h
theorem num_lt {xs : List α} {i : Nat} (h : i ∈ num xs) : i < (ddp xs).length := by
  obtain ⟨x, hx, rfl⟩ := List.mem_map.mp h
  exact List.idxOf_lt_length_iff.mpr (ddp_mem.mpr hx)
theorem refine_le {f : α → β} (ys : List α) : (ddp (ys.map f)).length ≤ (ddp ys).length := by
  have := nodup_subl (ddp_nodup (ys.map f)) (ys := (ddp ys).map f) fun x hx => by
    obtain ⟨y, hy, rfl⟩ := List.mem_map.mp (ddp_mem.mp hx)
    exact List.mem_map_of_mem (ddp_mem.mpr hy)
  rw [List.length_map] at this
  exact this
theorem refine_inj {f : α → β} {ys : List α} (h : (ddp ys).length ≤ (ddp (ys.map f)).length) : ∀ x ∈ ys, ∀ y ∈ ys, f x = f y → x = y := fun x hx y hy e => by
  by_cases hxy : x = y
  · exact hxy
  · have := nodup_subl (ddp_nodup (ys.map f)) (ys := ((ddp ys).erase y).map f) fun z hz => by
      obtain ⟨u, hu, rfl⟩ := List.mem_map.mp (ddp_mem.mp hz)
      by_cases huy : u = y
      · rw [huy, ← e]
        exact List.mem_map_of_mem ((List.mem_erase_of_ne hxy).mpr (ddp_mem.mpr hx))
      · exact List.mem_map_of_mem ((List.mem_erase_of_ne huy).mpr (ddp_mem.mpr hu))
    rw [List.length_map, List.length_erase_of_mem (ddp_mem.mpr hy)] at this
    have := List.length_pos_of_mem (ddp_mem.mpr hy)
    omega
end
/-! ### blocks of states -/
abbrev Sgn := Bool × Nat × List Nat × Nat
def sg (bl : List Nat) (r : RowM) (b : Nat) : Sgn := (r.1, b, r.2.1.map (fun g => bl.getD g 0), bl.getD r.2.2 0)
def signs (bl : List Nat) (rows : Rws) : List Sgn := (rows.zip bl).map fun q => sg bl q.1 q.2
def blkW (rows : Rws) : Nat → List Nat → Nat → List Nat
  | 0, bl, _ => bl
  | n + 1, bl, cnt => if (ddp (signs bl rows)).length = cnt then num (signs bl rows) else blkW rows n (num (signs bl rows)) (ddp (signs bl rows)).length
def blocksM (rows : Rws) : List Nat := blkW rows (rows.length + 1) (rows.map fun _ => 0) 0
theorem sgs_len {bl : List Nat} {rows : Rws} (h : bl.length = rows.length) : (signs bl rows).length = rows.length := by
  unfold signs
  rw [List.length_map, List.length_zip, h]
  omega
theorem sgs_snd {bl : List Nat} {rows : Rws} (h : bl.length = rows.length) : (signs bl rows).map (·.2.1) = bl := by
  unfold signs
  rw [List.map_map]
  show (rows.zip bl).map (fun q => q.2) = bl
  exact List.map_snd_zip (by omega)
theorem sgs_get {bl : List Nat} {rows : Rws} (h : bl.length = rows.length) {i : Nat} (hi : i < rows.length) : (signs bl rows)[i]? = some (sg bl (rowAt rows i) (bl.getD i 0)) := by
  unfold signs
  rw [List.getElem?_map]
  have e : (rows.zip bl)[i]? = some (rowAt rows i, bl.getD i 0) := by
    rw [List.getElem?_zip_eq_some]
    refine ⟨rowAt_get hi, ?_⟩
    rw [List.getD_eq_getElem?_getD, List.getElem?_eq_getElem (by omega : i < bl.length)]
    rfl
  rw [e]
  rfl
/-- blocks that are split no more -/
structure Stab (rows : Rws) (bl : List Nat) : Prop where
  len : bl.length = rows.length
  can : num bl = bl
  sig : ∀ i j, i < rows.length → j < rows.length → bl.getD i 0 = bl.getD j 0 → sg bl (rowAt rows i) (bl.getD i 0) = sg bl (rowAt rows j) (bl.getD j 0)
/-- on the way -/
structure Way (rows : Rws) (bl : List Nat) (cnt : Nat) : Prop where
  len : bl.length = rows.length
  can : 0 < cnt → num bl = bl ∧ (ddp bl).length = cnt
theorem signs_step {rows : Rws} {bl : List Nat} (h : bl.length = rows.length) : Way rows (num (signs bl rows)) (ddp (signs bl rows)).length :=
  ⟨by rw [num_len, sgs_len h], fun _ => ⟨num_num _, by rw [ddp_num, List.length_range]⟩⟩
theorem signs_end {rows : Rws} {bl : List Nat} {cnt : Nat} (hne : rows ≠ []) (w : Way rows bl cnt) (h : (ddp (signs bl rows)).length = cnt) : num (signs bl rows) = bl ∧ Stab rows bl := by
  have hl := List.length_pos_iff.mpr hne
  have h0 : 0 < cnt := by
    rw [← h]
    have : 0 < (signs bl rows).length := by rw [sgs_len w.len]; exact hl
    obtain ⟨x, hx⟩ := List.exists_mem_of_length_pos this
    exact List.length_pos_of_mem (ddp_mem.mpr hx)
  obtain ⟨c1, c2⟩ := w.can h0
  have hs := sgs_snd w.len
  have hinj : ∀ x ∈ signs bl rows, ∀ y ∈ signs bl rows, x.2.1 = y.2.1 → x = y := refine_inj (f := fun x : Sgn => x.2.1) (by rw [hs, c2, h]; exact Nat.le_refl _)
  have e : num (signs bl rows) = bl := by rw [← num_map (f := fun x : Sgn => x.2.1) hinj, hs, c1]
  exact ⟨e, ⟨w.len, c1, fun i j hi hj hij => hinj _ (List.mem_of_getElem? (sgs_get w.len hi)) _ (List.mem_of_getElem? (sgs_get w.len hj)) hij⟩⟩
theorem signs_more {rows : Rws} {bl : List Nat} {cnt : Nat} (w : Way rows bl cnt) : cnt ≤ (ddp (signs bl rows)).length := by
  by_cases h0 : 0 < cnt
  · obtain ⟨c1, c2⟩ := w.can h0
    have := refine_le (f := fun x : Sgn => x.2.1) (signs bl rows)
    rw [sgs_snd w.len, c2] at this
    exact this
  · omega
theorem signs_le {rows : Rws} {bl : List Nat} (h : bl.length = rows.length) : (ddp (signs bl rows)).length ≤ rows.length := by
  rw [← sgs_len h]
  exact nodup_subl (ddp_nodup _) fun x hx => ddp_mem.mp hx
theorem blkW_ok {rows : Rws} (hne : rows ≠ []) : ∀ (n : Nat) (bl : List Nat) (cnt : Nat), Way rows bl cnt → rows.length < cnt + n → Stab rows (blkW rows n bl cnt)
  | 0, bl, cnt, w, h => by
    have := signs_more w
    have := signs_le w.len
    omega
  | n + 1, bl, cnt, w, h => by
    unfold blkW
    by_cases e : (ddp (signs bl rows)).length = cnt
    · rw [if_pos e]
      obtain ⟨e1, e2⟩ := signs_end hne w e
      rw [e1]
      exact e2
    · rw [if_neg e]
      have := signs_more w
      exact blkW_ok hne n _ _ (signs_step w.len) (by omega)
theorem blkW_fuel {rows : Rws} : ∀ (n m : Nat) (bl : List Nat) (cnt : Nat), Way rows bl cnt → rows.length < cnt + n → rows.length < cnt + m → blkW rows n bl cnt = blkW rows m bl cnt
  | 0, m, bl, cnt, w, h, _ => by
    have := signs_more w
    have := signs_le w.len
    omega
  | n + 1, 0, bl, cnt, w, _, h => by
    have := signs_more w
    have := signs_le w.len
    omega
  | n + 1, m + 1, bl, cnt, w, h, h2 => by
    unfold blkW
    by_cases e : (ddp (signs bl rows)).length = cnt
    · rw [if_pos e, if_pos e]
    · rw [if_neg e, if_neg e]
      have := signs_more w
      exact blkW_fuel n m _ _ (signs_step w.len) (by omega) (by omega)
theorem way0 (rows : Rws) : Way rows (rows.map fun _ => 0) 0 := ⟨List.length_map .., fun h => absurd h (Nat.lt_irrefl _)⟩
theorem blocks_ok {rows : Rws} (hne : rows ≠ []) : Stab rows (blocksM rows) := blkW_ok hne _ _ _ (way0 rows) (by omega)
/-! ### one state for each block -/
def foldRow (bl : List Nat) (r : RowM) : RowM := (r.1, r.2.1.map (fun g => bl.getD g 0), bl.getD r.2.2 0)
def foldI (bl : List Nat) (acc : Rws) (q : RowM × Nat) : Rws := if q.2 = acc.length then acc ++ [foldRow bl q.1] else acc
def foldM (rows : Rws) (bl : List Nat) : Rws := (rows.zip bl).foldl (foldI bl) []
/-- behind the first i states: a row for each block that was met, of a state of it -/
structure FoldI (rows : Rws) (bl : List Nat) (i : Nat) (acc : Rws) : Prop where
  len : acc.length = (ddp (bl.take i)).length
  row : ∀ b, b < acc.length → ∃ s, s < i ∧ bl[s]? = some b ∧ acc[b]? = some (foldRow bl (rowAt rows s))
theorem can_take {bl : List Nat} (h : num bl = bl) {i b : Nat} (hb : bl[i]? = some b) : b ≤ (ddp (bl.take i)).length ∧ (b < (ddp (bl.take i)).length → b ∈ bl.take i) ∧ (b = (ddp (bl.take i)).length → b ∉ bl.take i) := by
  have hi := (List.getElem?_eq_some_iff.mp hb).1
  obtain ⟨t, ht⟩ := fold_pre (bl.drop i) (ddp (bl.take i))
  have e : ddp bl = ddp (bl.take i) ++ t := by
    rw [← ht]
    unfold ddp
    rw [← List.foldl_append, List.take_append_drop]
  have hbi : (ddp bl).idxOf b = b := by
    have h2 : (num bl)[i]? = some ((ddp bl).idxOf b) := by
      unfold num
      rw [List.getElem?_map, hb]
      rfl
    rw [h, hb] at h2
    exact (Option.some.inj h2).symm
  have hmem : ∀ x, x ∈ bl.take i ↔ x ∈ ddp (bl.take i) := fun x => ddp_mem.symm
  have hin : b ∈ bl.take i ∨ b ∉ bl.take i := Decidable.em _
  rcases hin with hin | hin
  · have h1 : b < (ddp (bl.take i)).length := by
      rw [← hbi, e, idx_app ((hmem b).mp hin)]
      exact List.idxOf_lt_length_iff.mpr ((hmem b).mp hin)
    exact ⟨by omega, fun _ => hin, fun z => by omega⟩
  · have h1 : b = (ddp (bl.take i)).length := by
      have h2 : ddp (bl.take (i + 1)) = ddp (bl.take i) ++ [b] := by
        rw [List.take_add_one, hb]
        show ddp (_ ++ [b]) = _
        rw [ddp_snoc]
        unfold addO
        rw [if_neg (fun z => hin ((hmem b).mpr z))]
      obtain ⟨t2, ht2⟩ := fold_pre (bl.drop (i + 1)) (ddp (bl.take (i + 1)))
      have e2 : ddp bl = ddp (bl.take (i + 1)) ++ t2 := by
        rw [← ht2]
        unfold ddp
        rw [← List.foldl_append, List.take_append_drop]
      have h3 : (ddp bl)[(ddp (bl.take i)).length]? = some b := by
        rw [e2, h2, List.append_assoc, List.getElem?_append_right (Nat.le_refl _), Nat.sub_self]
        rfl
      rw [← hbi]
      exact idx_of_get (ddp_nodup bl) h3
    exact ⟨by omega, fun z => by omega, fun _ => hin⟩
theorem foldI_step {rows : Rws} {bl : List Nat} (hl : bl.length = rows.length) (h : num bl = bl) {i : Nat} {acc : Rws} (F : FoldI rows bl i acc) (hi : i < rows.length) : FoldI rows bl (i + 1) (foldI bl acc (rowAt rows i, bl.getD i 0)) := by
  have hib : i < bl.length := by omega
  have hb : bl[i]? = some (bl.getD i 0) := by rw [List.getD_eq_getElem?_getD, List.getElem?_eq_getElem hib]; rfl
  obtain ⟨h1, h2, h3⟩ := can_take h hb
  generalize bl.getD i 0 = b at hb h1 h2 h3
  have ed : ddp (bl.take (i + 1)) = addO (ddp (bl.take i)) b := by
    rw [List.take_add_one, hb]
    exact ddp_snoc _ _
  unfold foldI
  show FoldI _ _ _ (if b = acc.length then _ else _)
  by_cases e : b = acc.length
  · rw [if_pos e]
    have hn := h3 (by rw [e, F.len])
    refine ⟨?_, fun c hc => ?_⟩
    · rw [List.length_append, ed]
      unfold addO
      rw [if_neg (fun z => hn (ddp_mem.mp z)), List.length_append, F.len]
      rfl
    · rw [List.length_append, List.length_singleton] at hc
      by_cases hca : c < acc.length
      · obtain ⟨s, k1, k2, k3⟩ := F.row c hca
        exact ⟨s, by omega, k2, by rw [List.getElem?_append_left hca]; exact k3⟩
      · have : c = acc.length := by omega
        subst this
        refine ⟨i, by omega, by rw [hb, e], ?_⟩
        rw [List.getElem?_append_right (Nat.le_refl _), Nat.sub_self]
        rfl
  · rw [if_neg e]
    have hin := h2 (by rw [F.len] at e; omega)
    refine ⟨?_, fun c hc => ?_⟩
    · rw [ed]
      unfold addO
      rw [if_pos (ddp_mem.mpr hin), F.len]
    · obtain ⟨s, k1, k2, k3⟩ := F.row c hc
      exact ⟨s, by omega, k2, k3⟩
theorem zip_get {rows : Rws} {bl : List Nat} (hl : bl.length = rows.length) {i : Nat} (hi : i < rows.length) : (rows.zip bl)[i]? = some (rowAt rows i, bl.getD i 0) := by
  rw [List.getElem?_zip_eq_some]
  exact ⟨rowAt_get hi, by rw [List.getD_eq_getElem?_getD, List.getElem?_eq_getElem (by omega : i < bl.length)]; rfl⟩
theorem foldM_take {rows : Rws} {bl : List Nat} (hl : bl.length = rows.length) (h : num bl = bl) : ∀ i, i ≤ rows.length → FoldI rows bl i (((rows.zip bl).take i).foldl (foldI bl) [])
  | 0, _ => ⟨rfl, fun b hb => absurd hb (Nat.not_lt_zero _)⟩
  | i + 1, hi => by
    rw [List.take_add_one, zip_get hl (by omega), List.foldl_append]
    exact foldI_step hl h (foldM_take hl h i (by omega)) (by omega)
theorem foldM_ok {rows : Rws} {bl : List Nat} (hl : bl.length = rows.length) (h : num bl = bl) : FoldI rows bl rows.length (foldM rows bl) := by
  have := foldM_take hl h rows.length (Nat.le_refl _)
  rw [List.take_of_length_le (by rw [List.length_zip]; omega)] at this
  exact this
end DL
namespace DL
section
variable {n : Nat} {cols : List Nat} {rows : Rws} {first : Nat}
theorem getD_some {α : Type} {xs : List α} {i : Nat} {x d : α} (h : xs[i]? = some x) : xs.getD i d = x := by
  rw [List.getD_eq_getElem?_getD, h]
  rfl
theorem reach_len : (reachM cols rows first).length = (orderOf cols rows first).length := List.length_map ..
theorem reach_row {i s : Nat} (h : (orderOf cols rows first)[i]? = some s) : rowAt (reachM cols rows first) i = renum cols (orderOf cols rows first) (rowAt rows s) := by
  unfold rowAt reachM
  exact getD_some (by rw [List.getElem?_map, h]; rfl)
theorem reach_go (hM : MOk n rows) (hc : ∀ c ∈ cols, c < n) (hf : first < rows.length) {i s : Nat} (h : (orderOf cols rows first)[i]? = some s) :
    (orderOf cols rows first)[gl (rowAt (reachM cols rows first) i) none]? = some (gl (rowAt rows s) none) ∧ ∀ (j c : Nat), cols[j]? = some c → (orderOf cols rows first)[gl (rowAt (reachM cols rows first) i) (some j)]? = some (gl (rowAt rows s) (some c)) := by
  have O := order_ok hM hc hf
  have hi := (List.getElem?_eq_some_iff.mp h).1
  rw [reach_row h]
  have cl := O.cl i s hi h
  refine ⟨idx_get (cl none (List.mem_append_right _ List.mem_cons_self)), fun j c hj => ?_⟩
  have e : gl (renum cols (orderOf cols rows first) (rowAt rows s)) (some j) = (orderOf cols rows first).idxOf (gl (rowAt rows s) (some c)) := by
    show (cols.map fun c => _).getD j 0 = _
    exact getD_some (by rw [List.getElem?_map, hj]; rfl)
  rw [e]
  exact idx_get (cl (some c) (List.mem_append_left _ (List.mem_map_of_mem (List.mem_of_getElem? hj))))
theorem reach_ok (hM : MOk n rows) (hc : ∀ c ∈ cols, c < n) (hf : first < rows.length) : MOk cols.length (reachM cols rows first) ∧ 0 < (reachM cols rows first).length ∧ (reachM cols rows first).length ≤ rows.length := by
  have O := order_ok hM hc hf
  have h0 := (List.getElem?_eq_some_iff.mp O.zero).1
  refine ⟨⟨fun r hr => ?_, fun r hr g hg => ?_, fun r hr => ?_⟩, by rw [reach_len]; exact h0, by rw [reach_len]; exact nodup_lt O.nd O.lt⟩
  · obtain ⟨s, _, rfl⟩ := List.mem_map.mp hr
    exact List.length_map ..
  · obtain ⟨s, hs, rfl⟩ := List.mem_map.mp hr
    obtain ⟨i, hi⟩ := List.getElem?_of_mem hs
    obtain ⟨c, hcc, rfl⟩ := List.mem_map.mp hg
    rw [reach_len]
    exact List.idxOf_lt_length_iff.mpr (O.cl i s (List.getElem?_eq_some_iff.mp hi).1 hi _ (List.mem_append_left _ (List.mem_map_of_mem hcc)))
  · obtain ⟨s, hs, rfl⟩ := List.mem_map.mp hr
    obtain ⟨i, hi⟩ := List.getElem?_of_mem hs
    rw [reach_len]
    exact List.idxOf_lt_length_iff.mpr (O.cl i s (List.getElem?_eq_some_iff.mp hi).1 hi none (List.mem_append_right _ List.mem_cons_self))
end
section
variable {W : Type} [DecidableEq W] {ws : List W} {rows : Rws} {first : Nat}
/-- all columns -/
theorem reach_lang (hM : MOk ws.length rows) (hf : first < rows.length) (t : List W) : accM ws (reachM (List.range ws.length) rows first) 0 t = accM ws rows first t := by
  have hc : ∀ c ∈ List.range ws.length, c < ws.length := fun c h => List.mem_range.mp h
  have O := order_ok hM hc hf
  refine acc_sim (fun i s => (orderOf (List.range ws.length) rows first)[i]? = some s) (fun i s h => ?_) (fun i s w h => ?_) t 0 first O.zero
  · rw [reach_row h]
    rfl
  · obtain ⟨h1, h2⟩ := reach_go hM hc hf h
    unfold stepM
    cases e : colW ws w with
    | none => exact h1
    | some c => exact h2 c c (List.getElem?_range (colW_lt c e))
end
/-! ### folding -/
section
variable {n : Nat} {rows : Rws} {bl : List Nat}
theorem gl_fold {r : RowM} {c : Option Nat} (hc : ∀ k, c = some k → k < r.2.1.length) : gl (foldRow bl r) c = bl.getD (gl r c) 0 := by
  cases c with
  | none => rfl
  | some k =>
    have hk := hc k rfl
    show (r.2.1.map fun g => bl.getD g 0).getD k 0 = bl.getD (r.2.1.getD k 0) 0
    rw [getD_some (x := bl.getD (r.2.1[k]'hk) 0) (by rw [List.getElem?_map, List.getElem?_eq_getElem hk]; rfl), getD_some (x := r.2.1[k]'hk) (List.getElem?_eq_getElem hk)]
theorem msg_fold {bl : List Nat} {r q : RowM} {a b : Nat} (h : sg bl r a = sg bl q b) : foldRow bl r = foldRow bl q := by
  unfold sg at h
  injection h with h1 h2
  injection h2 with h2 h3
  injection h3 with h3 h4
  unfold foldRow
  rw [h1, h3, h4]
theorem bl_get {s : Nat} (hl : bl.length = rows.length) (hs : s < rows.length) : bl[s]? = some (bl.getD s 0) := by
  rw [List.getD_eq_getElem?_getD, List.getElem?_eq_getElem (by omega : s < bl.length)]
  rfl
theorem bl_lt (S : Stab rows bl) {s : Nat} (hs : s < rows.length) : bl.getD s 0 < (foldM rows bl).length := by
  have F := foldM_ok S.len S.can
  rw [F.len, List.take_of_length_le (by rw [S.len]; exact Nat.le_refl _)]
  have hm : bl.getD s 0 ∈ num bl := by rw [S.can]; exact List.mem_of_getElem? (bl_get S.len hs)
  exact num_lt hm
theorem fold_row (S : Stab rows bl) {s : Nat} (hs : s < rows.length) : rowAt (foldM rows bl) (bl.getD s 0) = foldRow bl (rowAt rows s) := by
  have F := foldM_ok S.len S.can
  obtain ⟨s0, k1, k2, k3⟩ := F.row _ (bl_lt S hs)
  unfold rowAt at *
  rw [getD_some k3]
  have h2 : bl.getD s0 0 = bl.getD s 0 := getD_some k2
  exact msg_fold (S.sig s0 s k1 hs h2)
theorem fold_ok (hM : MOk n rows) (S : Stab rows bl) : MOk n (foldM rows bl) := by
  have F := foldM_ok S.len S.can
  have key : ∀ r ∈ foldM rows bl, ∃ s, s < rows.length ∧ r = foldRow bl (rowAt rows s) := fun r hr => by
    obtain ⟨b, hb⟩ := List.getElem?_of_mem hr
    obtain ⟨s0, k1, k2, k3⟩ := F.row b (List.getElem?_eq_some_iff.mp hb).1
    rw [hb] at k3
    exact ⟨s0, k1, Option.some.inj k3⟩
  refine ⟨fun r hr => ?_, fun r hr g hg => ?_, fun r hr => ?_⟩
  · obtain ⟨s, hs, rfl⟩ := key r hr
    show (List.map _ _).length = _
    rw [List.length_map, hM.len _ (rowAt_mem hs)]
  · obtain ⟨s, hs, rfl⟩ := key r hr
    obtain ⟨g0, hg0, rfl⟩ := List.mem_map.mp hg
    exact bl_lt S (hM.go _ (rowAt_mem hs) g0 hg0)
  · obtain ⟨s, hs, rfl⟩ := key r hr
    exact bl_lt S (hM.oth _ (rowAt_mem hs))
theorem can0 (hne : rows ≠ []) (S : Stab rows bl) : bl.getD 0 0 = 0 := by
  have h := S.can
  have hl := S.len
  cases bl with
  | nil => rfl
  | cons b t =>
    have h2 : (num (b :: t))[0]? = some ((ddp (b :: t)).idxOf b) := rfl
    rw [h] at h2
    obtain ⟨u, hu⟩ := fold_pre t (addO [] b)
    have e : ddp (b :: t) = [b] ++ u := hu
    rw [e, idx_app (List.mem_singleton.mpr rfl)] at h2
    have : ([b] : List Nat).idxOf b = 0 := by simp
    rw [this] at h2
    show b = 0
    exact Option.some.inj h2
theorem fold_lang {W : Type} [DecidableEq W] {ws : List W} (hM : MOk ws.length rows) (S : Stab rows bl) {s : Nat} (hs : s < rows.length) (t : List W) : accM ws (foldM rows bl) (bl.getD s 0) t = accM ws rows s t := by
  refine acc_sim (fun b s => s < rows.length ∧ b = bl.getD s 0) (fun b s h => ?_) (fun b s w h => ?_) t _ s ⟨hs, rfl⟩
  · obtain ⟨h1, rfl⟩ := h
    rw [fold_row S h1]
    rfl
  · obtain ⟨h1, rfl⟩ := h
    unfold stepM
    have hc : ∀ k, colW ws w = some k → k < ws.length := colW_lt
    refine ⟨hM.gl h1 _ hc, ?_⟩
    rw [fold_row S h1, gl_fold fun k e => by rw [hM.len _ (rowAt_mem h1)]; exact hc k e]
end
/-! ### words that matter -/
def tells (n : Nat) (rows : Rws) : List Nat := (List.range n).filter fun c => rows.any fun r => decide (r.2.1.getD c 0 ≠ r.2.2)
def leastM {W : Type} (ws : List W) (rows : Rws) (first : Nat) : List W × Rws :=
  let r1 := reachM (List.range ws.length) rows first
  let r2 := foldM r1 (blocksM r1)
  ((tells ws.length r2).filterMap fun c => ws[c]?, reachM (tells ws.length r2) r2 0)
section
variable {W : Type} [DecidableEq W] {ws : List W} {rows : Rws} {first : Nat}
theorem tells_lt {n : Nat} {rows : Rws} : ∀ c ∈ tells n rows, c < n := fun c h => List.mem_range.mp (List.mem_filter.mp h).1
theorem tells_not {n : Nat} {rows : Rws} {c : Nat} (hc : c < n) (h : c ∉ tells n rows) {s : Nat} (hs : s < rows.length) : gl (rowAt rows s) (some c) = gl (rowAt rows s) none := by
  by_cases e : gl (rowAt rows s) (some c) = gl (rowAt rows s) none
  · exact e
  · refine absurd (List.mem_filter.mpr ⟨List.mem_range.mpr hc, List.any_eq_true.mpr ⟨_, rowAt_mem hs, decide_eq_true e⟩⟩) h
theorem tells_nodup {n : Nat} {rows : Rws} : (tells n rows).Nodup := List.nodup_range.sublist List.filter_sublist
theorem fm_get {ws : List W} : ∀ {cs : List Nat}, (∀ c ∈ cs, c < ws.length) → ∀ j : Nat, (cs.filterMap fun c => ws[c]?)[j]? = cs[j]?.bind fun c => ws[c]?
  | [], _, j => by simp
  | c :: cs, h, j => by
    have hc := h c List.mem_cons_self
    rw [List.filterMap_cons, List.getElem?_eq_getElem hc]
    cases j with
    | zero => simp [List.getElem?_eq_getElem hc]
    | succ j => simpa using fm_get (fun d hd => h d (List.mem_cons_of_mem _ hd)) j
theorem fm_len {ws : List W} : ∀ {cs : List Nat}, (∀ c ∈ cs, c < ws.length) → (cs.filterMap fun c => ws[c]?).length = cs.length
  | [], _ => rfl
  | c :: cs, h => by
    rw [List.filterMap_cons, List.getElem?_eq_getElem (h c List.mem_cons_self)]
    simpa using fm_len fun d hd => h d (List.mem_cons_of_mem _ hd)
theorem fm_nodup {ws : List W} (hw : ws.Nodup) : ∀ {cs : List Nat}, (∀ c ∈ cs, c < ws.length) → cs.Nodup → (cs.filterMap fun c => ws[c]?).Nodup
  | [], _, _ => .nil
  | c :: cs, h, hn => by
    have hc := h c List.mem_cons_self
    obtain ⟨n1, n2⟩ := List.nodup_cons.mp hn
    rw [List.filterMap_cons, List.getElem?_eq_getElem hc]
    refine List.nodup_cons.mpr ⟨fun hm => ?_, fm_nodup hw (fun d hd => h d (List.mem_cons_of_mem _ hd)) n2⟩
    obtain ⟨d, hd, e⟩ := List.mem_filterMap.mp hm
    have e2 : ws[c]? = some ws[c] := List.getElem?_eq_getElem hc
    have h1 := idx_of_get hw e
    have h2 := idx_of_get hw e2
    rw [h1] at h2
    exact n1 (h2 ▸ hd)
theorem tell_lang (hw : ws.Nodup) (hM : MOk ws.length rows) (hf : first < rows.length) (t : List W) : accM ((tells ws.length rows).filterMap fun c => ws[c]?) (reachM (tells ws.length rows) rows first) 0 t = accM ws rows first t := by
  have hc := tells_lt (n := ws.length) (rows := rows)
  have O := order_ok hM hc hf
  have hv := fm_nodup hw hc tells_nodup
  refine acc_sim (fun i s => (orderOf (tells ws.length rows) rows first)[i]? = some s) (fun i s h => ?_) (fun i s w h => ?_) t 0 first O.zero
  · rw [reach_row h]
    rfl
  · obtain ⟨h1, h2⟩ := reach_go hM hc hf h
    have hs := O.lt s (List.mem_of_getElem? h)
    unfold stepM
    by_cases hm : w ∈ (tells ws.length rows).filterMap fun c => ws[c]?
    · obtain ⟨j, hj⟩ := List.getElem?_of_mem hm
      have hj2 := hj
      rw [fm_get hc] at hj2
      cases e : (tells ws.length rows)[j]? with
      | none => rw [e] at hj2; cases hj2
      | some c =>
        rw [e] at hj2
        have hj3 : ws[c]? = some w := hj2
        have e1 : colW ((tells ws.length rows).filterMap fun c => ws[c]?) w = some j := by
          unfold colW
          rw [if_pos hm, idx_of_get hv hj]
        have e2 : colW ws w = some c := by
          unfold colW
          rw [if_pos (List.mem_of_getElem? hj3), idx_of_get hw hj3]
        rw [e1, e2]
        exact h2 j c e
    · have e1 : colW ((tells ws.length rows).filterMap fun c => ws[c]?) w = none := if_neg hm
      rw [e1]
      cases e2 : colW ws w with
      | none => exact h1
      | some c =>
        have hc2 := colW_lt c e2
        have hw2 : ws[c]? = some w := by
          unfold colW at e2
          split at e2
          · rename_i hin
            cases e2
            exact idx_get hin
          · cases e2
        rw [tells_not hc2 (fun hin => hm (List.mem_filterMap.mpr ⟨c, hin, hw2⟩)) hs]
        exact h1
theorem least_lang (hw : ws.Nodup) (hM : MOk ws.length rows) (hf : first < rows.length) (t : List W) : accM (leastM ws rows first).1 (leastM ws rows first).2 0 t = accM ws rows first t := by
  obtain ⟨o1, o2, o3⟩ := reach_ok hM (cols := List.range ws.length) (fun c h => List.mem_range.mp h) hf
  rw [List.length_range] at o1
  have hne : reachM (List.range ws.length) rows first ≠ [] := List.length_pos_iff.mp o2
  have S := blocks_ok hne
  have o4 := fold_ok o1 S
  have h0 := can0 hne S
  have h1 := bl_lt S o2
  rw [h0] at h1
  rw [← reach_lang hM hf t, ← fold_lang o1 S o2 t, h0]
  exact tell_lang hw o4 h1 t
theorem least_ok (hw : ws.Nodup) (hM : MOk ws.length rows) (hf : first < rows.length) : (leastM ws rows first).1.Sublist ws ∧ MOk (leastM ws rows first).1.length (leastM ws rows first).2 ∧ 0 < (leastM ws rows first).2.length ∧ (leastM ws rows first).2.length ≤ rows.length := by
  obtain ⟨o1, o2, o3⟩ := reach_ok hM (cols := List.range ws.length) (fun c h => List.mem_range.mp h) hf
  rw [List.length_range] at o1
  have hne : reachM (List.range ws.length) rows first ≠ [] := List.length_pos_iff.mp o2
  have S := blocks_ok hne
  have o4 := fold_ok o1 S
  have h0 := can0 hne S
  have h1 := bl_lt S o2
  rw [h0] at h1
  obtain ⟨p1, p2, p3⟩ := reach_ok o4 (cols := tells ws.length (foldM (reachM (List.range ws.length) rows first) (blocksM (reachM (List.range ws.length) rows first)))) tells_lt h1
  have F := foldM_ok S.len S.can
  have hle : (foldM (reachM (List.range ws.length) rows first) (blocksM (reachM (List.range ws.length) rows first))).length ≤ (reachM (List.range ws.length) rows first).length := by
    rw [F.len, List.take_of_length_le (by rw [S.len]; exact Nat.le_refl _), ← S.len]
    exact nodup_subl (ddp_nodup _) fun x hx => ddp_mem.mp hx
  refine ⟨?_, ?_, p2, by show (reachM _ _ 0).length ≤ _; omega⟩
  · have key : ∀ n (f : Nat → Bool), n ≤ ws.length → (((List.range n).filter f).filterMap fun c => ws[c]?).Sublist (ws.take n) := by
      intro n f
      induction n with
      | zero => intro _; simp
      | succ n ih =>
        intro hn
        have hx : n < ws.length := hn
        rw [List.range_succ, List.filter_append, List.filterMap_append, List.take_add_one, List.getElem?_eq_getElem hx]
        refine (ih (by omega)).append ?_
        by_cases hfn : f n = true
        · simp [List.filter_cons, hfn, List.getElem?_eq_getElem hx]
        · simp [List.filter_cons, hfn]
    have := key ws.length (fun c => (foldM (reachM (List.range ws.length) rows first) (blocksM (reachM (List.range ws.length) rows first))).any fun r => decide (r.2.1.getD c 0 ≠ r.2.2)) (Nat.le_refl _)
    rw [List.take_length] at this
    exact this
  · show MOk ((tells _ _).filterMap _).length _
    rw [fm_len tells_lt]
    exact p1
end
end DL
namespace DL
/-! ### how many texts -/
section
variable {W : Type} [DecidableEq W]
/-- of n words, all of them out of ask -/
def cntL (ask : List W) : Nat → (List W → Bool) → Nat
  | 0, f => if f [] = true then 1 else 0
  | n + 1, f => (ask.map fun w => cntL ask n fun t => f (w :: t)).sum
theorem cntL_congr {ask : List W} : ∀ {n : Nat} {f g : List W → Bool}, (∀ t, f t = g t) → cntL ask n f = cntL ask n g
  | 0, f, g, h => by unfold cntL; rw [h]
  | n + 1, f, g, h => by
    unfold cntL
    congr 1
    exact List.map_congr_left fun w _ => cntL_congr fun t => h (w :: t)
theorem cntL_not {ask : List W} : ∀ {n : Nat} {f : List W → Bool}, cntL ask n (fun t => !f t) + cntL ask n f = ask.length ^ n
  | 0, f => by
    show (if (!f []) = true then 1 else 0) + (if f [] = true then 1 else 0) = 1
    cases f [] <;> rfl
  | n + 1, f => by
    unfold cntL
    rw [Nat.pow_succ, Nat.mul_comm]
    have key : ∀ l : List W, (l.map fun w => cntL ask n fun t => !f (w :: t)).sum + (l.map fun w => cntL ask n fun t => f (w :: t)).sum = l.length * ask.length ^ n := by
      intro l
      induction l with
      | nil => simp
      | cons w l ih =>
        rw [List.map_cons, List.map_cons, List.sum_cons, List.sum_cons, List.length_cons, Nat.add_mul, Nat.one_mul]
        have := cntL_not (ask := ask) (n := n) (f := fun t => f (w :: t))
        omega
    exact key ask
/-- by the columns of a machine -/
def cntM (cs : List (Option Nat)) (rows : Rws) : Nat → Nat → Nat
  | 0, s => if (rowAt rows s).1 = true then 1 else 0
  | n + 1, s => (cs.map fun c => cntM cs rows n (stepM rows s c)).sum
theorem cntM_lang {ws ask : List W} {rows : Rws} : ∀ n s, cntM (ask.map (colW ws)) rows n s = cntL ask n (accM ws rows s)
  | 0, s => rfl
  | n + 1, s => by
    unfold cntM cntL
    rw [List.map_map]
    congr 1
    exact List.map_congr_left fun w _ => cntM_lang n _
theorem cntM_le (cs : List (Option Nat)) (rows : Rws) : ∀ n s, cntM cs rows n s ≤ cs.length ^ n
  | 0, s => by
    unfold cntM
    split <;> simp
  | n + 1, s => by
    unfold cntM
    rw [Nat.pow_succ, Nat.mul_comm]
    have key : ∀ l : List (Option Nat), (l.map fun c => cntM cs rows n (stepM rows s c)).sum ≤ l.length * cs.length ^ n := by
      intro l
      induction l with
      | nil => simp
      | cons c l ih =>
        rw [List.map_cons, List.sum_cons, List.length_cons, Nat.add_mul, Nat.one_mul]
        have := cntM_le cs rows n (stepM rows s c)
        omega
    exact key cs
/-! the law's way: how many texts lead to each state -/
/-- weights of states -/
def bump (l : List Nat) (g k : Nat) : List Nat := l.set g (l.getD g 0 + k)
/-- the weights behind one word more: from a row's goals -/
def fwdR (gs : List Nat) (k : Nat) (l : List Nat) : List Nat := gs.foldl (fun l g => bump l g k) l
def fwd (goals : List (List Nat)) (ah : List Nat) : List Nat := (ah.zip goals).foldl (fun l q => fwdR q.2 q.1 l) (goals.map fun _ => 0)
def dot (ah v : List Nat) : Nat := ((ah.zip v).map fun q => q.1 * q.2).sum
theorem dot_cons (a b : Nat) (x y : List Nat) : dot (a :: x) (b :: y) = a * b + dot x y := by
  unfold dot
  rw [List.zip_cons_cons, List.map_cons, List.sum_cons]
theorem dot_bump : ∀ (l v : List Nat) (g k : Nat), g < l.length → g < v.length → dot (bump l g k) v = dot l v + k * v.getD g 0
  | [], v, g, k, h, _ => absurd h (Nat.not_lt_zero _)
  | a :: l, [], g, k, _, h => absurd h (Nat.not_lt_zero _)
  | a :: l, b :: v, 0, k, _, _ => by
    show dot ((a + k) :: l) (b :: v) = dot (a :: l) (b :: v) + k * b
    rw [dot_cons, dot_cons, Nat.add_mul]
    omega
  | a :: l, b :: v, g + 1, k, h, h2 => by
    have e : bump (a :: l) (g + 1) k = a :: bump l g k := rfl
    rw [e, dot_cons, dot_cons, dot_bump l v g k (by simpa using h) (by simpa using h2)]
    show _ = _ + k * v.getD g 0
    omega
theorem bump_len (l : List Nat) (g k : Nat) : (bump l g k).length = l.length := List.length_set ..
theorem fwdR_len : ∀ (gs : List Nat) (k : Nat) (l : List Nat), (fwdR gs k l).length = l.length
  | [], _, _ => rfl
  | g :: gs, k, l => (fwdR_len gs k (bump l g k)).trans (bump_len ..)
theorem dot_fwdR : ∀ (gs : List Nat) (k : Nat) (l v : List Nat), l.length = v.length → (∀ g ∈ gs, g < v.length) → dot (fwdR gs k l) v = dot l v + k * (gs.map fun g => v.getD g 0).sum
  | [], k, l, v, _, _ => by simp [fwdR]
  | g :: gs, k, l, v, h, hg => by
    show dot (fwdR gs k (bump l g k)) v = _
    rw [dot_fwdR gs k _ v (by rw [bump_len]; exact h) fun x hx => hg x (List.mem_cons_of_mem _ hx), dot_bump l v g k (by rw [h]; exact hg g List.mem_cons_self) (hg g List.mem_cons_self), List.map_cons, List.sum_cons, Nat.mul_add]
    omega
theorem fold_len : ∀ (qs : List (Nat × List Nat)) (l : List Nat), (qs.foldl (fun l q => fwdR q.2 q.1 l) l).length = l.length
  | [], l => rfl
  | q :: qs, l => (fold_len qs _).trans (fwdR_len ..)
theorem fwd_len (goals : List (List Nat)) (ah : List Nat) : (fwd goals ah).length = goals.length := by
  unfold fwd
  rw [fold_len, List.length_map]
theorem dot_fold : ∀ (qs : List (Nat × List Nat)) (l v : List Nat), l.length = v.length → (∀ q ∈ qs, ∀ g ∈ q.2, g < v.length) → dot (qs.foldl (fun l q => fwdR q.2 q.1 l) l) v = dot l v + (qs.map fun q => q.1 * (q.2.map fun g => v.getD g 0).sum).sum
  | [], l, v, _, _ => by simp
  | q :: qs, l, v, h, hg => by
    rw [List.foldl_cons, dot_fold qs _ v (by rw [fwdR_len]; exact h) fun x hx => hg x (List.mem_cons_of_mem _ hx), dot_fwdR _ _ _ _ h (hg q List.mem_cons_self), List.map_cons, List.sum_cons]
    omega
theorem dot_zero : ∀ {α : Type} (l : List α) (v : List Nat), dot (l.map fun _ => 0) v = 0
  | _, [], v => by unfold dot; simp
  | _, _ :: l, [] => by unfold dot; simp
  | _, _ :: l, b :: v => by rw [List.map_cons, dot_cons, dot_zero l v]; simp
theorem dot_map : ∀ (ah : List Nat) (goals : List (List Nat)) (F : List Nat → Nat), ((ah.zip goals).map fun q => q.1 * F q.2).sum = dot ah (goals.map F)
  | [], goals, F => by unfold dot; simp
  | _ :: _, [], F => by unfold dot; simp
  | a :: ah, g :: goals, F => by
    rw [List.zip_cons_cons, List.map_cons, List.sum_cons, List.map_cons, dot_cons, dot_map ah goals F]
/-- one word ahead is one word behind -/
theorem dot_fwd {goals : List (List Nat)} {ah v : List Nat} (hv : v.length = goals.length) (hg : ∀ gs ∈ goals, ∀ g ∈ gs, g < goals.length) : dot (fwd goals ah) v = dot ah (goals.map fun gs => (gs.map fun g => v.getD g 0).sum) := by
  unfold fwd
  rw [dot_fold _ _ _ (by rw [List.length_map, hv]) (fun q hq g hgq => by rw [hv]; exact hg q.2 (List.of_mem_zip hq).2 g hgq), dot_zero, Nat.zero_add]
  exact dot_map ah goals fun gs => (gs.map fun g => v.getD g 0).sum
def fwdN (goals : List (List Nat)) : Nat → List Nat → List Nat
  | 0, ah => ah
  | n + 1, ah => fwdN goals n (fwd goals ah)
theorem fwdN_succ (goals : List (List Nat)) : ∀ n ah, fwdN goals (n + 1) ah = fwd goals (fwdN goals n ah)
  | 0, _ => rfl
  | n + 1, ah => fwdN_succ goals n (fwd goals ah)
def vecM (cs : List (Option Nat)) (rows : Rws) (n : Nat) : List Nat := (List.range rows.length).map fun s => cntM cs rows n s
theorem dot_fwdN {cs : List (Option Nat)} {rows : Rws} {m : Nat} (hM : MOk m rows) (hc : ∀ c ∈ cs, ∀ k, c = some k → k < m) : ∀ n k ah, dot (fwdN ((List.range rows.length).map fun s => cs.map (stepM rows s)) n ah) (vecM cs rows k) = dot ah (vecM cs rows (n + k))
  | 0, k, ah => by rw [Nat.zero_add]; rfl
  | n + 1, k, ah => by
    show dot (fwdN _ n (fwd _ ah)) _ = _
    rw [dot_fwdN hM hc n k]
    have hl : ((List.range rows.length).map fun s => cs.map (stepM rows s)).length = rows.length := by rw [List.length_map, List.length_range]
    rw [dot_fwd (by unfold vecM; simp) (fun gs hgs g hg => by
      obtain ⟨s, hs, rfl⟩ := List.mem_map.mp hgs
      obtain ⟨c, hcc, rfl⟩ := List.mem_map.mp hg
      rw [hl]
      exact hM.gl (List.mem_range.mp hs) c (hc c hcc))]
    congr 1
    rw [List.map_map]
    have e1 : n + 1 + k = n + k + 1 := by omega
    unfold vecM
    rw [e1]
    refine List.map_congr_left fun s hs => ?_
    have e3 : cntM cs rows (n + k + 1) s = (cs.map fun c => cntM cs rows (n + k) (stepM rows s c)).sum := rfl
    rw [e3]
    show ((cs.map (stepM rows s)).map fun g => ((List.range rows.length).map fun s => cntM cs rows (n + k) s).getD g 0).sum = _
    rw [List.map_map]
    congr 1
    refine List.map_congr_left fun c hcc => ?_
    have hg := hM.gl (List.mem_range.mp hs) c (hc c hcc)
    show ((List.range rows.length).map fun s => cntM cs rows (n + k) s).getD (stepM rows s c) 0 = _
    have hg2 : (List.range rows.length)[stepM rows s c]? = some (stepM rows s c) := List.getElem?_range hg
    exact getD_some (by rw [List.getElem?_map, hg2]; rfl)
/-- the state 0 alone -/
def one0 : Nat → List Nat
  | 0 => []
  | n + 1 => 1 :: List.replicate n 0
theorem dot_one0 : ∀ (n : Nat) (v : List Nat), v.length = n → dot (one0 n) v = v.getD 0 0
  | 0, [], _ => rfl
  | n + 1, b :: v, h => by
    have : dot (List.replicate n 0) v = 0 := by
      have := dot_zero (List.range n) v
      rwa [List.map_const', List.length_range] at this
    show dot (1 :: List.replicate n 0) (b :: v) = b
    rw [dot_cons, this]
    omega
theorem fwdN_cnt {cs : List (Option Nat)} {rows : Rws} {m : Nat} (hM : MOk m rows) (hc : ∀ c ∈ cs, ∀ k, c = some k → k < m) (h0 : 0 < rows.length) (n : Nat) : dot (fwdN ((List.range rows.length).map fun s => cs.map (stepM rows s)) n (one0 rows.length)) (vecM cs rows 0) = cntM cs rows n 0 := by
  rw [dot_fwdN hM hc, Nat.add_zero, dot_one0 _ _ (by unfold vecM; simp)]
  unfold vecM
  exact getD_some (by rw [List.getElem?_map, List.getElem?_range h0]; rfl)
/-- the law's sum over the rows that are in -/
def inSum (ah : List Nat) (rows : Rws) : Nat := ((ah.zip rows).filterMap fun q => if q.2.1 = true then some q.1 else none).sum
theorem inSum_dot : ∀ (ah : List Nat) (rows : Rws), inSum ah rows = dot ah (rows.map fun r => if r.1 = true then 1 else 0)
  | [], rows => by unfold inSum dot; simp
  | _ :: _, [] => by unfold inSum dot; simp
  | a :: ah, r :: rows => by
    have ih := inSum_dot ah rows
    rw [List.map_cons, dot_cons, ← ih]
    unfold inSum
    rw [List.zip_cons_cons, List.filterMap_cons]
    by_cases h : r.1 = true
    · simp [h]
    · simp [h]
theorem vec0 (cs : List (Option Nat)) (rows : Rws) : vecM cs rows 0 = rows.map fun r => if r.1 = true then 1 else 0 := by
  refine List.ext_getElem? fun i => ?_
  unfold vecM
  by_cases h : i < rows.length
  · rw [List.getElem?_map, List.getElem?_range h, List.getElem?_map, rowAt_get h]
    rfl
  · rw [List.getElem?_eq_none (by simp; omega), List.getElem?_eq_none (by simp; omega)]
theorem dues_cnt {cs : List (Option Nat)} {rows : Rws} {m : Nat} (hM : MOk m rows) (hc : ∀ c ∈ cs, ∀ k, c = some k → k < m) (h0 : 0 < rows.length) (n : Nat) : inSum (fwdN ((List.range rows.length).map fun s => cs.map (stepM rows s)) n (one0 rows.length)) rows = cntM cs rows n 0 := by
  rw [inSum_dot, ← vec0 cs, fwdN_cnt hM hc h0]
end
end DL
namespace DL
open PySem PySem.Spec PyProof.Rows L2
section
variable {C : DL.Ctx} {Γ : Gm} {L : Lp} {Q : D → Lp → Prop} {kds : List (D × D)} {a : Addr}
theorem ca_lenN (ha : L a = some (.nd kds)) (q : Q (.int kds.length) L) : CaJ C (.builtin "len") Γ [.ptr a] L Q := ⟨fun Z σ H ok vs rd QV go pins s us I r => by
  obtain ⟨vx, rfl, rx⟩ := rd.oneE
  obtain ⟨u, rfl, ru⟩ := r.one
  rw [rx.ptrE] at ru
  cases (show u = Value.ref a from ru)
  obtain ⟨xs, e, rr⟩ := ok.con.at_ a _ ha
  obtain ⟨hz, hd, hm⟩ := nd_heap I e rr
  have hl : xs.length = kds.length := Paired.length rr
  refine call_len_dictH hd hm (by rw [sl_eq] at hz; omega) ?_
  rw [hl]
  exact ⟨.int ((kds.length : Nat) : Int), H, I.tok _, ⟨_, rfl⟩, go _ _ H L (.int _) ok.con (.refl L H) q⟩⟩
theorem ca_lenK {kds : List (Key × D)} (ha : L a = some (.kd kds)) (q : Q (.int kds.length) L) : CaJ C (.builtin "len") Γ [.ptr a] L Q := ⟨fun Z σ H ok vs rd QV go pins s us I r => by
  obtain ⟨vx, rfl, rx⟩ := rd.oneE
  obtain ⟨u, rfl, ru⟩ := r.one
  rw [rx.ptrE] at ru
  cases (show u = Value.ref a from ru)
  obtain ⟨kvs, e, rr⟩ := ok.con.at_ a _ ha
  refine d_len I (.inl e) fun t s' I' => ⟨.int ((kds.length : Nat) : Int), H, I', ⟨t, ?_⟩, go _ _ H L (.int _) ok.con (.refl L H) q⟩
  rw [Paired.length rr]⟩
end
/-! ### a dict that numbers things -/
section
variable {α : Type} [DecidableEq α]
def dNum (f : α → D) (ks : List α) : List (D × D) := ks.zipIdx.map fun q => (f q.1, .int (q.2 : Nat))
theorem dNum_len (f : α → D) (ks : List α) : (dNum f ks).length = ks.length := by unfold dNum; simp
theorem dNum_at {f : α → D} (hf : ∀ x y, nk (f x) = nk (f y) → x = y) (ks : List α) (x : α) : ndAt (dNum f ks) (f x) = if x ∈ ks then some (.int (ks.idxOf x : Nat)) else none := by
  have key : ∀ (ks : List α) (n : Nat), (((ks.zipIdx n).map fun q => (f q.1, D.int (q.2 : Nat))).find? fun y => decide (nk y.1 = nk (f x))).map (·.2) = if x ∈ ks then some (.int ((n + ks.idxOf x : Nat) : Int)) else none := by
    intro ks
    induction ks with
    | nil => intro n; rfl
    | cons k ks ih =>
      intro n
      rw [List.zipIdx_cons, List.map_cons]
      by_cases e : k = x
      · subst e
        rw [List.find?_cons_of_pos (by simp), if_pos List.mem_cons_self]
        simp
      · rw [List.find?_cons_of_neg (by simpa using fun z => e (hf _ _ z)), ih (n + 1)]
        by_cases hm : x ∈ ks
        · rw [if_pos hm, if_pos (List.mem_cons_of_mem _ hm), List.idxOf_cons, show (k == x) = false from by simpa using e]
          show some (D.int ((n + 1 + ks.idxOf x : Nat) : Int)) = some (D.int ((n + (ks.idxOf x + 1) : Nat) : Int))
          rw [show n + 1 + ks.idxOf x = n + (ks.idxOf x + 1) from by omega]
        · rw [if_neg hm, if_neg (by simp [hm, Ne.symm e])]
  have := key ks 0
  rw [Nat.zero_add] at this
  exact this
theorem dNum_put {f : α → D} (hf : ∀ x y, nk (f x) = nk (f y) → x = y) {ks : List α} {x : α} (h : x ∉ ks) : ndPut (dNum f ks) (f x) (.int (ks.length : Nat)) = dNum f (ks ++ [x]) := by
  unfold ndPut
  rw [dNum_at hf, if_neg h]
  unfold dNum
  rw [List.zipIdx_append, List.map_append]
  simp
end
end DL
namespace DL
open PySem PySem.Spec PyProof.Rows L2
section
variable {C : Ctx} {Γ : Gm} {L : Lp} {pos : Pos}
/-- y = [elt for x in iter if c], each item alone -/
theorem as_setFilt (n i : Nat) {E : AEnds} {x y : Str} {px py spos : Pos} {scope : Scope} {elt iter c : Expr}
    (h : AI C (.Name x px) iter Γ L fun ds G L1 => ∃ (α : Type) (xs : List α) (g : α → D) (t : α → Bool) (f : α → D), ds = xs.map g ∧ G L1 ∧ ds.length ≤ sizeLine ∧ (∀ y ∈ xs, ∀ s H Cc cl fp, AVT (bctx C scope s H Cc cl fp) c ((wipeG Γ [i]).set i (some (g y))) L1 (t y) ∧ (t y = true → AV (bctx C scope s H Cc cl fp) elt ((wipeG Γ [i]).set i (some (g y))) L1 (f y))) ∧ ∀ p, L1 p = none → E.nx (Γ.set n (some (.ptr p))) (put L1 p (.lst ((xs.filter t).map f))))
    (hag : ∀ s H Cc cl fp d Γ, AG (bctx C scope s H Cc cl fp) (.Name x px) d Γ (Γ.set i (some d)) [i] := by (intro _ _ _ _ _ _ _; exact ag_name _))
    (hy : C.X.N[n]? = some y := by rfl) (hyl : C.X.env.scope.names.lookup y = some .local := by rfl) (hsw : swapsWith (.ListComp elt [⟨.Name x px, iter, [c], 0⟩] scope pos) (some (.Name y py)) spos.line C.X.env = pure true := by exact sw_true rfl rfl rfl (by decide +kernel))
    (ok : BlkOk C.X.N C.X.env.scope scope [(x, i)] := by (dsimp only [fctx, bctx, cxOf, envOfC, compEnvC, Cx.blk]; exact blkOk_by (by decide +kernel))) (hs : ∀ x, foldedSetIterable iter C.X.env x = pure x := by intro _; rfl) : AS C (.Assign [.Name y py] (.ListComp elt [⟨.Name x px, iter, [c], 0⟩] scope pos) spos) Γ L E :=
  as_setLc n [(x, i)] (fun F σ H okk RV go => h F σ H okk RV fun J H' L' ds G cc f it ⟨α, xs, g, t, f', e, hG, hz, hf, q⟩ => by
    subst e
    rw [List.length_map] at hz
    exact go J H' L' _ G cc f it (lc_pure (R := fun acc L2 => ∀ p, L2 p = none → E.nx (Γ.set n (some (.ptr p))) (put L2 p (.lst acc))) (t := t) hG hz (fun j hj => hj) (fun y hy s H Cc cl fp => ⟨hag s H Cc cl fp _ _, fun Q q => ats_one ((hf y hy s H Cc cl fp).1 Q q), (hf y hy s H Cc cl fp).2⟩) q)) hy hyl hsw ok hs
end
end DL
namespace DL
open PySem PySem.Spec PyProof.Rows L2
/-! ### sorted(list of texts) -/
def toS (x : Str) : List (Int ⊕ List Nat) := PySem.W.keyToks (.str x)
def ltT (a b : Str) : Bool := PySem.W.dataLt (.str a) (.str b)
theorem ltT_iff (a b : Str) : ltT a b = decide (a.cps.toList < b.cps.toList) := PySem.W.dataLt_str a b
theorem toS_inj {a b : Str} (h : toS a = toS b) : a = b := by
  unfold toS at h
  rw [PySem.W.keyToks, PySem.W.keyToks] at h
  have h1 := (List.cons.inj h).1
  exact PySem.W.str_of_cps (Sum.inr.inj h1)
theorem ltT_irr (a : Str) : ltT a a = false := (listOrd itemOrd).irrefl (toS a)
theorem ltT_trans {a b c : Str} (h1 : ltT a b = true) (h2 : ltT b c = true) : ltT a c = true := (listOrd itemOrd).trans (toS a) (toS b) (toS c) h1 h2
theorem ltT_total {a b : Str} (h1 : ltT a b = false) (h2 : ltT b a = false) : a = b := toS_inj ((listOrd itemOrd).total (toS a) (toS b) h1 h2)
def leT (a b : Str) : Bool := !ltT b a
theorem leT_trans (a b c : Str) (h1 : leT a b = true) (h2 : leT b c = true) : leT a c = true := by
  unfold leT at *
  rw [Bool.not_eq_true'] at *
  cases h : ltT c a with
  | false => rfl
  | true =>
    rcases (listOrd itemOrd).negTrans (toS c) (toS b) (toS a) h with z | z
    · exact absurd (show ltT c b = true from z) (by rw [h2]; decide)
    · exact absurd (show ltT b a = true from z) (by rw [h1]; decide)
theorem leT_total (a b : Str) : (leT a b || leT b a) = true := by
  unfold leT
  cases h : ltT b a with
  | false => rfl
  | true =>
    cases h2 : ltT a b with
    | false => rfl
    | true =>
      have := ltT_trans h h2
      rw [ltT_irr] at this
      cases this
def srtS (ys : List Str) : List Str := ys.mergeSort leT
theorem srtS_perm (ys : List Str) : (srtS ys).Perm ys := List.mergeSort_perm ys leT
theorem srtS_len (ys : List Str) : (srtS ys).length = ys.length := (srtS_perm ys).length_eq
theorem srtS_rise {ys : List Str} (nd : ys.Nodup) : Rise (srtS ys) := by
  have h := List.pairwise_mergeSort leT_trans leT_total ys
  have nd2 : (srtS ys).Nodup := (srtS_perm ys).nodup_iff.mpr nd
  refine List.Pairwise.imp₂ (fun {a b} h1 h2 => ?_) h nd2
  unfold leT at h1
  rw [Bool.not_eq_true'] at h1
  cases h3 : ltT a b with
  | true =>
    rw [ltT_iff] at h3
    exact of_decide_eq_true h3
  | false => exact absurd (ltT_total h3 h1) h2
theorem srtS_adj {ys : List Str} (nd : ys.Nodup) : adj (srtS ys) = true := adj_rise (srtS_rise nd)
section
variable {C : Ctx} {Γ : Gm} {L : Lp} {Q : D → Lp → Prop} {pos p p2 : Pos} {e : Expr}
theorem sort_txt (ys : List Str) : (ys.map D.str).mergeSort leD = (srtS ys).map D.str := (List.map_mergeSort (r := leT) (s := leD) (f := D.str) (l := ys) fun a _ b _ => rfl).symm
theorem c_sortS {a : Addr} {ys : List Str} (hp : L a = some (.lst (ys.map .str))) (q : ∀ l, L l = none → Q (.ptr l) (put L l (.lst ((srtS ys).map .str)))) : LcR C (rSortD C.X.K) [.ptr a] L Q := by
  refine c_sortD hp (okDs_map _ _ fun x _ => by rw [okD]) ?_ (.inr fun d hd => ?_) (fun d hd => ?_) fun l hl => ?_
  · intro d hd d' hd'
    obtain ⟨x, hx, rfl⟩ := List.mem_map.mp hd
    obtain ⟨r, hr, rfl⟩ := List.mem_map.mp hx
    obtain ⟨x', hx', rfl⟩ := List.mem_map.mp hd'
    obtain ⟨r', hr', rfl⟩ := List.mem_map.mp hx'
    rw [py, py]
    rfl
  · obtain ⟨x, hx, rfl⟩ := List.mem_map.mp hd
    obtain ⟨r, hr, rfl⟩ := List.mem_map.mp hx
    rw [py]
    exact ⟨fun z => (nomatch z), fun xs z => (nomatch z)⟩
  · obtain ⟨r, _, rfl⟩ := List.mem_map.mp hd
    rw [py, PyData.depth]
    decide
  · rw [sort_txt]
    exact q l hl
/-- tuple(sorted(e)) of a list of texts -/
theorem ae_tupSort (hm : C.X.mg "tuple" = none) (hs : C.X.mg "sorted" = none) (hu : C.X.A.units + 100 < cLine) (h : AE C e Γ L fun d L1 => ∃ a ys, d = .ptr a ∧ L1 a = some (.lst (ys.map .str)) ∧ ∃ L0, Le L0 L1 ∧ Q (.wds (srtS ys)) L0) (hg : Gl C.X "tuple" := by rfl) (hg2 : Gl C.X "sorted" := by rfl)
    (he : starEach [.Call (.Name "sorted" p2) [e] [] pos] C.X.env = [(false, eval (.Call (.Name "sorted" p2) [e] [] pos) C.X.env)] := by rfl) (he2 : starEach [e] C.X.env = [(false, eval e C.X.env)] := by rfl) {pos2 : Pos} : AE C (.Call (.Name "tuple" p) [.Call (.Name "sorted" p2) [e] [] pos] [] pos2) Γ L Q :=
  AE.drop (ae_tupWp hm (ae_callB (cr_sortD hu) hs (aa_cons (h.mono fun d L1 ⟨a, ys, ed, ha, L0, le, q⟩ => by
    subst ed
    exact aa_nil (c_sortS ha fun l hl => ⟨l, srtS ys, rfl, put_same, L0, le.trans (le_put hl), q⟩)) he2) (hg := hg2) (he := he2)) (hg := hg) (he := he))
end
end DL
namespace DL
open PySem PySem.Spec PyProof.Rows L2
section
variable {C : Ctx} {Γ : Gm} {L : Lp} {pos : Pos} {elt iter c : Expr}
/-- [elt for x, y in iter if c] -/
theorem al_filt2 (i j : Nat) {x y : Str} {px py pt : Pos} {kt : Nat} {scope : Scope} {R : List D → Lp → Prop}
    (h : AI C (.Tuple [.Name x px, .Name y py] kt pt) iter Γ L fun ds G L1 => ∃ (α : Type) (xs : List α) (g g' : α → D) (t : α → Bool) (f : α → D), ds = xs.map (fun z => .tup [g z, g' z]) ∧ G L1 ∧ ds.length ≤ sizeLine ∧ (∀ z ∈ xs, ∀ s H Cc cl fp, AVT (bctx C scope s H Cc cl fp) c (((wipeG Γ [i, j]).set i (some (g z))).set j (some (g' z))) L1 (t z) ∧ (t z = true → AV (bctx C scope s H Cc cl fp) elt (((wipeG Γ [i, j]).set i (some (g z))).set j (some (g' z))) L1 (f z))) ∧ R ((xs.filter t).map f) L1)
    (hag : ∀ s H Cc cl fp d d' Γ, AG (bctx C scope s H Cc cl fp) (.Tuple [.Name x px, .Name y py] kt pt) (.tup [d, d']) Γ ((Γ.set i (some d)).set j (some d')) [i, j] := by (intro _ _ _ _ _ _ _ _; exact ag_tup (ags_cons (ag_name _) (ags_cons (ag_name _) ags_nil))))
    (ok : BlkOk C.X.N C.X.env.scope scope [(x, i), (y, j)] := by (dsimp only [fctx, bctx, cxOf, envOfC, compEnvC, Cx.blk]; exact blkOk_by (by decide +kernel))) (hs : ∀ x, foldedSetIterable iter C.X.env x = pure x := by intro _; rfl) : AL C (.ListComp elt [⟨.Tuple [.Name x px, .Name y py] kt pt, iter, [c], 0⟩] scope pos) Γ L R :=
  al_lc [(x, i), (y, j)] (fun F σ H okk RV go => h F σ H okk RV fun J H' L' ds G cc f it ⟨α, xs, g, g', t, f', e, hG, hz, hf, q⟩ => by
    subst e
    rw [List.length_map] at hz
    exact go J H' L' _ G cc f it (lc_pure (t := t) hG hz (fun j hj => hj) (fun y hy s H Cc cl fp => ⟨hag s H Cc cl fp _ _ _, fun Q q => ats_one ((hf y hy s H Cc cl fp).1 Q q), (hf y hy s H Cc cl fp).2⟩) q)) ok hs
theorem ixN_nat {n j : Nat} (h : j < n) : ixN n (j : Int) = some j := by
  unfold ixN
  rw [if_pos (by omega), if_pos (by omega)]
  congr 1
end
end DL
namespace DL
open PySem PySem.Spec PyProof.Rows L2
/-! ### repr(int) -/
theorem sok_string {s : String} (h : s.length ≤ sizeLine) : SOk (Str.ofString s) := by
  rw [Str.ofString_eq_toList]
  refine ⟨by show ((s.toList.map Char.toNat).toArray).size ≤ _; rw [List.size_toArray, List.length_map]; exact h, ?_⟩
  unfold PyData.strOk
  rw [Array.all_eq_true']
  intro c hc
  obtain ⟨ch, _, rfl⟩ := List.mem_map.mp (List.mem_toArray.mp hc)
  have h1 := ch.valid
  refine decide_eq_true ?_
  show ch.val.toNat < 0x110000
  rcases h1 with h1 | h1
  · have : ch.val.toNat < 0xd800 := h1
    omega
  · exact h1.2
def repI (n : Nat) : Str := Str.ofString (toString (n : Int))
theorem repI_ok {n : Nat} (h : n < 10 ^ 100) : SOk (repI n) := by
  refine sok_string ?_
  have e : toString (n : Int) = n.repr := rfl
  rw [e]
  exact Nat.le_trans ((Nat.length_repr_le_iff (by decide)).mpr h) (by decide)
abbrev rReprI : List V → Hp → VK → Prop := fun xs H Q => ∃ i : Int, xs = [.int i] ∧ i.natAbs.log2 < 1920 ∧ Q (.str (toString i)) H
section
variable {C : Ctx} {L : Lp} {Q : D → Lp → Prop}
theorem c_reprI {n : Nat} (hn : n < 10 ^ 100) (q : Q (.str (repI n)) L) : LcR C rReprI [.int (n : Nat)] L Q := fun F vs H c r0 QV go => by
  obtain ⟨v, rfl, r⟩ := r0.oneE
  refine ⟨(n : Int), by rw [r.intE], ?_, go _ _ H L (.str _ (repI_ok hn)) c (.refl L H) q⟩
  show n.log2 < 1920
  by_cases h0 : n = 0
  · rw [h0]; decide
  · exact (Nat.log2_lt h0).mpr (Nat.lt_of_lt_of_le hn (by decide +kernel))
end
end DL
namespace DL
open PySem PySem.Spec PyProof.Rows L2
section
variable {C : Ctx} {Γ : Gm} {L : Lp} {e o1 b1 o2 b2 : Expr} {pos p1 p2 pt : Pos} {kt : Nat} {E : AEnds}
/-- o[i], p[j] = e, by rules -/
theorem as_sub2 {t1 t2 : TSet} (k1 : PSet C.X t1) (k2 : PSet C.X t2) (h : AE C e Γ L fun d L1 => ∃ d1 d2, d = .tup [d1, d2] ∧ AE C o1 Γ L1 fun x L2 => AE C b1 Γ L2 fun i L3 => L3R C t1 x i d1 L3 fun L4 => AE C o2 Γ L4 fun x2 L5 => AE C b2 Γ L5 fun i2 L6 => L3R C t2 x2 i2 d2 L6 fun L7 => E.nx Γ L7)
    (hs : swapsWithSole [.Tuple [.Subscript o1 b1 p1, .Subscript o2 b2 p2] kt pt] e pos.line C.X.env = pure false := by rfl) (hw : swappedStores [.Tuple [.Subscript o1 b1 p1, .Subscript o2 b2 p2] kt pt] e C.X.env = pure none := by rfl)
    (h1 : (assignEach [.Tuple [.Subscript o1 b1 p1, .Subscript o2 b2 p2] kt pt] C.X.env).map (·.2) = [assign (.Tuple [.Subscript o1 b1 p1, .Subscript o2 b2 p2] kt pt) C.X.env] := by rfl)
    (hn : (assignEach [.Subscript o1 b1 p1, .Subscript o2 b2 p2] C.X.env).length = 2 := by rfl) (hst : (assignEach [.Subscript o1 b1 p1, .Subscript o2 b2 p2] C.X.env).findIdx? (·.1) = none := by rfl)
    (hp1 : (assignEach [.Subscript o1 b1 p1, .Subscript o2 b2 p2] C.X.env).map (·.2) = assign (.Subscript o1 b1 p1) C.X.env :: (assignEach [.Subscript o2 b2 p2] C.X.env).map (·.2) := by rfl)
    (hp2 : (assignEach [.Subscript o2 b2 p2] C.X.env).map (·.2) = assign (.Subscript o2 b2 p2) C.X.env :: (assignEach [] C.X.env).map (·.2) := by rfl)
    (ha1 : ∀ v, assign (.Subscript o1 b1 p1) C.X.env v = (do
      let ov ← holding [v] (eval o1 C.X.env)
      let iv ← holding [v, ov] (eval b1 C.X.env)
      standAt p1
      holding [v, ov, iv] (setItem ov iv v)
      release [v, ov, iv] []) := by intro _; rfl)
    (ha2 : ∀ v, assign (.Subscript o2 b2 p2) C.X.env v = (do
      let ov ← holding [v] (eval o2 C.X.env)
      let iv ← holding [v, ov] (eval b2 C.X.env)
      standAt p2
      holding [v, ov, iv] (setItem ov iv v)
      release [v, ov, iv] []) := by intro _; rfl) : AS C (.Assign [.Tuple [.Subscript o1 b1 p1, .Subscript o2 b2 p2] kt pt] e pos) Γ L E := fun F σ H ok DD go =>
  ws_of (ps_asg pe_we (pg_tup C.calm (pgs_cons (pg_sub pe_we pe_we k1 ha1) (pgs_cons (pg_sub pe_we pe_we k2 ha2) pgs_nil hp2) hp1) hn hst) hs hw h1) (h _ σ H ok _ fun v d H1 L1 r c f ⟨d1, d2, ed, q1⟩ => by
    subst ed
    obtain ⟨a, vs, rfl, ha, ra⟩ := r.tupE
    cases ra with
    | cons ra1 ra2 =>
      rename_i v1 vs1
      cases ra2 with
      | cons ra2 ra3 =>
        rename_i v2 vs2
        cases ra3
        refine ⟨a, [v1, v2], rfl, SqT.of ha, rfl, v1, [v2], rfl, ?_⟩
        refine q1 _ σ H1 (ok.step c f) _ fun vo x H2 L2 r2 c2 f2 q2 => ?_
        refine q2 _ σ H2 (ok.step c2 (f.trans f2)) _ fun vi i H3 L3 r3 c3 f3 q3 => ?_
        refine q3 _ vo vi v1 H3 c3 (r2.mono f3.mv) r3 ((ra1.mono f2.mv).mono f3.mv) _ fun H4 L4 c4 f4 q4 => ?_
        have fa := ((f.trans f2).trans f3).trans f4
        have rb := (((ra2.mono f2.mv).mono f3.mv).mono f4.mv)
        refine ⟨v2, [], rfl, q4 _ σ H4 (ok.step c4 fa) _ fun vo2 x2 H5 L5 r5 c5 f5 q5 => ?_⟩
        refine q5 _ σ H5 (ok.step c5 (fa.trans f5)) _ fun vi2 i2 H6 L6 r6 c6 f6 q6 => ?_
        refine q6 _ vo2 vi2 v2 H6 c6 (r5.mono f6.mv) r6 ((rb.mono f5.mv).mono f6.mv) _ fun H7 L7 c7 f7 q7 => ?_
        have fz := ((fa.trans f5).trans f6).trans f7
        exact ⟨rfl, go.nx σ H7 Γ L7 (ok.step c7 fz) fz q7⟩)
end
end DL
namespace DL
section
variable {W : Type} [DecidableEq W] {ws : List W} {rows : Rws} {first : Nat}
theorem col_word (hw : ws.Nodup) {c : Nat} {w : W} (h : ws[c]? = some w) : colW ws w = some c := by
  unfold colW
  rw [if_pos (List.mem_of_getElem? h), idx_of_get hw h]
theorem col_fresh {x : W} (h : x ∉ ws) : colW ws x = none := if_neg h
theorem col_mem {w : W} (h : w ∈ ws) : colW ws w = some (ws.idxOf w) := if_pos h
theorem runM_add : ∀ (u t : List W) (s : Nat), runM ws rows s (u ++ t) = runM ws rows (runM ws rows s u) t
  | [], _, _ => rfl
  | w :: u, t, s => runM_add u t _
theorem accM_add (u t : List W) (s : Nat) : accM ws rows s (u ++ t) = accM ws rows (runM ws rows s u) t := by
  unfold accM
  rw [runM_add]
theorem runM_in (hM : MOk ws.length rows) : ∀ (u : List W) (s : Nat), s < rows.length → runM ws rows s u < rows.length
  | [], _, h => h
  | w :: u, s, h => runM_in hM u _ (hM.gl h _ colW_lt)
/-! ### blocks hold together what tells the same -/
def Coarse (ws : List W) (rows : Rws) (bl : List Nat) : Prop := ∀ i j, i < rows.length → j < rows.length → (∀ t, accM ws rows i t = accM ws rows j t) → bl.getD i 0 = bl.getD j 0
theorem num_get {α : Type} [DecidableEq α] {xs : List α} {i : Nat} {x : α} (h : xs[i]? = some x) : (num xs).getD i 0 = (ddp xs).idxOf x := by
  unfold num
  exact getD_some (by rw [List.getElem?_map, h]; rfl)
theorem coarse_step (hw : ws.Nodup) {x : W} (hx : x ∉ ws) (hM : MOk ws.length rows) {bl : List Nat} (hl : bl.length = rows.length) (h : Coarse ws rows bl) : Coarse ws rows (num (signs bl rows)) := fun i j hi hj he => by
  rw [num_get (sgs_get hl hi), num_get (sgs_get hl hj)]
  congr 1
  have st : ∀ w, bl.getD (stepM rows i (colW ws w)) 0 = bl.getD (stepM rows j (colW ws w)) 0 := fun w => h _ _ (hM.gl hi _ colW_lt) (hM.gl hj _ colW_lt) fun t => he (w :: t)
  have h1 : (rowAt rows i).1 = (rowAt rows j).1 := he []
  have h3 : bl.getD (rowAt rows i).2.2 0 = bl.getD (rowAt rows j).2.2 0 := by
    have := st x
    rw [col_fresh hx] at this
    exact this
  have h2 : (rowAt rows i).2.1.map (fun g => bl.getD g 0) = (rowAt rows j).2.1.map (fun g => bl.getD g 0) := by
    apply List.ext_getElem?
    intro c
    rw [List.getElem?_map, List.getElem?_map]
    have li := hM.len _ (rowAt_mem hi)
    have lj := hM.len _ (rowAt_mem hj)
    by_cases hc : c < ws.length
    · have hcw : ws[c]? = some ws[c] := List.getElem?_eq_getElem hc
      have := st ws[c]
      rw [col_word hw hcw] at this
      have gi : (rowAt rows i).2.1[c]? = some ((rowAt rows i).2.1.getD c 0) := by
        rw [List.getD_eq_getElem?_getD, List.getElem?_eq_getElem (by omega)]; rfl
      have gj : (rowAt rows j).2.1[c]? = some ((rowAt rows j).2.1.getD c 0) := by
        rw [List.getD_eq_getElem?_getD, List.getElem?_eq_getElem (by omega)]; rfl
      rw [gi, gj]
      show some _ = some _
      congr 1
    · rw [List.getElem?_eq_none (by omega), List.getElem?_eq_none (by omega)]
  unfold sg
  rw [h1, h2, h3, h i j hi hj he]
theorem coarse_blk (hw : ws.Nodup) {x : W} (hx : x ∉ ws) (hM : MOk ws.length rows) : ∀ (n : Nat) (bl : List Nat) (cnt : Nat), bl.length = rows.length → Coarse ws rows bl → Coarse ws rows (blkW rows n bl cnt)
  | 0, bl, cnt, _, h => h
  | n + 1, bl, cnt, hl, h => by
    have h1 := coarse_step hw hx hM hl h
    unfold blkW
    split
    · exact h1
    · exact coarse_blk hw hx hM n _ _ (by rw [num_len, sgs_len hl]) h1
theorem coarse_ok (hw : ws.Nodup) {x : W} (hx : x ∉ ws) (hM : MOk ws.length rows) : Coarse ws rows (blocksM rows) :=
  coarse_blk hw hx hM _ _ _ (List.length_map ..) fun i j hi hj _ => by
    have z : ∀ s, s < rows.length → (rows.map fun _ => 0).getD s 0 = 0 := fun s hs => getD_some (by rw [List.getElem?_map, rowAt_get hs]; rfl)
    rw [z i hi, z j hj]
/-- states that tell the same are one -/
def Apart (ws : List W) (rows : Rws) : Prop := ∀ i j, i < rows.length → j < rows.length → (∀ t, accM ws rows i t = accM ws rows j t) → i = j
theorem fold_at {bl : List Nat} (S : Stab rows bl) {b : Nat} (h : b < (foldM rows bl).length) : ∃ s, s < rows.length ∧ bl.getD s 0 = b := by
  obtain ⟨s, hs, hb, _⟩ := (foldM_ok S.len S.can).row b h
  exact ⟨s, hs, getD_some hb⟩
theorem fold_apart (hM : MOk ws.length rows) {bl : List Nat} (S : Stab rows bl) (h : Coarse ws rows bl) : Apart ws (foldM rows bl) := fun i j hi hj he => by
  obtain ⟨a, ha, rfl⟩ := fold_at S hi
  obtain ⟨b, hb, rfl⟩ := fold_at S hj
  exact h a b ha hb fun t => by rw [← fold_lang hM S ha, ← fold_lang hM S hb, he]
/-! ### every state is reached by a text -/
theorem ord_way (hw : ws.Nodup) {x : W} (hx : x ∉ ws) : ∀ (n k : Nat) (o : List Nat), (∀ s ∈ o, ∃ u, runM ws rows first u = s) → ∀ s ∈ ordW (List.range ws.length) rows n k o, ∃ u, runM ws rows first u = s
  | 0, _, o, h => h
  | n + 1, k, o, h => by
    unfold ordW
    cases e : o[k]? with
    | none => exact h
    | some s =>
      refine ord_way hw hx n (k + 1) _ fun g hg => ?_
      unfold ordI at hg
      rw [fold_mem] at hg
      rcases hg with hg | hg
      · exact h g hg
      · obtain ⟨c, hc, rfl⟩ := List.mem_map.mp hg
        obtain ⟨u, hu⟩ := h s (List.mem_of_getElem? e)
        obtain ⟨w, hwc⟩ : ∃ w, colW ws w = c := by
          unfold colsN at hc
          rcases List.mem_append.mp hc with hc | hc
          · obtain ⟨j, hj, rfl⟩ := List.mem_map.mp hc
            have hj := List.mem_range.mp hj
            exact ⟨ws[j], col_word hw (List.getElem?_eq_getElem hj)⟩
          · rw [List.mem_singleton.mp hc]
            exact ⟨x, col_fresh hx⟩
        refine ⟨u ++ [w], ?_⟩
        rw [runM_add, hu]
        show stepM rows s (colW ws w) = _
        rw [hwc]
        rfl
theorem reach_way (hw : ws.Nodup) {x : W} (hx : x ∉ ws) (hM : MOk ws.length rows) (hf : first < rows.length) {i : Nat} (hi : i < (reachM (List.range ws.length) rows first).length) : ∃ u, ∀ t, accM ws (reachM (List.range ws.length) rows first) i t = accM ws rows first (u ++ t) := by
  have hc : ∀ c ∈ List.range ws.length, c < ws.length := fun c h => List.mem_range.mp h
  rw [reach_len] at hi
  have hs := List.getElem?_eq_getElem hi
  generalize (orderOf (List.range ws.length) rows first)[i] = s at hs
  obtain ⟨u, hu⟩ := ord_way hw hx (rows.length + 1) 0 [first] (fun s hs => ⟨[], (List.mem_singleton.mp hs).symm⟩) s (List.mem_of_getElem? hs)
  refine ⟨u, fun t => ?_⟩
  rw [accM_add, hu]
  refine acc_sim (fun i s => (orderOf (List.range ws.length) rows first)[i]? = some s) (fun i s h => ?_) (fun i s w h => ?_) t i s hs
  · rw [reach_row h]
    rfl
  · obtain ⟨h1, h2⟩ := reach_go hM hc hf h
    unfold stepM
    cases e : colW ws w with
    | none => exact h1
    | some c => exact h2 c c (List.getElem?_range (colW_lt c e))
/-- the machine ahead of the last renumbering -/
def foldF (ws : List W) (rows : Rws) (first : Nat) : Rws := foldM (reachM (List.range ws.length) rows first) (blocksM (reachM (List.range ws.length) rows first))
structure FoldF (ws : List W) (rows : Rws) (first : Nat) : Prop where
  ok : MOk ws.length (foldF ws rows first)
  pos : 0 < (foldF ws rows first).length
  apart : Apart ws (foldF ws rows first)
  lang : ∀ t, accM ws (foldF ws rows first) 0 t = accM ws rows first t
  way : ∀ b, b < (foldF ws rows first).length → ∃ u, ∀ t, accM ws (foldF ws rows first) b t = accM ws rows first (u ++ t)
theorem foldF_ok (hw : ws.Nodup) {x : W} (hx : x ∉ ws) (hM : MOk ws.length rows) (hf : first < rows.length) : FoldF ws rows first := by
  obtain ⟨o1, o2, o3⟩ := reach_ok hM (cols := List.range ws.length) (fun c h => List.mem_range.mp h) hf
  rw [List.length_range] at o1
  have hne : reachM (List.range ws.length) rows first ≠ [] := List.length_pos_iff.mp o2
  have S := blocks_ok hne
  have h0 := can0 hne S
  have h1 := bl_lt S o2
  rw [h0] at h1
  refine ⟨fold_ok o1 S, h1, fold_apart o1 S (coarse_ok hw hx o1), fun t => ?_, fun b hb => ?_⟩
  · rw [← reach_lang hM hf t, ← fold_lang o1 S o2 t, h0]
    rfl
  · obtain ⟨s, hs, rfl⟩ := fold_at S hb
    obtain ⟨u, hu⟩ := reach_way hw hx hM hf hs
    refine ⟨u, fun t => ?_⟩
    rw [← hu t]
    exact fold_lang o1 S hs t
/-! ### the words that tell -/
theorem tells_way (hw : ws.Nodup) {x : W} (hx : x ∉ ws) (hM : MOk ws.length rows) (hf : first < rows.length) {w : W} (h : w ∈ (leastM ws rows first).1) : ∃ u v, ∀ y, y ∉ ws → accM ws rows first (u ++ w :: v) ≠ accM ws rows first (u ++ y :: v) := by
  have F := foldF_ok hw hx hM hf
  obtain ⟨c, hc, hcw⟩ := List.mem_filterMap.mp (show w ∈ (tells ws.length (foldF ws rows first)).filterMap fun c => ws[c]? from h)
  obtain ⟨r, hr, hd⟩ := List.any_eq_true.mp (List.mem_filter.mp hc).2
  have hd := of_decide_eq_true hd
  obtain ⟨b, hb⟩ := List.getElem?_of_mem hr
  have hbl := (List.getElem?_eq_some_iff.mp hb).1
  have er : rowAt (foldF ws rows first) b = r := by
    have := rowAt_get hbl
    rw [hb] at this
    exact (Option.some.inj this).symm
  have ew := col_word hw hcw
  have hlt := tells_lt c hc
  have h1 : stepM (foldF ws rows first) b (colW ws w) < (foldF ws rows first).length := F.ok.gl hbl _ colW_lt
  have h2 : stepM (foldF ws rows first) b none < (foldF ws rows first).length := F.ok.gl hbl _ fun k e => by cases e
  have hne : stepM (foldF ws rows first) b (colW ws w) ≠ stepM (foldF ws rows first) b none := by
    rw [ew]
    unfold stepM
    rw [er]
    exact hd
  obtain ⟨u, hu⟩ := F.way b hbl
  have : ∃ v, accM ws (foldF ws rows first) (stepM (foldF ws rows first) b (colW ws w)) v ≠ accM ws (foldF ws rows first) (stepM (foldF ws rows first) b none) v := by
    apply Classical.byContradiction
    intro hn
    exact hne (F.apart _ _ h1 h2 fun t => Classical.byContradiction fun z => hn ⟨t, z⟩)
  obtain ⟨v, hv⟩ := this
  refine ⟨u, v, fun y hy => ?_⟩
  rw [← hu, ← hu]
  show accM ws _ (stepM (foldF ws rows first) b (colW ws w)) v ≠ accM ws _ (stepM (foldF ws rows first) b (colW ws y)) v
  rw [col_fresh hy]
  exact hv
theorem words_sub {vs : List W} {qows : Rws} {f2 : Nat} (fr : ∀ l : List W, ∃ x, x ∉ l) (hw : ws.Nodup) (hM : MOk ws.length rows) (hf : first < rows.length) (hv : vs.Nodup) (hM2 : MOk vs.length qows) (hf2 : f2 < qows.length)
    (he : ∀ t, accM ws rows first t = accM vs qows f2 t) : ∀ w ∈ (leastM ws rows first).1, w ∈ (leastM vs qows f2).1 := fun w hin => by
  obtain ⟨x, hx⟩ := fr (ws ++ (leastM vs qows f2).1)
  have hx1 : x ∉ ws := fun z => hx (List.mem_append_left _ z)
  have hx2 : x ∉ (leastM vs qows f2).1 := fun z => hx (List.mem_append_right _ z)
  obtain ⟨u, v, h⟩ := tells_way hw hx1 hM hf hin
  apply Classical.byContradiction
  intro hn
  refine h x hx1 ?_
  rw [he, he, ← least_lang hv hM2 hf2, ← least_lang hv hM2 hf2, accM_add, accM_add]
  show accM _ _ (stepM _ _ (colW _ w)) v = accM _ _ (stepM _ _ (colW _ x)) v
  rw [col_fresh hx2, col_fresh hn]
/-! ### two orders side by side -/
structure PairM (ws : List W) (p : Rws) (vs : List W) (q : Rws) (z : Nat × Nat) : Prop where
  l1 : z.1 < p.length
  l2 : z.2 < q.length
  eq : ∀ t, accM ws p z.1 t = accM vs q z.2 t
variable {p q : Rws} {vs : List W}
theorem PairM.step (hM1 : MOk ws.length p) (hM2 : MOk vs.length q) {z : Nat × Nat} (h : PairM ws p vs q z) (w : W) : PairM ws p vs q (gl (rowAt p z.1) (colW ws w), gl (rowAt q z.2) (colW vs w)) :=
  ⟨hM1.gl h.l1 _ colW_lt, hM2.gl h.l2 _ colW_lt, fun t => h.eq (w :: t)⟩
theorem PairM.fst (A2 : Apart vs q) {y z : Nat × Nat} (h : PairM ws p vs q y) (h2 : PairM ws p vs q z) (e : y.1 = z.1) : y = z := by
  have : y.2 = z.2 := A2 _ _ h.l2 h2.l2 fun t => by rw [← h.eq, ← h2.eq, e]
  exact Prod.ext e this
theorem PairM.snd (A1 : Apart ws p) {y z : Nat × Nat} (h : PairM ws p vs q y) (h2 : PairM ws p vs q z) (e : y.2 = z.2) : y = z := by
  have : y.1 = z.1 := A1 _ _ h.l1 h2.l1 fun t => by rw [h.eq, h2.eq, e]
  exact Prod.ext this e
def goalsZ (ws : List W) (p : Rws) (vs : List W) (q : Rws) (A : List W) (z : Nat × Nat) : List (Nat × Nat) := A.map fun w => (gl (rowAt p z.1) (colW ws w), gl (rowAt q z.2) (colW vs w))
theorem ord_pair (hM1 : MOk ws.length p) (hM2 : MOk vs.length q) (A1 : Apart ws p) (A2 : Apart vs q) {A : List W} {c1 c2 : List Nat} (e1 : colsN c1 = A.map (colW ws)) (e2 : colsN c2 = A.map (colW vs)) : ∀ (m k : Nat) (o : List (Nat × Nat)), (∀ z ∈ o, PairM ws p vs q z) →
    ∃ Z : List (Nat × Nat), (∀ z ∈ Z, PairM ws p vs q z) ∧ ordW c1 p m k (o.map Prod.fst) = Z.map Prod.fst ∧ ordW c2 q m k (o.map Prod.snd) = Z.map Prod.snd
  | 0, k, o, h => ⟨o, h, rfl, rfl⟩
  | m + 1, k, o, h => by
    unfold ordW
    rw [List.getElem?_map, List.getElem?_map]
    cases e : o[k]? with
    | none => exact ⟨o, h, rfl, rfl⟩
    | some z =>
      have hz := h z (List.mem_of_getElem? e)
      have hg : ∀ y ∈ o ++ goalsZ ws p vs q A z, PairM ws p vs q y := fun y hy => by
        rcases List.mem_append.mp hy with hy | hy
        · exact h y hy
        · obtain ⟨w, _, rfl⟩ := List.mem_map.mp hy
          exact hz.step hM1 hM2 w
      have f1 : ordI c1 (rowAt p z.1) (o.map Prod.fst) = ((goalsZ ws p vs q A z).foldl addO o).map Prod.fst := by
        rw [← fold_map (goalsZ ws p vs q A z) o fun x hx y hy e => (hg x hx).fst A2 (hg y hy) e]
        unfold ordI goalsZ
        rw [e1, List.map_map, List.map_map]
        rfl
      have f2 : ordI c2 (rowAt q z.2) (o.map Prod.snd) = ((goalsZ ws p vs q A z).foldl addO o).map Prod.snd := by
        rw [← fold_map (goalsZ ws p vs q A z) o fun x hx y hy e => (hg x hx).snd A1 (hg y hy) e]
        unfold ordI goalsZ
        rw [e2, List.map_map, List.map_map]
        rfl
      show ∃ Z, _ ∧ ordW c1 p m (k + 1) (ordI c1 (rowAt p z.1) (o.map Prod.fst)) = _ ∧ ordW c2 q m (k + 1) (ordI c2 (rowAt q z.2) (o.map Prod.snd)) = _
      rw [f1, f2]
      refine ord_pair hM1 hM2 A1 A2 e1 e2 m (k + 1) _ fun y hy => ?_
      rw [fold_mem] at hy
      exact hg y (List.mem_append.mpr hy)
theorem start_ok {c1 : List Nat} {f1 : Nat} (hf : f1 < p.length) : OrdI c1 p f1 0 [f1] := ⟨by simp, fun s hs => by rw [List.mem_singleton.mp hs]; exact hf, rfl, Nat.zero_le _, fun i s hi => absurd hi (Nat.not_lt_zero _)⟩
/-- machines whose states are apart, of one language: renumbered alike -/
theorem reach_same (hM1 : MOk ws.length p) (hM2 : MOk vs.length q) (A1 : Apart ws p) (A2 : Apart vs q) {A : List W} {x : W} {f1 f2 : Nat} (hx1 : x ∉ ws) (hx2 : x ∉ vs) (hA1 : ∀ w ∈ A, w ∈ ws) (hA2 : ∀ w ∈ A, w ∈ vs) (h0 : PairM ws p vs q (f1, f2)) :
    reachM (A.map fun w => ws.idxOf w) p f1 = reachM (A.map fun w => vs.idxOf w) q f2 := by
  have hc1 : ∀ c ∈ A.map fun w => ws.idxOf w, c < ws.length := fun c hc => by
    obtain ⟨w, hw, rfl⟩ := List.mem_map.mp hc
    exact List.idxOf_lt_length_iff.mpr (hA1 w hw)
  have hc2 : ∀ c ∈ A.map fun w => vs.idxOf w, c < vs.length := fun c hc => by
    obtain ⟨w, hw, rfl⟩ := List.mem_map.mp hc
    exact List.idxOf_lt_length_iff.mpr (hA2 w hw)
  have e1 : colsN (A.map fun w => ws.idxOf w) = (A ++ [x]).map (colW ws) := by
    unfold colsN
    rw [List.map_append, List.map_map]
    congr 1
    · exact List.map_congr_left fun w hw => (col_mem (hA1 w hw)).symm
    · rw [List.map_singleton, col_fresh hx1]
  have e2 : colsN (A.map fun w => vs.idxOf w) = (A ++ [x]).map (colW vs) := by
    unfold colsN
    rw [List.map_append, List.map_map]
    congr 1
    · exact List.map_congr_left fun w hw => (col_mem (hA2 w hw)).symm
    · rw [List.map_singleton, col_fresh hx2]
  obtain ⟨Z, hZ, z1, z2⟩ := ord_pair hM1 hM2 A1 A2 e1 e2 (p.length + q.length + 1) 0 [(f1, f2)] fun z hz => by rw [List.mem_singleton.mp hz]; exact h0
  have o1 : orderOf (A.map fun w => ws.idxOf w) p f1 = Z.map Prod.fst := (ordW_fuel hM1 hc1 _ _ 0 _ (start_ok h0.l1) (by omega) (by omega)).trans z1
  have o2 : orderOf (A.map fun w => vs.idxOf w) q f2 = Z.map Prod.snd := (ordW_fuel hM2 hc2 _ _ 0 _ (start_ok h0.l2) (by omega) (by omega)).trans z2
  have O1 := order_ok hM1 hc1 h0.l1
  have O2 := order_ok hM2 hc2 h0.l2
  rw [o1] at O1
  rw [o2] at O2
  unfold reachM
  rw [o1, o2, List.map_map, List.map_map]
  refine List.map_congr_left fun z hz => ?_
  have hzp := hZ z hz
  obtain ⟨i, hi⟩ := List.getElem?_of_mem hz
  have hil := (List.getElem?_eq_some_iff.mp hi).1
  have key : ∀ w ∈ A ++ [x], (Z.map Prod.fst).idxOf (gl (rowAt p z.1) (colW ws w)) = (Z.map Prod.snd).idxOf (gl (rowAt q z.2) (colW vs w)) := fun w hw => by
    have hm := O1.cl i z.1 (by rw [List.length_map]; exact hil) (by rw [List.getElem?_map, hi]; rfl) (colW ws w) (by rw [e1]; exact List.mem_map_of_mem hw)
    obtain ⟨y, hy, ey⟩ := List.mem_map.mp hm
    have := (hZ y hy).fst A2 (hzp.step hM1 hM2 w) ey
    rw [this] at hy
    have i1 := idx_map O1.nd hy
    have i2 := idx_map O2.nd hy
    exact i1.trans i2.symm
  show renum _ _ (rowAt p z.1) = renum _ _ (rowAt q z.2)
  unfold renum
  have k1 : (rowAt p z.1).1 = (rowAt q z.2).1 := hzp.eq []
  have k3 : (Z.map Prod.fst).idxOf (rowAt p z.1).2.2 = (Z.map Prod.snd).idxOf (rowAt q z.2).2.2 := by
    have := key x (List.mem_append_right _ List.mem_cons_self)
    rw [col_fresh hx1, col_fresh hx2] at this
    exact this
  rw [k1, k3, List.map_map, List.map_map]
  congr 2
  refine List.map_congr_left fun w hw => ?_
  have := key w (List.mem_append_left _ hw)
  rw [col_mem (hA1 w hw), col_mem (hA2 w hw)] at this
  exact this
theorem fm_idx (hw : ws.Nodup) : ∀ {cs : List Nat}, (∀ c ∈ cs, c < ws.length) → (cs.filterMap fun c => ws[c]?).map (fun w => ws.idxOf w) = cs
  | [], _ => rfl
  | c :: cs, h => by
    have hc := h c List.mem_cons_self
    rw [List.filterMap_cons, List.getElem?_eq_getElem hc, List.map_cons, fm_idx hw fun d hd => h d (List.mem_cons_of_mem _ hd)]
    congr 1
    exact hw.idxOf_getElem c hc
/-- machines of one language: the same least machine -/
theorem least_same {f2 : Nat} (fr : ∀ l : List W, ∃ x, x ∉ l) (hw : ws.Nodup) (hM : MOk ws.length p) (hf : first < p.length) (hv : vs.Nodup) (hM2 : MOk vs.length q) (hf2 : f2 < q.length)
    (he : ∀ t, accM ws p first t = accM vs q f2 t) (hA : (leastM ws p first).1 = (leastM vs q f2).1) : leastM ws p first = leastM vs q f2 := by
  obtain ⟨x, hx⟩ := fr (ws ++ vs)
  have hx1 : x ∉ ws := fun z => hx (List.mem_append_left _ z)
  have hx2 : x ∉ vs := fun z => hx (List.mem_append_right _ z)
  have F1 := foldF_ok hw hx1 hM hf
  have F2 := foldF_ok hv hx2 hM2 hf2
  refine Prod.ext hA ?_
  have c1 := fm_idx hw (tells_lt (n := ws.length) (rows := foldF ws p first))
  have c2 := fm_idx hv (tells_lt (n := vs.length) (rows := foldF vs q f2))
  show reachM (tells ws.length (foldF ws p first)) (foldF ws p first) 0 = reachM (tells vs.length (foldF vs q f2)) (foldF vs q f2) 0
  have hA' : ((tells ws.length (foldF ws p first)).filterMap fun c => ws[c]?) = (tells vs.length (foldF vs q f2)).filterMap fun c => vs[c]? := hA
  rw [← hA'] at c2
  have s1 : ∀ w ∈ (tells ws.length (foldF ws p first)).filterMap fun c => ws[c]?, w ∈ ws := fun w h => by
    obtain ⟨c, _, hc⟩ := List.mem_filterMap.mp h
    exact List.mem_of_getElem? hc
  have s2 : ∀ w ∈ (tells ws.length (foldF ws p first)).filterMap fun c => ws[c]?, w ∈ vs := fun w h => by
    rw [hA'] at h
    obtain ⟨c, _, hc⟩ := List.mem_filterMap.mp h
    exact List.mem_of_getElem? hc
  have R := reach_same F1.ok F2.ok F1.apart F2.apart (A := (tells ws.length (foldF ws p first)).filterMap fun c => ws[c]?) (f1 := 0) (f2 := 0) hx1 hx2 s1 s2 ⟨F1.pos, F2.pos, fun t => by rw [F1.lang, F2.lang, he]⟩
  rw [c1, c2] at R
  exact R
end
end DL
namespace DL
open PySem PySem.Spec PyProof.Rows L2
/-! ### defs that call repr: no repr is under way around them -/
/-- as FnA, where no repr is under way -/
def FnG (P : Program) (w : World) (K : PySem.W.Frag) (mg : Str → Option Value) (base : Heap) (k : Nat) (f : Addr) (sp : SpA) : Prop :=
  ∀ (A : Around) (outer : List Env) (s : Shared) (H : Hp) (us : List Value) (vs : List V) (Q : VK) (E : XK), Room k A → A.guards = some [] → Env0 P w K mg base A outer s H → Vals vs us → toSp P w K sp vs H Q E → codeAny (model P w) A (.call (.ref f) ⟨us, []⟩) (CR (L2.CX P w) outer P w H s Q E) s
structure DefG (P : Program) (w : World) (K : PySem.W.Frag) (mg : Str → Option Value) (base : Heap) (x : Str) (k : Nat) (sp : SpA) : Prop where
  ex : ∃ f, mg x = some (.ref f) ∧ PySem.W.keepIn K (.ref f) = true ∧ FnG P w K mg base k f sp
theorem guards_deeper (A : Around) (env : Env) : (A.deeper env).guards = A.guards := by
  first | rfl | simp [Around.deeper]
section
variable {P : Program} {w : World} {K : PySem.W.Frag} {mg : Str → Option Value} {base : Heap} {x qual : Str} {st : Stmt} {f : Addr} {fd : FuncData} {N ps : List Str} {k : Nat} {sp : SpA}
/-- the rule for such a def -/
theorem fnG0 (F : Fun K x qual st f fd) (S : FnScope N ps (defScope st))
    (hbody : ∀ (cdv : Value) (A : Around) (outer : List Env) (s : Shared) (H : Hp) (E : XK) (ds : List D) (L : Lp) (Q : D → Lp → Prop) (R : Value → List (Str × D) → Lp → Prop), Room k (A.deeper (envOfC qual (defScope st) s.heap.objs.size f cdv)) → (A.deeper (envOfC qual (defScope st) s.heap.objs.size f cdv)).guards = some [] → sp ds L Q R →
      ASs (fctx P w K mg base N qual (defScope st) f cdv A outer s H E S.nd R) (defBody st) (startG N ds) L (endsOf Q))
    (len : ∀ ds L Q R, sp ds L Q R → ds.length = ps.length) {A : Around} {outer : List Env} {s : Shared} {H : Hp} {us : List Value} {vs : List V} {Q : VK} {E : XK} {args : Args} (hr : Room (k + 1) A) (hg : A.guards = some []) (e0 : Env0 P w K mg base A outer s H) (hb : BindsTo s fd args (ps.zip us)) (r : Vals vs us) (h : toSp P w K sp vs H Q E) :
    codeAny (model P w) A (.call (.ref f) args) (CR (L2.CX P w) outer P w H s Q E) s := by
  obtain ⟨oc, od, kV, doc, pm, an, cdv, ct, osl, rfl, lk, hcd⟩ := F.ex
  obtain ⟨ds, L, Z, Q', R', rd, c, hsp, hq, he⟩ := h
  have hl : vs.length = ps.length := by rw [rd.length]; exact len _ _ _ _ hsp
  have up : ∀ b o, base.get? b = some o → s.heap.get? b = some o := fun b o z => (e0.bs b o z).1
  have KX : K.In s.heap := e0.mod.kin.keeps up
  have kinds : ∀ y ∈ ps.zip us, (defScope st).names.lookup y.1 = some .local ∨ ((defScope st).names.lookup y.1 = some .cell ∧ ((cellsFrom (s.heap.objs.size + 1) (defScope st).names []).lookup y.1).isSome = true) := fun y hy =>
    (S.par y.1 (List.of_mem_zip (a := y.1) (b := y.2) hy).1).imp id fun z => ⟨z, PySem.W.cellsFrom_some _ _ _ (.inl z)⟩
  refine codeAny_call_function hr.depth (KX _ _ lk) rfl S.co S.gen rfl (PySem.W.codeRec_of KX hcd) (hb _ _ _ _ (wpAny_newFunctionEnv_cells S.kind kinds fun env ee s1 z => ?_))
  subst ee
  refine ⟨(e0.mod.nolimit.keeps up).keeps z.toInCall.keep, codeAny_func ?_⟩
  have body := hbody cdv A outer s H E ds L Q' R' (hr.deeper _) ((guards_deeper _ _).trans hg) hsp _ (L2.start N vs) H ⟨sl_start rd, c, ⟨fun cls d σ' H' Γ' L' fs _ c' f' xd q => he cls fs L' q d H' xd c' f'⟩⟩
    { nx := fun _ H' => Q .non H', rt := Q } ⟨fun σ' H' Γ' L' ok' f' ⟨L2, le, q⟩ => hq .non L2 q .non H' .non (ok'.con.le le) (f'.leR le), fun v d H' L' rv c' f' ⟨L2, le, q⟩ => hq d L2 q v H' rv (c'.le le) (f'.leR le), fun _ _ _ _ _ _ z => z.elim, fun _ _ _ _ _ _ z => z.elim⟩
  have I : Inv (cxOf (L2.CX P w) P w K mg base N qual (defScope st) f cdv A outer s H E) [] (L2.start N vs) H s1 := inv_start S hr.hd e0 hl r z
  refine wpAny_mono (body.run [] s1 I) (fun fl s' hs => ?_) fun _ _ z => z
  cases fl with
  | ret u => obtain ⟨v, σ', H', J, rv, q⟩ := hs; exact ⟨v, H', J.os, J.bare, J.base, J.hok, rv, q⟩
  | next => obtain ⟨σ', H', J, q⟩ := hs; exact ⟨.non, H', J.os, J.bare, J.base, J.hok, rfl, q⟩
  | brk => obtain ⟨_, _, _, q⟩ := hs; exact q.elim
  | cont => obtain ⟨_, _, _, q⟩ := hs; exact q.elim
end
end DL
namespace DL
open PySem PySem.Spec PyProof.Rows L2
theorem fnG {P : Program} {w : World} {K : PySem.W.Frag} {mg : Str → Option Value} {base : Heap} {x qual : Str} {st : Stmt} {f : Addr} {fd : FuncData} {N ps : List Str} {k : Nat} {sp : SpA} (F : Fun K x qual st f fd) (S : FnScope N ps (defScope st)) (hb : Binds K fd ps []) (len : ∀ ds L Q R, sp ds L Q R → ds.length = ps.length)
    (hbody : ∀ (cdv : Value) (A : Around) (outer : List Env) (s : Shared) (H : Hp) (E : XK) (ds : List D) (L : Lp) (Q : D → Lp → Prop) (R : Value → List (Str × D) → Lp → Prop), Room k (A.deeper (envOfC qual (defScope st) s.heap.objs.size f cdv)) → (A.deeper (envOfC qual (defScope st) s.heap.objs.size f cdv)).guards = some [] → sp ds L Q R →
      ASs (fctx P w K mg base N qual (defScope st) f cdv A outer s H E S.nd R) (defBody st) (startG N ds) L (endsOf Q)) : FnG P w K mg base (k + 1) f sp := fun A outer s H us vs Q E hr hg e0 r h => by
  have hl : us.length = ps.length := by
    obtain ⟨ds, L, Z, Q', R', rd, c, hsp, _⟩ := h
    rw [← r.length, rd.length]
    exact len _ _ _ _ hsp
  have b := hb s us (e0.mod.kin.keeps fun b o z => (e0.bs b o z).1) (by rw [List.append_nil]; exact hl)
  rw [List.append_nil] at b
  exact fnG0 F S hbody len hr hg e0 b r h
section
variable {C : DL.Ctx} {Γ : Gm} {L : Lp} {e : Expr} {es : List Expr} {p pos : Pos} {Q : D → Lp → Prop} {x : Str} {k : Nat} {sp : SpA}
theorem ae_callG (F : DefG C.X.prog C.X.w C.X.K C.X.mg C.X.base x k sp) (hr : Room k C.X.A) (hgd : C.X.A.guards = some []) (h : AA C (e :: es) Γ L fun ds L1 => sp ds L1 Q (C.R Γ)) (hg : Gl C.X x := by rfl) (hdb : (x == ("__debug__" : Str)) = false := by decide)
    (he : starEach (e :: es) C.X.env = (false, eval e C.X.env) :: starEach es C.X.env := by rfl) (hpl : (backTo pos (starEach es C.X.env)).any (·.1) = false := by rfl) : AE C (.Call (.Name x p) (e :: es) [] pos) Γ L Q := fun Z σ H ok QV go => by
  refine ⟨fun pins s I => ?_⟩
  obtain ⟨f, hm, hk, G⟩ := F.ex
  refine wpAny_Call_Name_kw (ld_glob I hg hm ?_ hdb)
  refine PySem.W.callWith_K (h₀ := C.X.base) I.ok.mod.kin hk (thn ((h _ σ H ok (fun vs H1 => ∃ ds L1 Z1, Reps C.X.K Z1 H1 vs ds ∧ C.Con L1 Z1 H1 ∧ Fr L Z H L1 Z1 H1 ∧ sp ds L1 Q (C.R Γ)) (fun vs ds H1 L1 r c f q => ⟨ds, L1, _, r, c, f, q⟩)).run pos pins s I) fun us s1 ⟨vs, H1, I1, r, ds, L1, Z1, rd, c1, f1, q⟩ => ⟨I1.kIn, wpAny_call ?_⟩) he hpl
  have ok1 := ok.step c1 f1
  have go1 : Go C L1 Z1 H1 Q QV := go.after f1
  refine codeAny_mono (G C.X.A C.X.stack s1 H1 us vs QV (L2.WE C.W σ) hr hgd I1.env0 r ⟨ds, L1, Z1, Q, C.R Γ, rd, ok1.con, q, fun d L' q v H' rv c f => go1 v d H' L' rv c f q, fun cls fs L' q d H' xd c f => ok1.lr.of cls d σ H' Γ L' fs (ok1.sl.mono f.mv) c f xd q⟩) fun r s' hq => ?_
  cases r with
  | error e => exact passAt C.tk σ pins H1 s1 e s' I1 hq
  | ok fl =>
    cases fl with
    | ret u => exact I1.after hq
    | next => exact hq.elim
    | brk => exact hq.elim
    | cont => exact hq.elim
end
/-! the law's own def, called from nowhere -/
theorem call_law {P : Program} {w : World} {K : PySem.W.Frag} {mg mb : Str → Option Value} {CX : CXT} {fa a : Addr} {s₁ : Shared} {vs : List Value} {ns : List Int}
    (KX : K.In s₁.heap) (hm : s₁.heap.Ns mainGlobals mg) (hb : s₁.heap.Ns builtinsNs mb) (hbb : ∀ x : Str, x ≠ "__name__" → mb x = bootBuiltins x) (hlim : s₁.heap.NoLimit) (hg : s₁.gens = #[])
    (ha : s₁.heap.get? a = some { cls := .type "list", data := .seq vs.toArray }) (hi : IntsAre vs ns) (hl : ns.length ≤ sizeLine) (hsy : ∃ mm, s₁.heap.Ns sysModules mm)
    (F : ∀ (base : Heap) (H : Hp), K.In base → base.Ns mainGlobals mg → (∃ o, base.get? sysModules = some o) → Env0 P w K mg base callerA [] s₁ H → Only H → SqL K H a (ns.map V.int) → codeAny (model P w) callerA (.call (.ref fa) ⟨[.ref a], []⟩) (CR CX [] P w H s₁ (fun v _ => v = .bl true) fun _ _ _ => False) s₁)
    (hX : ∀ H e s', CX [] H s₁ (fun _ _ _ => False) e s' → False) :
    codeAny (model P w) callerA (.call (.ref fa) ⟨[.ref a], []⟩) (fun r s' => r = .ok (.ret (.bool true)) ∧ OldK s₁.heap s'.heap ∧ s'.os = s₁.os ∧ AllBare s'.gens) s₁ := by
  have rv := vals_ints hi
  have main : ∀ H : Hp, Only H → SqL K H a (ns.map V.int) → HOk P w H s₁.heap → (∀ b, H b ≠ none → b = a) → (H a ≠ none → K.lookup a = none) →
      codeAny (model P w) callerA (.call (.ref fa) ⟨[.ref a], []⟩) (fun r s' => r = .ok (.ret (.bool true)) ∧ OldK s₁.heap s'.heap ∧ s'.os = s₁.os ∧ AllBare s'.gens) s₁ := by
    intro H hO hS hok hA hK
    have out : ∀ {b : Addr} {o : Obj}, s₁.heap.get? b = some o → (H b ≠ none → False) → (hidT s₁.heap H).get? b = some o := fun {b o} z nz => hidT_get z (by
      cases q : H b with
      | none => rfl
      | some u => exact (nz (by rw [q]; simp)).elim)
    have nsk : ∀ {b : Addr} {m : Str → Option Value}, s₁.heap.Ns b m → (hidT s₁.heap H).Ns b m := fun {b m} h => by
      obtain ⟨o, es, ep, z, d, r⟩ := h
      refine ⟨o, es, ep, out z fun nz => ?_, d, r⟩
      have eb := hA b nz
      rw [eb, ha] at z
      cases z
      cases (show Data.seq vs.toArray _ = Data.dict es ep from d)
    have kb : K.In (hidT s₁.heap H) := fun b o z => out (KX b o z) fun nz => by
      have eb := hA b nz
      rw [eb] at z nz
      rw [hK nz] at z
      cases z
    have md : Mod K mg (hidT s₁.heap H) := ⟨kb, nsk hm, ⟨mb, nsk hb, hbb⟩, let ⟨mc, h1, h2⟩ := hlim; ⟨mc, nsk h1, h2⟩⟩
    have e0 : Env0 P w K mg (hidT s₁.heap H) callerA [] s₁ H := ⟨rfl, md, fun b o z => of_hidT z, Nat.le_of_eq (hidT_size _ _), trivial, (fun b z => nomatch z), hok, .of_eq hg⟩
    refine codeAny_mono (F _ H kb (nsk hm) (let ⟨_, z⟩ := hsy; let ⟨o, _, _, e, _⟩ := nsk z; ⟨o, e⟩) e0 hO hS) fun r s' hr => ?_
    match r, hr with
    | .error e, hr => exact (hX H e s' hr).elim
    | .ok (.ret u), ⟨v, H', os, bare, un, hok', ru, ev⟩ =>
      subst ev
      cases (show u = Value.bool true from ru)
      refine ⟨rfl, OldK.of_keep fun b o z => ?_, os, bare⟩
      rcases hO b with q | ⟨ob, xs, q⟩
      · exact un.keep b o z q (fun zz => nomatch zz) (by simp)
      · obtain ⟨e1, _⟩ := hok b _ q
        obtain ⟨e2, _⟩ := hok' b _ (un.frzs b ob _ q)
        rw [z] at e1
        cases e1
        exact e2
  cases hk : K.lookup a with
  | some o =>
    have z := KX a o hk
    rw [ha] at z
    cases z
    exact main (fun _ => none) (fun _ => .inl rfl) (.inr ⟨_, vs.toArray, _, hk, rfl, rfl, rfl, by rw [List.size_toArray, hi.length]; exact hl, by simpa using rv⟩) (fun b u z => nomatch z) (fun b z => (z rfl).elim) fun z => (z rfl).elim
  | none =>
    have at1 : upd (fun _ => none) a (.frz { cls := .type "list", data := .seq vs.toArray } (.lst (ns.map V.int))) a = some (.frz { cls := .type "list", data := .seq vs.toArray } (.lst (ns.map V.int))) := upd_same
    have at2 : ∀ b, b ≠ a → upd (fun _ => none) a (.frz { cls := .type "list", data := .seq vs.toArray } (.lst (ns.map V.int))) b = none := fun b nb => upd_ne nb
    refine main (upd (fun _ => none) a (.frz { cls := .type "list", data := .seq vs.toArray } (.lst (ns.map V.int)))) (fun b => ?_) (.inl (.inr ⟨_, at1⟩)) (fun b u z => ?_) (fun b z => ?_) fun _ => hk
    · by_cases eb : b = a
      · subst eb; exact .inr ⟨_, _, at1⟩
      · exact .inl (at2 b eb)
    · by_cases eb : b = a
      · subst eb
        rw [at1] at z
        cases z
        exact ⟨ha, by rw [List.length_map]; exact hl, vs, _, rv, ha⟩
      · rw [at2 b eb] at z
        cases z
    · exact Classical.byContradiction fun eb => z (at2 b eb)
theorem walk_G {l : PySem.W.OpenLaw} {n k : Nat} {q : Program} {loose : List Str} {XP : (Str → Option Value) → Heap → Prop} {YP : World → Heap → Prop} {d : DefRec} {K : Params → PySem.W.Frag} {sp : SpA}
    (hn : l.most = some n) (hn2 : n ≤ sizeLine) (hdf : d.params.defaults = []) (hr : Room k callerA)
    (hY : ∀ (w : World) (h : Heap), YP w h → (K w.params).In h)
    (F : ∀ (w : World) (mg : Str → Option Value) (fa : Addr) (h : Heap), (K w.params).In h → h.Ns mainGlobals mg → mg d.name = some (.ref fa) → ∀ base : Heap, (K w.params).In base → base.Ns mainGlobals mg → (∃ o, base.get? sysModules = some o) → FnG l.prog w (K w.params) mg base k fa sp)
    (hsp : ∀ (ns : List Int) (Q : D → Lp → Prop) (R : Value → List (Str × D) → Lp → Prop), Q (.bl true) (fun _ => none) → sp [.ilst ns] (fun _ => none) Q R) (hin : importsNone q = true := by rfl) :
    PySem.W.WalkO q loose XP YP l.row.toRowW d [] (fun f vs => PySem.call f vs) := by
  refine Att.attach_call hn hdf fun w s₀ s₁ mg mb fa o pm cd doc a vs ns G Y ho hd hcd hmg hobj hints hlen hg => ?_
  have kx := hY w _ Y
  exact call_law (CX := L2.CX l.prog w) kx G.T.g G.T.b G.T.builtins G.T.nolimit hg hobj hints (Nat.le_trans hlen hn2) (let ⟨mm, z, _⟩ := (G.T.seer hin).mods; ⟨mm, z⟩) (fun base H kb hm hsy e0 hO hS => F w mg fa _ kx G.T.g hmg base kb hm hsy callerA [] s₁ H [.ref a] [.ref a] _ _ hr rfl e0 (.cons rfl .nil) (law_sp hO hS (hsp ns))) fun H e s' z => law_cx z
end DL
namespace DL
open PySem PySem.Spec PyProof.Rows L2
/-! ### data that can be shown: also frozen lists, frozen dicts of texts and numbers -/
def keyPy : Key → PyData
  | .inl i => .int i
  | .inr x => .str x
mutual
def pyE : D → PyData
  | .non => .none
  | .bl b => .bool b
  | .int i => .int i
  | .str x => .str x
  | .tup ds => .tuple (pyEs ds)
  | .flst ds => .list (pyEs ds)
  | .kdct kds => .dict (pyEk kds)
  | .ty _ => .none
  | .ptr _ => .none
  | .ilst _ => .none
  | .obj _ _ => .none
  | .fdct _ => .none
  | .wds _ => .none
def pyEs : List D → List PyData
  | [] => []
  | d :: ds => pyE d :: pyEs ds
def pyEk : List (Key × D) → List (PyData × PyData)
  | [] => []
  | (k, d) :: r => (keyPy k, pyE d) :: pyEk r
end
mutual
def okE : D → Bool
  | .non => true
  | .bl _ => true
  | .int _ => true
  | .str _ => true
  | .tup ds => okEs ds
  | .flst ds => okEs ds
  | .kdct kds => okEk kds
  | .ty _ => false
  | .ptr _ => false
  | .ilst _ => false
  | .obj _ _ => false
  | .fdct _ => false
  | .wds _ => false
def okEs : List D → Bool
  | [] => true
  | d :: ds => okE d && okEs ds
def okEk : List (Key × D) → Bool
  | [] => true
  | (_, d) :: r => okE d && okEk r
end
theorem okEs_mem : ∀ {ds : List D}, okEs ds = true → ∀ d ∈ ds, okE d = true
  | d :: ds, h, x, hx => by
    rw [okEs, Bool.and_eq_true] at h
    rcases List.mem_cons.mp hx with rfl | hx
    · exact h.1
    · exact okEs_mem h.2 x hx
mutual
theorem okE_okD : ∀ d : D, okD d = true → okE d = true
  | .non, _ => by rw [okE]
  | .bl _, _ => by rw [okE]
  | .int _, _ => by rw [okE]
  | .str _, _ => by rw [okE]
  | .tup ds, h => by rw [okE]; rw [okD] at h; exact okEs_okD ds h
  | .ty _, h => by simp [okD] at h
  | .ptr _, h => by simp [okD] at h
  | .ilst _, h => by simp [okD] at h
  | .obj _ _, h => by simp [okD] at h
  | .flst _, h => by simp [okD] at h
  | .fdct _, h => by simp [okD] at h
  | .kdct _, h => by simp [okD] at h
  | .wds _, h => by simp [okD] at h
theorem okEs_okD : ∀ ds : List D, okDs ds = true → okEs ds = true
  | [], _ => by rw [okEs]
  | d :: ds, h => by
    rw [okDs, Bool.and_eq_true] at h
    rw [okEs, okE_okD d h.1, okEs_okD ds h.2]
    rfl
end
section
variable {X : Cx} {pins : List (Addr × Obj)} {σ : L2.St} {H : Hp} {s : Shared} {Z : Fz}
/-- what is tracked is not sys.modules -/
theorem Inv.nsys (I : Inv X pins σ H s) (hs : ∃ o, X.base.get? sysModules = some o) {a : Addr} {u : HO} (ha : H a = some u) : a ≠ sysModules := fun e => by
  obtain ⟨o, ho⟩ := hs
  have := (I.bs _ _ ho).2
  rw [← e, ha] at this
  cases this
theorem key_reads {h : Heap} {k : Key} {v : Value} (e : keyIs k v = true) : Reads h v (keyPy k) [] := by
  rcases keyIs_shape e with ⟨i, t, rfl, rfl⟩ | ⟨x, t, rfl, rfl⟩
  · exact .int i t
  · exact .str x t
mutual
theorem Rep.rd (I : Inv X pins σ H s) (hs : ∃ o, X.base.get? sysModules = some o) : ∀ (d : D) (v : V) (u : Value), okE d = true → Rep X.K Z H v d → RelV v u → ∃ as, Reads s.heap u (pyE d) as ∧ sysModules ∉ as
  | .non, _, u, _, r, ru => by
    rw [r.nonE] at ru
    cases (show u = Value.none from ru)
    rw [pyE]
    exact ⟨[], .none, by simp⟩
  | .bl b, _, u, _, r, ru => by
    rw [r.blE] at ru
    cases (show u = Value.bool b from ru)
    rw [pyE]
    exact ⟨[], .bool b, by simp⟩
  | .int i, _, u, _, r, ru => by
    rw [r.intE] at ru
    obtain ⟨t, rfl⟩ := ru
    rw [pyE]
    exact ⟨[], .int i t, by simp⟩
  | .str x, _, u, _, r, ru => by
    rw [r.strE] at ru
    obtain ⟨t, rfl⟩ := ru
    rw [pyE]
    exact ⟨[], .str x t, by simp⟩
  | .tup ds, _, u, h, r, ru => by
    obtain ⟨a, vs, rfl, ha, ra⟩ := r.tupE
    cases (show u = Value.ref a from ru)
    rw [okE] at h
    obtain ⟨its, rv, ⟨o, ho, hc, n, hd⟩, _⟩ := I.tuple (SqT.of ha)
    obtain ⟨as, h1, h2⟩ := Reps.rd I hs ds vs its h ra rv
    rw [pyE]
    exact ⟨as, .tuple ho hc hd (by simpa using h1), h2⟩
  | .flst ds, _, u, h, r, ru => by
    cases r with
    | @flst a vs _ hl ha hz hn hi =>
      cases (show u = Value.ref a from ru)
      rw [okE] at h
      obtain ⟨its, rv, ⟨o, n, ho, hc, hd, hdt⟩, _⟩ := I.list (SqL.of ha)
      obtain ⟨as, h1, h2⟩ := Reps.rd I hs ds vs its h (Reps.of_get hn hi) rv
      rw [pyE]
      refine ⟨a :: as, .list ho hc hdt (by simpa using h1), fun z => ?_⟩
      rcases List.mem_cons.mp z with e | e
      · exact Inv.nsys I hs ha e.symm
      · exact h2 e
  | .kdct kds, _, u, h, r, ru => by
    cases r with
    | @kdct a kvs _ o hl ha hn he hi =>
      cases (show u = Value.ref a from ru)
      rw [okE] at h
      obtain ⟨_, hg, hx, es, ep, vs, hdt, hsz, kv, _, _, h1, h2, h3, h4, h5, h6⟩ := I.frzK ha
      rw [hg] at h1
      cases h1
      rw [hdt] at h3
      cases h3
      obtain ⟨as, bs, g1, g2, g3, g4⟩ := Repk.rd I hs kds kvs vs es.toList h hn he hi kv h5
      rw [pyE]
      refine ⟨_, .dict hg hx.1 hdt g1 g2, fun z => ?_⟩
      rcases List.mem_append.mp z with z | z
      · rcases List.mem_cons.mp z with e | e
        · exact Inv.nsys I hs ha e.symm
        · exact g3 e
      · exact g4 z
  | .ty _, _, _, h, _, _ => by simp [okE] at h
  | .ptr _, _, _, h, _, _ => by simp [okE] at h
  | .ilst _, _, _, h, _, _ => by simp [okE] at h
  | .obj _ _, _, _, h, _, _ => by simp [okE] at h
  | .fdct _, _, _, h, _, _ => by simp [okE] at h
  | .wds _, _, _, h, _, _ => by simp [okE] at h
theorem Reps.rd (I : Inv X pins σ H s) (hs : ∃ o, X.base.get? sysModules = some o) : ∀ (ds : List D) (vs : List V) (us : List Value), okEs ds = true → Reps X.K Z H vs ds → Vals vs us → ∃ as, ReadsAll s.heap us (pyEs ds) as ∧ sysModules ∉ as
  | [], _, _, _, r, rv => by
    cases r
    cases rv
    rw [pyEs]
    exact ⟨[], .nil, by simp⟩
  | d :: ds, _, _, h, r, rv => by
    rw [okEs, Bool.and_eq_true] at h
    cases r with
    | cons r1 r2 =>
      cases rv with
      | cons v1 v2 =>
        obtain ⟨as, a1, a2⟩ := Rep.rd I hs d _ _ h.1 r1 v1
        obtain ⟨bs, b1, b2⟩ := Reps.rd I hs ds _ _ h.2 r2 v2
        rw [pyEs]
        exact ⟨as ++ bs, .cons a1 b1, fun z => (List.mem_append.mp z).elim a2 b2⟩
theorem Repk.rd (I : Inv X pins σ H s) (hs : ∃ o, X.base.get? sysModules = some o) : ∀ (kds : List (Key × D)) (kvs : List (Key × V)) (vs : List (Key × Value)) (es : List DictEntry), okEk kds = true → kvs.length = kds.length → (∀ (i : Nat) (v : Key × V) (d : Key × D), kvs[i]? = some v → kds[i]? = some d → v.1 = d.1) →
    (∀ (i : Nat) (v : Key × V) (d : Key × D), kvs[i]? = some v → kds[i]? = some d → Rep X.K Z H v.2 d.2) → KV kvs vs → Pairs (mixKind X.prog X.w) es vs → ∃ as bs, ReadsAll s.heap (es.map (·.key)) ((pyEk kds).map (·.1)) as ∧ ReadsAll s.heap (es.map (·.val)) ((pyEk kds).map (·.2)) bs ∧ sysModules ∉ as ∧ sysModules ∉ bs
  | [], [], _, _, _, _, _, _, kv, pr => by
    cases kv
    cases pr
    rw [pyEk]
    exact ⟨[], [], .nil, .nil, by simp, by simp⟩
  | [], _ :: _, _, _, _, hl, _, _, _, _ => by simp at hl
  | (k, d) :: kds, [], _, _, _, hl, _, _, _, _ => by simp at hl
  | (k, d) :: kds, v :: kvs, _, _, h, hl, he, hi, kv, pr => by
    rw [okEk, Bool.and_eq_true] at h
    cases kv with
    | @cons _ q _ _ r1 r2 =>
      cases pr with
      | cons p1 p0 p2 =>
        obtain ⟨as, bs, g1, g2, g3, g4⟩ := Repk.rd I hs kds kvs _ _ h.2 (by simpa using hl) (fun i x y e1 e2 => he (i + 1) x y (by simpa using e1) (by simpa using e2)) (fun i x y e1 e2 => hi (i + 1) x y (by simpa using e1) (by simpa using e2)) r2 p2
        have ek : v.1 = k := he 0 v (k, d) rfl rfl
        have rk := key_reads (h := s.heap) (show keyIs q.1 _ = true from p1)
        rw [← r1.1, ek] at rk
        obtain ⟨cs, c1, c2⟩ := Rep.rd I hs d v.2 q.2 h.1 (hi 0 v (k, d) rfl rfl) r1.2
        rw [pyEk]
        refine ⟨[] ++ as, cs ++ bs, .cons rk g1, .cons ?_ g2, by simpa using g3, fun z => (List.mem_append.mp z).elim c2 g4⟩
        show Reads s.heap _ (pyE d) cs
        dsimp only
        rw [p0]
        exact c1
end
/-- repr of such data, where no repr is under way -/
theorem cr_repr (hg : X.A.guards = some []) (hs : ∃ o, X.base.get? sysModules = some o) : CallR X (.builtin "repr") (fun vs H Q => ∃ (Z : Fz) (a : Addr) (d : D), vs = [.ref a] ∧ Rep X.K Z H (.ref a) d ∧ okE d = true ∧ (pyE d).showable = true ∧ X.A.units + ((pyE d).depth + 1) < cLine ∧ (pyE d).shown.length ≤ sizeLine ∧ Q (.str (pyE d).shown) H) := fun pins s σ H vs us Q I r ⟨Z, a, d, ev, rd, ok, hsh, hu, hz, q⟩ => by
  subst ev
  obtain ⟨u, rfl, ru⟩ := vals1 r
  cases (show u = Value.ref a from ru)
  obtain ⟨as, h1, h2⟩ := Rep.rd I hs d _ _ ok rd (show RelV (.ref a) (.ref a) from rfl)
  refine repr_of_reads' h1 hsh (fun _ => h2) hg hu (fun _ _ z => z) (fun h' t tk k => ?_) hz
  exact ⟨.str (pyE d).shown, H, I.kept (t' := tk) k, ⟨t, rfl⟩, q⟩
end
section
variable {C : DL.Ctx} {Γ : Gm} {L : Lp} {Q : D → Lp → Prop}
@[irreducible] def rRepr (X : Cx) : List V → Hp → VK → Prop := fun vs H Q => ∃ (Z : Fz) (a : Addr) (d : D), vs = [.ref a] ∧ Rep X.K Z H (.ref a) d ∧ okE d = true ∧ (pyE d).showable = true ∧ X.A.units + ((pyE d).depth + 1) < cLine ∧ (pyE d).shown.length ≤ sizeLine ∧ Q (.str (pyE d).shown) H
theorem call_repr {X : Cx} (hg : X.A.guards = some []) (hs : ∃ o, X.base.get? sysModules = some o) : CallR X (.builtin "repr") (rRepr X) := by
  unfold rRepr
  exact cr_repr hg hs
/-- repr(x), x a tuple -/
theorem c_repr {ds : List D} (ok : okEs ds = true) (hsh : (pyE (.tup ds)).showable = true) (hu : C.X.A.units + 64 < cLine) (hd : (pyE (.tup ds)).depth ≤ 60) (hz : (pyE (.tup ds)).shown.length ≤ sizeLine) (hso : SOk (pyE (.tup ds)).shown) (q : Q (.str (pyE (.tup ds)).shown) L) : LcR C (rRepr C.X) [.tup ds] L Q := fun F vs H c r0 QV go => by
  obtain ⟨v, rfl, r⟩ := r0.oneE
  obtain ⟨a, ws, rfl, ha, ra⟩ := r.tupE
  unfold rRepr
  exact ⟨F, a, .tup ds, rfl, r, by rw [okE]; exact ok, hsh, by omega, hz, go _ _ H L (.str _ hso) c (.refl L H) q⟩
end
end DL
namespace DL
open PySem PySem.Spec PyProof.Rows L2
/-! ### the signs of what repr shows -/
def Sg (x : Str) : Prop := ∀ c ∈ x.cps.toList, c < 0x110000
theorem sg_ok {x : Str} : PyData.strOk x = true ↔ Sg x := by
  unfold PyData.strOk Sg
  rw [Array.all_eq_true']
  simp
theorem sg_app {a b : Str} (ha : Sg a) (hb : Sg b) : Sg (a ++ b) := fun c hc => by
  have e : (a ++ b).cps.toList = a.cps.toList ++ b.cps.toList := by show (a.cps ++ b.cps).toList = _; simp
  rw [e] at hc
  exact (List.mem_append.mp hc).elim (ha c) (hb c)
theorem chr_lt (c : Char) : c.toNat < 0x110000 := by
  have := c.valid
  rcases this with h | h
  · have : c.toNat < 0xd800 := h
    omega
  · exact h.2
theorem sg_lit (s : String) : Sg (Str.ofString s) := fun c hc => by
  have e : (Str.ofString s).cps.toList = s.toList.map Char.toNat := by
    unfold Str.ofString
    simp [cpsOfBytes_string]
  rw [e] at hc
  obtain ⟨z, _, rfl⟩ := List.mem_map.mp hc
  exact chr_lt z
theorem sg_join : ∀ (ts : List Str), (∀ t ∈ ts, Sg t) → Sg (Str.join ", " ts)
  | [], _ => fun c hc => absurd hc (by show c ∉ ([] : List Nat); simp)
  | [x], h => h x List.mem_cons_self
  | x :: y :: r, h => sg_app (sg_app (h x List.mem_cons_self) (sg_lit ", ")) (sg_join (y :: r) fun t ht => h t (List.mem_cons_of_mem _ ht))
theorem sg_from : ∀ (ts : List Str) (k : Nat) (acc : Str), Sg acc → (∀ t ∈ ts, Sg t) → Sg (textFrom k acc ts)
  | [], _, _, ha, _ => ha
  | t :: ts, k, acc, ha, h => by
    unfold textFrom
    refine sg_from ts (k + 1) _ (sg_app (sg_app ha ?_) (h t List.mem_cons_self)) fun x hx => h x (List.mem_cons_of_mem _ hx)
    exact sg_lit _
theorem sg_char {q c : Nat} (hq : q < 0x110000) (hc : c < 0x110000) : ∀ z ∈ Builtin.Str.reprChar q c, z < 0x110000 := by
  intro z hz
  have hex : ∀ n, ∀ z ∈ (List.replicate (n - ((Nat.toDigits 16 c).map Char.toNat).length) 48 ++ (Nat.toDigits 16 c).map Char.toNat), z < 0x110000 := fun n z hz => by
    rcases List.mem_append.mp hz with h | h
    · rw [(List.mem_replicate.mp h).2]; decide
    · obtain ⟨x, _, rfl⟩ := List.mem_map.mp h
      exact chr_lt x
  unfold Builtin.Str.reprChar at hz
  dsimp only at hz
  split at hz
  · simp only [List.mem_cons, List.not_mem_nil, or_false] at hz
    rcases hz with rfl | rfl
    · decide
    · exact hc
  split at hz
  · simp only [List.mem_cons, List.not_mem_nil, or_false] at hz
    rcases hz with rfl | rfl <;> decide
  split at hz
  · simp only [List.mem_cons, List.not_mem_nil, or_false] at hz
    rcases hz with rfl | rfl <;> decide
  split at hz
  · simp only [List.mem_cons, List.not_mem_nil, or_false] at hz
    rcases hz with rfl | rfl <;> decide
  split at hz
  · rw [List.mem_singleton.mp hz]; exact hc
  split at hz
  · rcases List.mem_append.mp hz with h | h
    · simp only [List.mem_cons, List.not_mem_nil, or_false] at h
      rcases h with rfl | rfl <;> decide
    · exact hex 2 z h
  split at hz
  · rcases List.mem_append.mp hz with h | h
    · simp only [List.mem_cons, List.not_mem_nil, or_false] at h
      rcases h with rfl | rfl <;> decide
    · exact hex 4 z h
  · rcases List.mem_append.mp hz with h | h
    · simp only [List.mem_cons, List.not_mem_nil, or_false] at h
      rcases h with rfl | rfl <;> decide
    · exact hex 8 z h
theorem sg_fold {q : Nat} (hq : q < 0x110000) : ∀ (l : List Nat) (acc : Array Nat), (∀ c ∈ l, c < 0x110000) → (∀ c ∈ acc.toList, c < 0x110000) → ∀ c ∈ (l.foldl (fun out c => out ++ (Builtin.Str.reprChar q c).toArray) acc).toList, c < 0x110000
  | [], _, _, ha => ha
  | x :: l, acc, hl, ha => by
    rw [List.foldl_cons]
    refine sg_fold hq l _ (fun c hc => hl c (List.mem_cons_of_mem _ hc)) fun c hc => ?_
    rw [Array.toList_append] at hc
    rcases List.mem_append.mp hc with h | h
    · exact ha c h
    · exact sg_char hq (hl x List.mem_cons_self) c h
theorem sg_repr {x : Str} (h : Sg x) : Sg (reprText x) := by
  have hq : reprQuote x < 0x110000 := by unfold reprQuote; split <;> decide
  intro c hc
  unfold reprText at hc
  rw [Array.toList_push, ← Array.foldl_toList] at hc
  rcases List.mem_append.mp hc with hc | hc
  · exact sg_fold hq _ _ h (fun c hc => by simp at hc; rw [hc]; exact hq) c hc
  · rw [List.mem_singleton.mp hc]; exact hq
mutual
/-- every text in it is of signs -/
def sgD : PyData → Bool
  | .none => true
  | .bool _ => true
  | .int _ => true
  | .str x => PyData.strOk x
  | .list xs => sgDs xs
  | .tuple xs => sgDs xs
  | .dict kvs => sgDk kvs
def sgDs : List PyData → Bool
  | [] => true
  | x :: xs => sgD x && sgDs xs
def sgDk : List (PyData × PyData) → Bool
  | [] => true
  | (k, v) :: r => sgD k && sgD v && sgDk r
end
mutual
theorem sg_shown : ∀ d : PyData, sgD d = true → Sg d.shown
  | .none, _ => by rw [PyData.shown]; exact sg_lit "None"
  | .bool b, _ => by rw [PyData.shown]; cases b <;> exact sg_lit _
  | .int i, _ => by rw [PyData.shown]; exact sg_lit _
  | .str x, h => by
    rw [sgD] at h
    rw [PyData.shown]
    exact sg_repr (sg_ok.mp h)
  | .list xs, h => by
    rw [sgD] at h
    rw [PyData.shown]
    exact sg_app (sg_from _ 0 _ (sg_lit "[") (sg_shownAll xs h)) (sg_lit "]")
  | .tuple xs, h => by
    rw [sgD] at h
    rw [PyData.shown]
    exact sg_app (sg_app (sg_lit "(") (sg_join _ (sg_shownAll xs h))) (sg_lit _)
  | .dict kvs, h => by
    rw [sgD] at h
    rw [PyData.shown]
    exact sg_app (sg_app (sg_lit "{") (sg_join _ (sg_shownKv kvs h))) (sg_lit "}")
theorem sg_shownAll : ∀ xs : List PyData, sgDs xs = true → ∀ t ∈ PyData.shownAll xs, Sg t
  | [], _, t, ht => by rw [PyData.shownAll] at ht; cases ht
  | x :: xs, h, t, ht => by
    rw [sgDs, Bool.and_eq_true] at h
    rw [PyData.shownAll] at ht
    rcases List.mem_cons.mp ht with rfl | ht
    · exact sg_shown x h.1
    · exact sg_shownAll xs h.2 t ht
theorem sg_shownKv : ∀ kvs : List (PyData × PyData), sgDk kvs = true → ∀ t ∈ PyData.shownKv kvs, Sg t
  | [], _, t, ht => by rw [PyData.shownKv] at ht; cases ht
  | (k, v) :: r, h, t, ht => by
    rw [sgDk, Bool.and_eq_true, Bool.and_eq_true] at h
    rw [PyData.shownKv] at ht
    rcases List.mem_cons.mp ht with rfl | ht
    · exact sg_app (sg_app (sg_shown k h.1.1) (sg_lit ": ")) (sg_shown v h.1.2)
    · exact sg_shownKv r h.2 t ht
end
end DL
namespace DL
open PySem PySem.Spec PyProof.Rows L2
section
variable {C : DL.Ctx} {L : Lp} {Q : D → Lp → Prop} {d : D}
theorem okE_ty {K : PySem.W.Frag} (h : okE d = true) : TyL K L d (.type (tyD d)) := by
  cases d with
  | non => exact .non
  | bl b => exact .bl b
  | int i => exact .int i
  | str x => exact .str x
  | tup ds => exact .tup ds
  | flst ds => exact .flst ds
  | kdct kds => exact .kdct kds
  | _ => simp [okE] at h
theorem okE_isi {T : String} {k : Bool} (h : okE d = true) (hk : kitB (tyD d) T = some k) (q : Q (.bl k) L) : LcR C (rIsiA C) [d, .ty T] L Q := isa_B (okE_ty h) (kit_ty hk) q
theorem kitE_str (h : okE d = true) : kitB (tyD d) "str" = some (match d with | .str _ => true | _ => false) := by
  cases d with
  | non => exact (by decide +kernel : kitB "NoneType" "str" = some false)
  | bl b => exact (by decide +kernel : kitB "bool" "str" = some false)
  | int i => exact (by decide +kernel : kitB "int" "str" = some false)
  | str x => exact (by decide +kernel : kitB "str" "str" = some true)
  | tup ds => exact (by decide +kernel : kitB "tuple" "str" = some false)
  | flst ds => exact (by decide +kernel : kitB "list" "str" = some false)
  | kdct ds => exact (by decide +kernel : kitB "dict" "str" = some false)
  | _ => simp [okE] at h
theorem kitE_tup (h : okE d = true) : kitB (tyD d) "tuple" = some (match d with | .tup _ => true | _ => false) := by
  cases d with
  | non => exact (by decide +kernel : kitB "NoneType" "tuple" = some false)
  | bl b => exact (by decide +kernel : kitB "bool" "tuple" = some false)
  | int i => exact (by decide +kernel : kitB "int" "tuple" = some false)
  | str x => exact (by decide +kernel : kitB "str" "tuple" = some false)
  | tup ds => exact (by decide +kernel : kitB "tuple" "tuple" = some true)
  | flst ds => exact (by decide +kernel : kitB "list" "tuple" = some false)
  | kdct ds => exact (by decide +kernel : kitB "dict" "tuple" = some false)
  | _ => simp [okE] at h
theorem okEs_get {ds : List D} (h : okEs ds = true) {i : Nat} {d : D} (hd : ds[i]? = some d) : okE d = true := okEs_mem h d (List.mem_of_getElem? hd)
theorem okE_dW (ws : List Wd) : okE (dW ws) = true := okE_okD _ (okD_dW ws)
theorem okE_dC (cs : List Cell) : okE (dC cs) = true := okE_okD _ (okD_dC cs)
theorem okE_dR (rs : Rl) : okE (dR rs) = true := okE_okD _ (okD_dR rs)
end
end DL
namespace DL
open PySem PySem.Spec PyProof.Rows L2
/-! ### small data: plain signs, small numbers -/
def asc (x : Str) : Bool := x.cps.toList.all fun c => decide (c < 128)
def smI (i : Int) : Bool := decide (-999999999999 ≤ i) && decide (i ≤ 999999999999)
def smK : Key → Bool
  | .inl i => smI i
  | .inr x => asc x
mutual
def shw : D → Bool
  | .non => true
  | .bl _ => true
  | .int i => smI i
  | .str x => asc x
  | .tup ds => shws ds
  | .flst ds => shws ds
  | .kdct kds => shwk kds
  | .ty _ => false
  | .ptr _ => false
  | .ilst _ => false
  | .obj _ _ => false
  | .fdct _ => false
  | .wds _ => false
def shws : List D → Bool
  | [] => true
  | d :: ds => shw d && shws ds
def shwk : List (Key × D) → Bool
  | [] => true
  | (k, d) :: r => smK k && shw d && shwk r
end
structure ShP (d : PyData) : Prop where
  lf : d.leavesShort 13 = true
  sg : sgD d = true
  sh : d.showable = true
theorem shp_int {i : Int} (h : smI i = true) : ShP (.int i) := by
  unfold smI at h
  rw [Bool.and_eq_true] at h
  have h1 := of_decide_eq_true h.1
  have h2 := of_decide_eq_true h.2
  refine ⟨?_, by rw [sgD], ?_⟩
  · rw [PyData.leavesShort]
    exact decide_eq_true (PyData.shown_int_le2 h1 h2)
  · rw [PyData.showable]
    refine decide_eq_true ?_
    have h3 : i.natAbs < 2 ^ 40 := by
      have : (2 : Nat) ^ 40 = 1099511627776 := by decide
      omega
    by_cases hz : i.natAbs = 0
    · rw [hz]; decide
    · have := (Nat.log2_lt hz).mpr h3
      omega
theorem shp_str {x : Str} (h : asc x = true) : ShP (.str x) := by
  unfold asc at h
  have h1 := List.all_eq_true.mp h
  refine ⟨?_, ?_, by rw [PyData.showable]⟩
  · rw [PyData.leavesShort]
    exact List.all_eq_true.mpr fun c hc => decide_eq_true (Nat.lt_trans (of_decide_eq_true (h1 c hc)) (by decide))
  · rw [sgD]
    exact sg_ok.mpr fun c hc => by have := of_decide_eq_true (h1 c hc); omega
mutual
theorem shw_ok : ∀ d : D, shw d = true → okE d = true ∧ ShP (pyE d)
  | .non, _ => by rw [okE, pyE]; exact ⟨rfl, by rw [PyData.leavesShort], by rw [sgD], by rw [PyData.showable]⟩
  | .bl b, _ => by rw [okE, pyE]; exact ⟨rfl, by rw [PyData.leavesShort], by rw [sgD], by rw [PyData.showable]⟩
  | .int i, h => by rw [shw] at h; rw [okE, pyE]; exact ⟨rfl, shp_int h⟩
  | .str x, h => by rw [shw] at h; rw [okE, pyE]; exact ⟨rfl, shp_str h⟩
  | .tup ds, h => by
    rw [shw] at h
    obtain ⟨h1, h2, h3, h4⟩ := shws_ok ds h
    rw [okE, pyE]
    exact ⟨h1, by rw [PyData.leavesShort]; exact h2, by rw [sgD]; exact h3, by rw [PyData.showable]; exact h4⟩
  | .flst ds, h => by
    rw [shw] at h
    obtain ⟨h1, h2, h3, h4⟩ := shws_ok ds h
    rw [okE, pyE]
    exact ⟨h1, by rw [PyData.leavesShort]; exact h2, by rw [sgD]; exact h3, by rw [PyData.showable]; exact h4⟩
  | .kdct kds, h => by
    rw [shw] at h
    obtain ⟨h1, h2, h3, h4⟩ := shwk_ok kds h
    rw [okE, pyE]
    exact ⟨h1, by rw [PyData.leavesShort]; exact h2, by rw [sgD]; exact h3, by rw [PyData.showable]; exact h4⟩
  | .ty _, h => by simp [shw] at h
  | .ptr _, h => by simp [shw] at h
  | .ilst _, h => by simp [shw] at h
  | .obj _ _, h => by simp [shw] at h
  | .fdct _, h => by simp [shw] at h
  | .wds _, h => by simp [shw] at h
theorem shws_ok : ∀ ds : List D, shws ds = true → okEs ds = true ∧ PyData.leavesShortAll 13 (pyEs ds) = true ∧ sgDs (pyEs ds) = true ∧ PyData.showableAll (pyEs ds) = true
  | [], _ => by rw [okEs, pyEs, PyData.leavesShortAll, sgDs, PyData.showableAll]; exact ⟨rfl, rfl, rfl, rfl⟩
  | d :: ds, h => by
    rw [shws, Bool.and_eq_true] at h
    obtain ⟨a0, a1, a2, a3⟩ := shw_ok d h.1
    obtain ⟨b0, b1, b2, b3⟩ := shws_ok ds h.2
    rw [okEs, pyEs, PyData.leavesShortAll, sgDs, PyData.showableAll, a0, a1, a2, a3, b0, b1, b2, b3]
    exact ⟨rfl, rfl, rfl, rfl⟩
theorem shwk_ok : ∀ kds : List (Key × D), shwk kds = true → okEk kds = true ∧ PyData.leavesShortKv 13 (pyEk kds) = true ∧ sgDk (pyEk kds) = true ∧ PyData.showableKv (pyEk kds) = true
  | [], _ => by rw [okEk, pyEk, PyData.leavesShortKv, sgDk, PyData.showableKv]; exact ⟨rfl, rfl, rfl, rfl⟩
  | (k, d) :: r, h => by
    rw [shwk, Bool.and_eq_true, Bool.and_eq_true] at h
    obtain ⟨a0, a1, a2, a3⟩ := shw_ok d h.1.2
    obtain ⟨b0, b1, b2, b3⟩ := shwk_ok r h.2
    have hk : ShP (keyPy k) := by
      have hh := h.1.1
      cases k with
      | inl i => exact shp_int hh
      | inr x => exact shp_str hh
    obtain ⟨c1, c2, c3⟩ := hk
    rw [okEk, pyEk, PyData.leavesShortKv, sgDk, PyData.showableKv, a0, a1, a2, a3, b0, b1, b2, b3, c1, c2, c3]
    exact ⟨rfl, rfl, rfl, rfl⟩
end
/-- small, m levels at most, n signs and items at most -/
structure Vd (m n : Nat) (d : D) : Prop where
  sh : shw d = true
  dp : (pyE d).depth ≤ m
  bk : (pyE d).bulk ≤ n
theorem Vd.mono {m n m' n' : Nat} {d : D} (h : Vd m n d) (hm : m ≤ m') (hn : n ≤ n') : Vd m' n' d := ⟨h.sh, Nat.le_trans h.dp hm, Nat.le_trans h.bk hn⟩
theorem Vd.ok {m n : Nat} {d : D} (h : Vd m n d) : okE d = true := (shw_ok d h.sh).1
section
variable {C : DL.Ctx} {L : Lp} {Q : D → Lp → Prop}
/-- repr of a small tuple -/
theorem c_reprV {ds : List D} {m n : Nat} (h : Vd m n (.tup ds)) (hm : m ≤ 60) (hn : n ≤ 2 ^ 20) (hu : C.X.A.units + 64 < cLine) (q : Q (.str (pyE (.tup ds)).shown) L) : LcR C (rRepr C.X) [.tup ds] L Q := by
  obtain ⟨h1, h2, h3, h4⟩ := shw_ok _ h.sh
  have hz : (pyE (.tup ds)).shown.length ≤ sizeLine := PyData.shown_fits_bulk (B := 13) (by decide) (by decide) h2 (Nat.le_trans h.bk hn)
  rw [okE] at h1
  exact c_repr h1 h4 hu (Nat.le_trans h.dp hm) hz ⟨hz, sg_ok.mpr (sg_shown _ h3)⟩ q
end
end DL
namespace DL
open PySem PySem.Spec PyProof.Rows L2
/-- {text: number} -/
def tDict1 (x : Str) (i : Int) : TE := fun _ H Q => ∀ p, H p = none → Q (.ref p) (upd H p (.dK [(.inr x, .int i)]))
theorem pe_dict1 {X : Cx} {x : Str} {i : Int} {j1 j2 : Nat} {p1 p2 pos : Pos} : PE X (.Dict [some (.Constant (.str x) j1 p1)] [.Constant (.int i) j2 p2] pos) (tDict1 x i) := by
  refine ⟨fun pins s σ H Q I h => ?_⟩
  have hn : H s.heap.objs.size = none := I.hok.fresh (Nat.le_refl _)
  have I1 : Inv X pins σ (upd H s.heap.objs.size (.dK [])) { s with heap := s.heap.push { cls := .type "dict", data := .dict #[] } } := I.laid (a := s.heap.objs.size) (o := .dK []) (t' := s.toks) (fun _ _ q => Heap.get?_push_of_some _ q) (Nat.le_refl _) (dk_empty s.heap I.big)
  refine wpAny_Dict_pairs (knd := mixKind X.prog X.w) (pairs := [(eval (.Constant (.str x) j1 p1) X.env, do let v ← eval (.Constant (.int i) j2 p2) X.env; standAt pos; pure v)]) rfl (by simp) (by show 1 ≤ 15; decide) ?_
  have hne : ∀ {b : Addr} {o : HO}, H b = some o → b ≠ s.heap.objs.size := fun hb e => by rw [e, hn] at hb; cases hb
  refine evalPairs_cons (thn (pe_str.run pins _ σ _ (fun v G => v = V.str x ∧ G = upd H s.heap.objs.size (.dK [])) I1 ⟨rfl, rfl⟩) fun u1 s1 ⟨v1, G1, J1, r1, e1, e2⟩ => ?_)
  subst e1 e2
  refine wpAny_bind (thn (pe_int.run pins _ σ _ (fun v G => v = V.int i ∧ G = upd H s.heap.objs.size (.dK [])) J1 ⟨rfl, rfl⟩) fun u2 s2 ⟨v2, G2, J2, r2, e1, e2⟩ => ?_)
  subst e1 e2
  refine wpAny_bind (wpAny_standAt (wpAny_pure (evalPairs_nil ?_)))
  obtain ⟨t1, rfl⟩ := r1
  obtain ⟨t2, rfl⟩ := r2
  obtain ⟨_, _, vs0, kv0, d0⟩ : ([] : List (Key × V)).length ≤ sizeLine ∧ (s.heap.objs.size == sysModules) = false ∧ ∃ vs, KV ([] : List (Key × V)) vs ∧ s2.heap.DictOf (mixKind X.prog X.w) s.heap.objs.size vs := J2.hok _ _ upd_same
  cases kv0
  refine ⟨[(.inr x, .int i t2)], ?_, d0, fun h' d1 sb => ⟨.ref s.heap.objs.size, _, ?_, rfl, h _ hn⟩⟩
  · exact ⟨Froz.is_str (P := X.prog) (w := X.w) x t1, rfl, trivial⟩
  · have e : upd (upd H s.heap.objs.size (.dK [])) s.heap.objs.size (.dK [(.inr x, .int i)]) = upd H s.heap.objs.size (.dK [(.inr x, .int i)]) := by
      funext b
      by_cases z : b = s.heap.objs.size
      · rw [z, upd_same, upd_same]
      · rw [upd_ne z, upd_ne z, upd_ne z]
    rw [← e]
    have hx : ∃ u, h'.get? s.heap.objs.size = some u := let ⟨o, _, _, ho, _⟩ := d1; ⟨o, ho⟩
    exact J2.write (e := s.heap.objs.size) (t' := s2.toks + 1) (by rw [upd_same]; trivial) (.inl rfl) (fun b u hb hu => (sb.2 b hb).trans hu) hx ⟨by show 1 ≤ sizeLine; decide, by assumption, [(.inr x, .int i t2)], .cons ⟨rfl, t2, rfl⟩ .nil, d1⟩
section
variable {C : DL.Ctx} {Γ : Gm} {L : Lp} {Q : D → Lp → Prop} {pos : Pos}
theorem frz_kd {a : Addr} {kds : List (Key × D)} (ha : L a = some (.kd kds)) : Frz C L (.ptr a) (DL.del L a) (.kdct kds) := fun pins σ s F H v I c r => by
  obtain ⟨kvs, e, rr⟩ := c.at_ a _ ha
  obtain ⟨od, I1⟩ := I.lock e True.intro
  have nfa := c.nw ha
  have ne : ∀ b u, H b = some u → (∀ k, u ≠ .dK k) → b ≠ a := fun b u eb nd q => by rw [q, e] at eb; exact nd _ (Option.some.inj eb).symm
  have st : Stay H (upd H a (.frz od (.dK kvs))) := ⟨fun b vs eb => by rw [upd_ne (ne b _ eb fun _ z => nomatch z)]; exact eb, fun b o xs eb => by rw [upd_ne (ne b _ eb fun _ z => nomatch z)]; exact eb, fun b eb => by rw [upd_ne (ne b _ eb fun _ z => nomatch z)]; exact eb⟩
  have mv : Mv F H (fun b => F b ∨ b = a) (upd H a (.frz od (.dK kvs))) := ⟨st, fun b z => .inl z, fun b o z eb => by
    have hb : b ≠ a := fun q => nfa (q ▸ z)
    rw [upd_ne hb]; exact eb⟩
  have key : ∀ {kvs : List (Key × V)} {kds : List (Key × D)}, Paired (fun (p : Key × V) (q : Key × D) => p.1 = q.1 ∧ Rep C.X.K F H p.2 q.2) kvs kds → ∀ (i : Nat) (v : Key × V) (d : Key × D), kvs[i]? = some v → kds[i]? = some d → v.1 = d.1 ∧ Rep C.X.K F H v.2 d.2 := by
    intro kvs kds h
    induction h with
    | nil => intro i v d h1 _; simp at h1
    | cons h1 h2 ih =>
      intro i v d e1 e2
      cases i with
      | zero => simp at e1 e2; subst e1 e2; exact h1
      | succ i => exact ih i v d (by simpa using e1) (by simpa using e2)
  refine ⟨_, _, I1, ?_, ⟨fun b u eb => ?_, fun b zz => ?_⟩, ⟨fun b u eb _ nb => ?_, fun b zz => upd_live zz, st, fun b zz => .inl ((del_le a).ne zz), mv.fz, mv.fk, fun b zz => ?_⟩⟩
  · rw [r.ptrE]
    exact .kdct (.inr rfl) upd_same (Paired.length rr) (fun i v d h1 h2 => (key rr i v d h1 h2).1) fun i v d h1 h2 => (key rr i v d h1 h2).2.mono mv
  · have hb : b ≠ a := fun q => by rw [q, DL.del_same] at eb; cases eb
    exact (c.at_ b u (del_le a b u eb)).mono mv (upd_ne hb)
  · rcases zz with zz | zz
    · have hb : b ≠ a := fun q => nfa (q ▸ zz)
      obtain ⟨n, o, eo, k1, k2⟩ := c.fz b zz
      exact ⟨(del_le a).none n, o, by rw [upd_ne hb]; exact eo, k1, k2⟩
    · rw [zz]
      exact ⟨DL.del_same, _, upd_same, (fun _ z => nomatch z), (fun z => nomatch z)⟩
  · have hb : b ≠ a := fun q => by rw [q, ha] at nb; cases nb
    rw [upd_ne hb]; exact eb
  · rcases zz with zz | zz
    · exact .inl zz
    · rw [zz, ha]
      exact .inr (.inl (by simp))
theorem ae_kd0 (q : Q (.kdct []) L) : AE C (.Dict [] [] pos) Γ L Q := AE.frz fun F σ H ok QV go =>
  we_of pe_dnewK fun p hp => go _ _ _ (put L p (.kd [])) (.ptr p) (ok.con.newL hp ⟨[], upd_same, .nil⟩) (.newL hp) ⟨.kdct [], L, by
    have z := frz_kd (C := C) (put_same (L := L) (a := p) (o := .kd []))
    rwa [DL.del_put (ok.con.free hp)] at z, q⟩
theorem ae_kd1 {x : Str} {i : Int} {j1 j2 : Nat} {p1 p2 : Pos} (q : Q (.kdct [(.inr x, .int i)]) L) : AE C (.Dict [some (.Constant (.str x) j1 p1)] [.Constant (.int i) j2 p2] pos) Γ L Q := AE.frz fun F σ H ok QV go =>
  we_of pe_dict1 fun p hp => go _ _ _ (put L p (.kd [(.inr x, .int i)])) (.ptr p) (ok.con.newL hp ⟨_, upd_same, .cons ⟨rfl, .int i⟩ .nil⟩) (.newL hp) ⟨.kdct [(.inr x, .int i)], L, by
    have z := frz_kd (C := C) (put_same (L := L) (a := p) (o := .kd [(.inr x, .int i)]))
    rwa [DL.del_put (ok.con.free hp)] at z, q⟩
end
end DL
namespace DL
open PySem PySem.Spec PyProof.Rows L2
section
variable {C : DL.Ctx} {Γ : Gm} {L : Lp} {Q : D → Lp → Prop} {e o : Expr} {pos apos p p2 pos2 : Pos}
theorem Reps.rev {K : PySem.W.Frag} {F : Fz} {H : Hp} : ∀ {xs : List V} {ys : List D}, Reps K F H xs ys → Reps K F H xs.reverse ys.reverse
  | _, _, .nil => .nil
  | _, _, .cons h1 h2 => by rw [List.reverse_cons, List.reverse_cons]; exact Reps.append (Reps.rev h2) (.cons h1 .nil)
/-- a tuple != () -/
theorem j_neT0 {ds : List D} (hu : C.X.A.units < cLine) (q : Q (.bl (!ds.isEmpty)) L) : OpJ C (.cmp .NotEq) Γ (.tup ds) (.tup []) L Q := ⟨fun Z σ H ok vx vy rx ry QV go pins s v u I r1 r2 => by
  obtain ⟨a, vs, rfl, ha, ra⟩ := rx.tupE
  obtain ⟨b, ws, rfl, hb, rb⟩ := ry.tupE
  cases (show v = Value.ref a from r1)
  cases (show u = Value.ref b from r2)
  cases rb
  obtain ⟨its, rv, t1, _⟩ := I.tuple (SqT.of ha)
  obtain ⟨its2, rv2, t2, _⟩ := I.tuple (SqT.of hb)
  cases rv2
  have hl : its.length = ds.length := by rw [← rv.length, ra.length]
  refine SeqAt.RcNeAt.tuples (e := fun _ => true) t1 t2 hu (fun j h1 h2 => absurd h2 (by simp)) _ _ _ _ ⟨.bl (!ds.isEmpty), H, I, ?_, go _ _ H L (.bl _) ok.con (.refl L H) q⟩
  show Value.bool _ = Value.bool _
  congr 1
  simp
  cases ds with
  | nil => simp at hl; simp [hl]
  | cons d ds => cases its with
    | nil => simp at hl
    | cons => simp⟩
/-- tuple(reversed(list)) -/
theorem ae_tupRev (hm : C.X.mg "tuple" = none) (hm2 : C.X.mg "reversed" = none) (h : AL C e Γ L fun ds L1 => Q (.tup ds.reverse) L1) (hg : Gl C.X "tuple" := by rfl) (hg2 : Gl C.X "reversed" := by rfl) (hs : starEach [e] C.X.env = (false, eval e C.X.env) :: starEach [] C.X.env := by rfl) :
    AE C (.Call (.Name "tuple" p) [.Call (.Name "reversed" p2) [e] [] pos2] [] pos) Γ L Q := fun F σ H ok QV go =>
  we_of (RT.pe_tupRev C.calm hg hm hg2 hm2 pe_we hs) (h.elim _ σ H ok _ fun v d H1 L1 r c f ⟨L2, q, ds, ed, hq, eL, hz, qq⟩ => by
    subst ed eL
    obtain ⟨vs, ha, ra, hz2⟩ := c.at_ q _ put_same
    refine ⟨q, vs, r.ptrE, SqL.of ha, fun t ht => ?_⟩
    have c2 := c.le (le_put hq)
    exact go _ _ _ L2 (Rep.tupI upd_same (ra.rev.mono (.new ht)) (by rw [List.length_reverse]; exact hz)) (c2.new ht) ((f.leR (le_put hq)).trans (.new ht)) qq)
/-- tuple * n -/
theorem mul_T {ds : List D} {k : Int} (h2 : 2 ≤ k) (h3 : k ≤ 1000) (hn : ds ≠ []) (hz : ds.length ≤ 1000) (q : Q (.tup (List.replicate k.toNat ds).flatten) L) : L2R C (rRepT C.X.K) (.tup ds) (.int k) L Q := fun F vx vy H c rx ry QV go => by
  obtain ⟨a, vs, rfl, ha, ra⟩ := rx.tupE
  rw [ry.intE]
  have hl := ra.length
  refine ⟨a, k, vs, rfl, rfl, SqT.of ha, fun z => hn (by rw [z] at hl; exact List.length_eq_zero_iff.mp hl.symm), h2, h3, by omega, fun t ht => ?_⟩
  have rr : ∀ n, Reps C.X.K F H (List.replicate n vs).flatten (List.replicate n ds).flatten := fun n => by
    induction n with
    | zero => exact .nil
    | succ n ih => rw [List.replicate_succ, List.replicate_succ, List.flatten_cons, List.flatten_cons]; exact ra.append ih
  have hz3 : (List.replicate k.toNat ds).flatten.length ≤ sizeLine := by
    rw [List.length_flatten, List.map_replicate, List.sum_replicate_nat, sl_eq]
    have : k.toNat * ds.length ≤ 1000 * 1000 := Nat.mul_le_mul (by omega) hz
    omega
  exact go _ _ _ L (Rep.tupI upd_same ((rr k.toNat).mono (.new ht)) hz3) (c.new ht) (.new ht) q
theorem j_mulT {ds : List D} {k : Int} (h2 : 2 ≤ k) (h3 : k ≤ 1000) (hn : ds ≠ []) (hz : ds.length ≤ 1000) (q : Q (.tup (List.replicate k.toNat ds).flatten) L) : OpJ C (.bin .Mult) Γ (.tup ds) (.int k) L Q := OpJ.of (t := .bin .Mult) op_repT (mul_T h2 h3 hn hz q)
/-- x.upper(), plain signs -/
theorem ae_upper (h : AE C o Γ L fun d L1 => ∃ x, d = .str x ∧ asc x = true ∧ x.length ≤ 1000000 ∧ ∀ y : Str, asc y = true → y.length = x.length → Q (.str y) L1) (hbase : attributeBase o "upper" C.X.env (eval o C.X.env) = eval o C.X.env := by rfl) (hline : (apos.endLine == pos.line) = true := by rfl) :
    AE C (.Call (.Attribute o "upper" apos) [] [] pos) Γ L Q := fun F σ H ok QV go =>
  we_of (pe_upper pe_we hbase hline) (h _ σ H ok _ fun v d H1 L1 r c f ⟨x, ed, hx, hl, q⟩ => by
    subst ed
    rw [r.strE]
    refine ⟨⟨x, rfl⟩, x, rfl, rfl, by omega, ?_⟩
    have h1 : ∀ c ∈ x.cps.toList, c < 128 := fun c hc => of_decide_eq_true (List.all_eq_true.mp hx c hc)
    have e := upper_ascii (x := x) h1
    have hc : (Txt.upper x).cps.toList = x.cps.toList.map up1 := by rw [e]; simp
    have ha : asc (Txt.upper x) = true := by
      unfold asc
      rw [hc]
      refine List.all_eq_true.mpr fun z hz => decide_eq_true ?_
      obtain ⟨c, h2, rfl⟩ := List.mem_map.mp hz
      have := h1 c h2
      unfold up1
      split <;> omega
    have hl2 : (Txt.upper x).length = x.length := by
      have := congrArg List.length hc
      simp at this
      exact this
    have so : SOk (Txt.upper x) := ⟨by rw [hl2, sl_eq]; omega, sg_ok.mpr fun c hc => by have := of_decide_eq_true (List.all_eq_true.mp ha c hc); omega⟩
    exact go _ _ H1 L1 (.str _ so) c f (q _ ha hl2))
end
end DL
namespace DL
open PySem PySem.Spec PyProof.Rows L2
theorem tuple_mul0 (l : Addr) (n : Nat) (dd : Option Addr) (sl : Array (Option Value)) (x : Int) (u : Tok) (c0 : (decide (x < -(2 ^ 63)) || decide (x ≥ 2 ^ 63)) = false) :
    Meets (Builtin.«tuple.__mul__» ⟨[.ref l, .int x u], []⟩) (fun _ R s => s.heap.get? l = some { cls := .type "tuple", dict := dd, data := .seq #[] n, slots := sl } ∧ R (.ok (.ret (Value.ref l))) s) :=
  .of_wp fun prog w A R s h => by
    obtain ⟨hp, g, d, tk, os⟩ := s
    obtain ⟨hl, h⟩ := h
    have f1 := AutoSeq1.idx_int
    wp_walk using wpAny_loadPart' hl
    refine wpAny_ite_false (decide_eq_false (by rw [c0]; exact Bool.false_ne_true)) ?_
    wp_walk using wpAny_loadPart' hl
    exact ⟨_, rfl, h⟩
/-- () * n -/
def rRep0 (K : PySem.W.Frag) : R2 := fun x y H Q => ∃ l k, x = .ref l ∧ y = .int k ∧ SqT K H l [] ∧ 2 ≤ k ∧ k ≤ 1000 ∧ Q (.ref l) H
theorem op_rep0 {X : Cx} : OpR X (binaryOp .Mult) (rRep0 X.K) := by
  intro pins s σ H x y v u Q I rx ry h
  obtain ⟨l, k, rfl, rfl, hT, h1, h2, q⟩ := h
  cases rx
  obtain ⟨t, rfl⟩ := ry
  obtain ⟨its, r, ⟨⟨cls, dd, data, sl⟩, ho, hc, n, hd⟩, hs⟩ := I.tuple hT
  cases r
  simp only at hc hd
  subst hc hd
  have c0 : (decide (k < -(2 ^ 63)) || decide (k ≥ 2 ^ 63)) = false := by
    rw [decide_eq_false (by omega), decide_eq_false (by omega)] <;> rfl
  exact wpAny_binaryOp_repeat_ref (T := "tuple") (U := "int") (by decide) ⟨_, ho, rfl⟩ (fun s' => typeIs_int s' k t) noFill_tuple_mul F.fills_int_mul F.slot_int_rmul repeat_tuple F.slot_int_index.lookup
    (call_meets F.slot_int_rmul (typeIs_int s k t) F.entry_int_rmul (F.args_int_rmul_2 _ _) (int_rmul_tuple k t l #[] n dd sl)
      ⟨ho, rfl, ⟨_, ho, rfl⟩, call_meets F.slot_tuple_mul ⟨_, ho, rfl⟩ F.entry_tuple_mul (F.args_tuple_mul_2 _ _) (tuple_mul0 l n dd sl k t c0) ⟨ho, .ref l, H, I, rfl, q⟩⟩)
section
variable {C : DL.Ctx} {Γ : Gm} {L : Lp} {Q : D → Lp → Prop}
theorem j_mulA {ds : List D} {k : Int} (h2 : 2 ≤ k) (h3 : k ≤ 1000) (hz : ds.length ≤ 1000) (q : Q (.tup (List.replicate k.toNat ds).flatten) L) : OpJ C (.bin .Mult) Γ (.tup ds) (.int k) L Q := by
  cases ds with
  | cons d ds => exact j_mulT h2 h3 (fun z => nomatch z) hz q
  | nil =>
    have e : (List.replicate k.toNat ([] : List D)).flatten = [] := by simp
    rw [e] at q
    refine OpJ.of (t := .bin .Mult) op_rep0 fun F vx vy H c rx ry QV go => ?_
    obtain ⟨a, vs, rfl, ha, ra⟩ := rx.tupE
    cases ra
    rw [ry.intE]
    exact ⟨a, k, rfl, rfl, SqT.of ha, h2, h3, go _ _ H L rx c (.refl L H) q⟩
end
end DL
namespace K
open PySem PySem.Spec PyProof.Rows L2 DL
def top (i : Nat) : Stmt := PySem.Challenge.pw_widenedwords_k24_what_may_stand_behind.main.body.getD i (.Pass ⟨0, 0, 0, 0⟩)
def inC (i j : Nat) : Stmt := match top i with | .ClassDef _ _ _ body _ _ _ _ _ _ _ => body.getD j (.Pass ⟨0, 0, 0, 0⟩) | s => s
abbrev s__wall : Stmt := top 0
abbrev s_WideError___init__ : Stmt := inC 2 0
theorem sc_WideError___init__ : FnScope ["self", "value"] ["self", "value"] (defScope s_WideError___init__) := ⟨rfl, rfl, rfl, by decide +kernel, rfl, by decide +kernel, by decide +kernel⟩
abbrev s_TooMany___init__ : Stmt := inC 7 0
abbrev s_is_integer : Stmt := top 11
theorem sc_is_integer : FnScope ["value", "least", "most"] ["value", "least", "most"] (defScope s_is_integer) := ⟨rfl, rfl, rfl, by decide +kernel, rfl, by decide +kernel, by decide +kernel⟩
abbrev s_is_word : Stmt := top 12
theorem sc_is_word : FnScope ["value", "letter"] ["value"] (defScope s_is_word) := ⟨rfl, rfl, rfl, by decide +kernel, rfl, by decide +kernel, by decide +kernel⟩
abbrev s_is_text : Stmt := top 13
theorem sc_is_text : FnScope ["value", "word"] ["value"] (defScope s_is_text) := ⟨rfl, rfl, rfl, by decide +kernel, rfl, by decide +kernel, by decide +kernel⟩
abbrev s_is_rising : Stmt := top 14
theorem sc_is_rising : FnScope ["values", "one", "other"] ["values"] (defScope s_is_rising) := ⟨rfl, rfl, rfl, by decide +kernel, rfl, by decide +kernel, by decide +kernel⟩
abbrev s_is_words : Stmt := top 15
theorem sc_is_words : FnScope ["value", "most"] ["value", "most"] (defScope s_is_words) := ⟨rfl, rfl, rfl, by decide +kernel, rfl, by decide +kernel, by decide +kernel⟩
abbrev s_next_word : Stmt := top 16
theorem sc_next_word : FnScope ["word", "start"] ["word"] (defScope s_next_word) := ⟨rfl, rfl, rfl, by decide +kernel, rfl, by decide +kernel, by decide +kernel⟩
abbrev s_fresh_word : Stmt := top 17
theorem sc_fresh_word : FnScope ["words", "found"] ["words"] (defScope s_fresh_word) := ⟨rfl, rfl, rfl, by decide +kernel, rfl, by decide +kernel, by decide +kernel⟩
abbrev s_is_row : Stmt := top 19
theorem sc_is_row : FnScope ["row", "many", "count", "goal"] ["row", "many", "count"] (defScope s_is_row) := ⟨rfl, rfl, rfl, by decide +kernel, rfl, by decide +kernel, by decide +kernel⟩
abbrev s_is_rows : Stmt := top 20
theorem sc_is_rows : FnScope ["rows", "many", "most", "row"] ["rows", "many", "most"] (defScope s_is_rows) := ⟨rfl, rfl, rfl, by decide +kernel, rfl, by decide +kernel, by decide +kernel⟩
abbrev s_column_of : Stmt := top 21
theorem sc_column_of : FnScope ["words", "word"] ["words", "word"] (defScope s_column_of) := ⟨rfl, rfl, rfl, by decide +kernel, rfl, by decide +kernel, by decide +kernel⟩
abbrev s_goal_of : Stmt := top 22
theorem sc_goal_of : FnScope ["row", "column"] ["row", "column"] (defScope s_goal_of) := ⟨rfl, rfl, rfl, by decide +kernel, rfl, by decide +kernel, by decide +kernel⟩
abbrev s_state_behind : Stmt := top 23
theorem sc_state_behind : FnScope ["words", "rows", "text", "state", "word"] ["words", "rows", "text"] (defScope s_state_behind) := ⟨rfl, rfl, rfl, by decide +kernel, rfl, by decide +kernel, by decide +kernel⟩
abbrev s_reached : Stmt := top 24
theorem sc_reached : FnScope ["columns", "rows", "first", "numbers", "order", "at", "column", "goal", "found", "state", "row"] ["columns", "rows", "first"] (defScope s_reached) := ⟨rfl, rfl, rfl, by decide +kernel, rfl, by decide +kernel, by decide +kernel⟩
abbrev s_blocks_of : Stmt := top 25
theorem sc_blocks_of : FnScope ["rows", "blocks", "count", "row", "numbers", "split", "at", "sign", "goal"] ["rows"] (defScope s_blocks_of) := ⟨rfl, rfl, rfl, by decide +kernel, rfl, by decide +kernel, by decide +kernel⟩
abbrev s_least_machine : Stmt := top 26
theorem sc_least_machine : FnScope ["words", "rows", "first", "every", "blocks", "folded", "at", "row", "goal", "telling", "column"] ["words", "rows", "first"] (defScope s_least_machine) := ⟨rfl, rfl, rfl, by decide +kernel, rfl, by decide +kernel, by decide +kernel⟩
abbrev s_is_either : Stmt := top 27
theorem sc_is_either : FnScope ["name", "one", "other"] ["name", "one", "other"] (defScope s_is_either) := ⟨rfl, rfl, rfl, by decide +kernel, rfl, by decide +kernel, by decide +kernel⟩
abbrev s_side_by_side : Stmt := top 28
theorem sc_side_by_side : FnScope ["name", "one", "other", "words", "left", "word", "right", "numbers", "pairs", "rows", "here", "there", "goals", "at", "column", "goal"] ["name", "one", "other"] (defScope s_side_by_side) := ⟨rfl, rfl, rfl, by decide +kernel, rfl, by decide +kernel, by decide +kernel⟩
abbrev s_distances : Stmt := top 29
theorem sc_distances : FnScope ["rows", "found", "row", "far", "at", "goal"] ["rows"] (defScope s_distances) := ⟨rfl, rfl, rfl, by decide +kernel, rfl, by decide +kernel, by decide +kernel⟩
abbrev s_least_text : Stmt := top 30
theorem sc_least_text : FnScope ["words", "rows", "left", "names", "found", "state", "goals", "name", "nearer", "at", "goal"] ["words", "rows"] (defScope s_least_text) := ⟨rfl, rfl, rfl, by decide +kernel, rfl, by decide +kernel, by decide +kernel⟩
abbrev s_counted : Stmt := top 31
theorem sc_counted : FnScope ["columns", "rows", "most", "found", "row", "ahead", "column"] ["columns", "rows", "most"] (defScope s_counted) := ⟨rfl, rfl, rfl, by decide +kernel, rfl, by decide +kernel, by decide +kernel⟩
abbrev s_texts_of_length : Stmt := top 32
abbrev s_settled : Stmt := top 38
theorem sc_settled : FnScope ["words", "rows", "least"] ["words", "rows"] (defScope s_settled) := ⟨rfl, rfl, rfl, by decide +kernel, rfl, by decide +kernel, by decide +kernel⟩
abbrev s_combined : Stmt := top 39
theorem sc_combined : FnScope ["name", "one", "other", "words", "rows"] ["name", "one", "other"] (defScope s_combined) := ⟨rfl, rfl, rfl, by decide +kernel, rfl, by decide +kernel, by decide +kernel⟩
abbrev s_Texts___init__ : Stmt := inC 40 1
theorem sc_Texts___init__ : FnScope ["self", "words", "rows"] ["self", "words", "rows"] (defScope s_Texts___init__) := ⟨rfl, rfl, rfl, by decide +kernel, rfl, by decide +kernel, by decide +kernel⟩
abbrev s_Texts_of : Stmt := inC 40 2
theorem sc_Texts_of : FnScope ["cls", "words", "rows", "least"] ["cls", "words", "rows"] (defScope s_Texts_of) := ⟨rfl, rfl, rfl, by decide +kernel, rfl, by decide +kernel, by decide +kernel⟩
abbrev s_Texts_only : Stmt := inC 40 3
abbrev s_Texts_every : Stmt := inC 40 4
theorem sc_Texts_every : FnScope ["cls"] ["cls"] (defScope s_Texts_every) := ⟨rfl, rfl, rfl, by decide +kernel, rfl, by decide +kernel, by decide +kernel⟩
abbrev s_Texts_words : Stmt := inC 40 5
theorem sc_Texts_words : FnScope ["self"] ["self"] (defScope s_Texts_words) := ⟨rfl, rfl, rfl, by decide +kernel, rfl, by decide +kernel, by decide +kernel⟩
abbrev s_Texts_rows : Stmt := inC 40 6
theorem sc_Texts_rows : FnScope ["self"] ["self"] (defScope s_Texts_rows) := ⟨rfl, rfl, rfl, by decide +kernel, rfl, by decide +kernel, by decide +kernel⟩
abbrev s_Texts___eq__ : Stmt := inC 40 7
theorem sc_Texts___eq__ : FnScope ["self", "other"] ["self", "other"] (defScope s_Texts___eq__) := ⟨rfl, rfl, rfl, by decide +kernel, rfl, by decide +kernel, by decide +kernel⟩
abbrev s_Texts___and__ : Stmt := inC 40 8
theorem sc_Texts___and__ : FnScope ["self", "other"] ["self", "other"] (defScope s_Texts___and__) := ⟨rfl, rfl, rfl, by decide +kernel, rfl, by decide +kernel, by decide +kernel⟩
abbrev s_Texts___or__ : Stmt := inC 40 9
theorem sc_Texts___or__ : FnScope ["self", "other"] ["self", "other"] (defScope s_Texts___or__) := ⟨rfl, rfl, rfl, by decide +kernel, rfl, by decide +kernel, by decide +kernel⟩
abbrev s_Texts___sub__ : Stmt := inC 40 10
theorem sc_Texts___sub__ : FnScope ["self", "other"] ["self", "other"] (defScope s_Texts___sub__) := ⟨rfl, rfl, rfl, by decide +kernel, rfl, by decide +kernel, by decide +kernel⟩
abbrev s_Texts___xor__ : Stmt := inC 40 11
theorem sc_Texts___xor__ : FnScope ["self", "other"] ["self", "other"] (defScope s_Texts___xor__) := ⟨rfl, rfl, rfl, by decide +kernel, rfl, by decide +kernel, by decide +kernel⟩
abbrev s_Texts___invert__ : Stmt := inC 40 12
theorem sc_Texts___invert__ : FnScope ["self", "row"] ["self"] (defScope s_Texts___invert__) := ⟨rfl, rfl, rfl, by decide +kernel, rfl, by decide +kernel, by decide +kernel⟩
abbrev s_Texts___floordiv__ : Stmt := inC 40 13
theorem sc_Texts___floordiv__ : FnScope ["self", "other", "first", "least"] ["self", "other"] (defScope s_Texts___floordiv__) := ⟨rfl, rfl, rfl, by decide +kernel, rfl, by decide +kernel, by decide +kernel⟩
abbrev s_Texts___contains__ : Stmt := inC 40 14
theorem sc_Texts___contains__ : FnScope ["self", "value"] ["self", "value"] (defScope s_Texts___contains__) := ⟨rfl, rfl, rfl, by decide +kernel, rfl, by decide +kernel, by decide +kernel⟩
abbrev s_Texts___bool__ : Stmt := inC 40 15
theorem sc_Texts___bool__ : FnScope ["self", "row"] ["self"] (defScope s_Texts___bool__) := ⟨rfl, rfl, rfl, by decide +kernel, rfl, by decide +kernel, by decide +kernel⟩
abbrev s_Texts_is_within : Stmt := inC 40 16
abbrev s_Texts_least : Stmt := inC 40 17
theorem sc_Texts_least : FnScope ["self"] ["self"] (defScope s_Texts_least) := ⟨rfl, rfl, rfl, by decide +kernel, rfl, by decide +kernel, by decide +kernel⟩
abbrev s_Texts_first_difference : Stmt := inC 40 18
abbrev s_Texts_how_many : Stmt := inC 40 19
abbrev s_Texts_each : Stmt := inC 40 20
abbrev s__law_pot : Stmt := top 42
theorem sc__law_pot : FnScope ["_law_script", "_law_k", "_law_cell", "_law_own", "_law_mixed"] ["_law_script", "_law_k"] (defScope s__law_pot) := ⟨rfl, rfl, rfl, by decide +kernel, rfl, by decide +kernel, by decide +kernel⟩
abbrev s__law_take : Stmt := top 43
theorem sc__law_take : FnScope ["_law_pot_here", "_law_upto", "_law_digit", "_law_prime", "_law_mixed"] ["_law_pot_here", "_law_upto"] (defScope s__law_take) := ⟨rfl, rfl, rfl, by decide +kernel, rfl, by decide +kernel, by decide +kernel⟩
abbrev s__law_of : Stmt := top 44
theorem sc__law_of : FnScope ["_law_pot_here", "_law_some"] ["_law_pot_here", "_law_some"] (defScope s__law_of) := ⟨rfl, rfl, rfl, by decide +kernel, rfl, by decide +kernel, by decide +kernel⟩
abbrev s__law_word : Stmt := top 45
theorem sc__law_word : FnScope ["_law_pot_here", "_law_way", "_law_many", "_law_lap"] ["_law_pot_here"] (defScope s__law_word) := ⟨rfl, rfl, rfl, by decide +kernel, rfl, by decide +kernel, by decide +kernel⟩
abbrev s__law_names : Stmt := top 46
theorem sc__law_names : FnScope ["_law_pot_here", "_law_many", "_law_stem", "_law_found", "_law_spot", "_law_lap", "_law_word_here", "_law_one"] ["_law_pot_here", "_law_many"] (defScope s__law_names) := ⟨rfl, rfl, rfl, by decide +kernel, rfl, by decide +kernel, by decide +kernel⟩
abbrev s__law_texts : Stmt := top 47
theorem sc__law_texts : FnScope ["_law_words", "_law_most", "_law_found", "_law_level", "_law_lap", "_law_longer", "_law_text", "_law_word_here"] ["_law_words", "_law_most"] (defScope s__law_texts) := ⟨rfl, rfl, rfl, by decide +kernel, rfl, by decide +kernel, by decide +kernel⟩
abbrev s__law_strange : Stmt := top 48
theorem sc__law_strange : FnScope ["_law_words", "_law_many", "_law_found", "_law_spare", "_law_lap", "_law_word_here"] ["_law_words", "_law_many"] (defScope s__law_strange) := ⟨rfl, rfl, rfl, by decide +kernel, rfl, by decide +kernel, by decide +kernel⟩
abbrev s__law_from : Stmt := top 49
theorem sc__law_from : FnScope ["_law_machine_here", "_law_state", "_law_words", "_law_rows", "_law_names_here", "_law_found", "_law_name", "_law_row_here", "_law_goal_here"] ["_law_machine_here", "_law_state"] (defScope s__law_from) := ⟨rfl, rfl, rfl, by decide +kernel, rfl, by decide +kernel, by decide +kernel⟩
abbrev s__law_row : Stmt := top 50
theorem sc__law_row : FnScope ["_law_pot_here", "_law_words", "_law_most", "_law_lap"] ["_law_pot_here", "_law_words", "_law_most"] (defScope s__law_row) := ⟨rfl, rfl, rfl, by decide +kernel, rfl, by decide +kernel, by decide +kernel⟩
abbrev s__law_machine : Stmt := top 51
theorem sc__law_machine : FnScope ["_law_pot_here", "_law_names_here", "_law_most", "_law_words", "_law_many", "_law_rows", "_law_lap", "_law_goals", "_law_word_here"] ["_law_pot_here", "_law_names_here", "_law_most"] (defScope s__law_machine) := ⟨rfl, rfl, rfl, by decide +kernel, rfl, by decide +kernel, by decide +kernel⟩
abbrev s__law_goal : Stmt := top 52
theorem sc__law_goal : FnScope ["_law_machine_here", "_law_state", "_law_word_here", "_law_words", "_law_rows"] ["_law_machine_here", "_law_state", "_law_word_here"] (defScope s__law_goal) := ⟨rfl, rfl, rfl, by decide +kernel, rfl, by decide +kernel, by decide +kernel⟩
abbrev s__law_behind : Stmt := top 53
theorem sc__law_behind : FnScope ["_law_machine_here", "_law_text", "_law_state", "_law_word_here"] ["_law_machine_here", "_law_text"] (defScope s__law_behind) := ⟨rfl, rfl, rfl, by decide +kernel, rfl, by decide +kernel, by decide +kernel⟩
abbrev s__law_right : Stmt := top 54
theorem sc__law_right : FnScope ["_law_pot_here", "_law_names_here", "_law_every", "_law_machine_here", "_law_texts_here", "_law_one", "_law_other", "_law_behind_here", "_law_long", "_law_text", "_law_told", "_law_due"] ["_law_pot_here"] (defScope s__law_right) := ⟨rfl, rfl, rfl, by decide +kernel, rfl, by decide +kernel, by decide +kernel⟩
abbrev s_law : Stmt := top 55
theorem sc_law : FnScope ["_law_script", "_law_k"] ["_law_script"] (defScope s_law) := ⟨rfl, rfl, rfl, by decide +kernel, rfl, by decide +kernel, by decide +kernel⟩
end K
namespace K
open PySem PySem.Spec PyProof.Rows L2 DL
set_option hygiene false in
local macro_rules | `(tactic| k_get) => `(tactic| first
  | refine ae_name 0 rfl ?_ | refine ae_name 1 rfl ?_ | refine ae_name 2 rfl ?_ | refine ae_name 3 rfl ?_ | refine ae_name 4 rfl ?_ | refine ae_name 5 rfl ?_ | refine ae_name 6 rfl ?_ | refine ae_name 7 rfl ?_ | refine ae_name 8 rfl ?_ | refine ae_name 9 rfl ?_ | refine ae_name 10 rfl ?_ | refine ae_name 11 rfl ?_ | refine ae_name 12 rfl ?_
  | refine ae_int ?_ | refine ae_bl ?_ | refine ae_non ?_ | refine ae_str ?_ | refine ae_tup ?_ | refine ae_lst ?_
  | refine ae_and ?_ | refine ae_or ?_ | refine ae_one ?_ | refine ae_not ?_ | refine ae_neg ?_ | refine ae_ifExp ?_
  | refine ae_eq (u64 hr) ?_ | refine ae_ne (u64 hr) ?_ | refine ae_lt (u64 hr) ?_ | refine ae_le ?_ | refine ae_gt ?_ | refine ae_ge ?_ | refine ae_in (u1 hr) ?_ | refine ae_nin (u1 hr) ?_ | refine ae_is ?_ | refine ae_isn ?_
  | refine ae_lele ?_
  | refine ae_add ?_ | refine ae_sub ?_ | refine ae_mul ?_ | refine ae_mod ?_ | refine ae_div ?_
  | refine ae_slice sl_A ?_ | refine ae_ix (ix_A (u1 hr)) ?_
  | refine ae_c_len B.len ?_ | refine ae_c_int B.int ?_ | refine ae_c_abs B.abs ?_ | refine ae_c_max B.max ?_ | refine ae_c_min B.min ?_ | refine ae_c_isi B.isinstance ?_
  | refine ae_tupL B.tuple (?_ : AL _ (.ListComp _ _ _ _) _ _ _) | refine ae_c_tuple B.tuple ?_ | refine ae_allL B.all ?_ | refine ae_anyL B.any ?_
  | refine ae_call (by assumption) (hr.mono (by omega)) ?_
  | refine ae_append ?_
  | refine ae_bltn (T := "tuple") B.tuple (by decide +kernel) ?_ | refine ae_bltn (T := "str") B.str (by decide +kernel) ?_ | refine ae_bltn (T := "list") B.list (by decide +kernel) ?_ | refine ae_bltn (T := "int") B.int (by decide +kernel) ?_ | refine ae_bltn (T := "bool") B.bool (by decide +kernel) ?_ )
set_option hygiene false in
local macro_rules | `(tactic| k_put) => `(tactic| first
  | refine add_I ?_ | refine add_T ?_ ?_ | refine add_S ?_ ?_ | refine sub_I ?_ | refine eq_I ?_ | refine ne_I ?_ | refine eq_S ?_ | refine ne_S ?_ | refine lt_I ?_ | refine lt_S ?_ | refine le_I ?_ | refine gt_I ?_ | refine ge_I ?_
  | refine isa_N ?_ | refine isnota_N ?_ | refine ixa_T ?_ rfl | refine ixa_N ?_ rfl | refine ixa_R (by assumption) ?_ rfl | refine mod_I ?_ ?_ | refine div_I ?_ ?_ | refine mul_I ?_ ?_ | refine mul_S ?_ ?_ ?_ ?_ | refine in_W (by assumption) ?_ | refine notIn_W (by assumption) ?_ | refine in_sign ?_ | refine in_L (by assumption) ?_ | refine notIn_L (by assumption) ?_ | refine in_T ?_ | refine notIn_T ?_ | refine eq_W0 ?_ | refine eq_W ?_ | refine ne_W ?_ | refine eq_C ?_ | refine ne_C ?_ | refine r_ipI ?_ )
set_option hygiene false in
local macro_rules | `(tactic| k_go) => `(tactic| first
  | (show DL.ASs _ _ _ _ _; first | refine as_one ?_ | refine as_cons ?_ | refine as_nil ?_)
  | (show DL.AS _ _ _ _ _; first | refine as_ret ?_ | refine as_if ?_ | refine as_expr ?_ | refine as_set 0 ?_ | refine as_set 1 ?_ | refine as_set 2 ?_ | refine as_set 3 ?_ | refine as_set 4 ?_ | refine as_set 5 ?_ | refine as_set 6 ?_ | refine as_set 7 ?_ | refine as_set 8 ?_ | refine as_set 9 ?_ | refine as_set 10 ?_ | refine as_set 11 ?_ | refine as_aug 0 ip_add rfl ?_ | refine as_aug 1 ip_add rfl ?_ | refine as_aug 2 ip_add rfl ?_ | refine as_aug 3 ip_add rfl ?_ | refine as_aug 4 ip_add rfl ?_ | refine as_aug 5 ip_add rfl ?_ | refine as_aug 6 ip_add rfl ?_ | refine as_retN ?_ | refine as_pass ?_ | refine as_break ?_ | refine as_continue ?_)
  | (show AE _ _ _ _ _; k_get)
  | (show AT _ _ _ _ _; first | refine at_w (?_ : AW _ (.BoolOp _ _ _) _ _ _) | refine at_not ?_ | refine at_eq (u64 hr) ?_ | refine at_ne (u64 hr) ?_ | refine at_lt (u64 hr) ?_ | refine at_le ?_ | refine at_gt ?_ | refine at_ge ?_ | refine at_in (u1 hr) ?_ | refine at_nin (u1 hr) ?_ | refine at_is ?_ | refine at_isn ?_ | refine at_lele ?_ | refine at_val ?_)
  | (show AW _ _ _ _ _; first | refine aw_and ?_ | refine aw_or ?_ | refine aw_and1 ?_ | refine aw_or1 ?_)
  | (show AA _ _ _ _ _; first | refine aa_cons ?_ | refine aa_nil ?_)
  | (show AO _ _ _ _ _; first | refine ao_some ?_ | refine ao_none ?_)
  | (show L2R _ _ _ _ _ _; k_put)
  | (show LcR _ _ _ _ _; first | refine len_T ?_ | refine len_N ?_ | refine len_S ?_ | refine len_L (by assumption) ?_ | refine len_D (by assumption) ?_ | refine c_intI ?_ | refine c_intB ?_ | refine c_abs ?_ | refine c_max ?_ | refine c_min ?_ | refine c_tupT ?_ | refine lr_tup (by assumption) ?_ | refine isi_tt ?_ | refine isi_ii ?_ | refine isi_ib ?_ | refine isi_ss ?_ | refine isi_is ?_ | refine isi_ts ?_ | refine isi_st ?_ | refine isi_bb ?_)
  | (show LsR _ _ _ _ _ _ _; first | refine sla_T ?_ | refine sla_S ?_)
  | refine ⟨Nat.le_of_ble_eq_true rfl, ?_⟩
  | refine ⟨_, rfl, ?_⟩ | refine ⟨_, _, rfl, ?_⟩ | refine ⟨_, _, _, rfl, ?_⟩ | refine ⟨_, _, _, _, rfl, ?_⟩
  | exact ⟨_, .refl _, q⟩)
set_option hygiene false in
local macro_rules | `(tactic| walk) => `(tactic| repeat k_go)
set_option hygiene false in
local macro_rules | `(tactic| k_few) => `(tactic| first | refine ⟨fun _ => ?_, (fun z => Bool.noConfusion z)⟩ | refine ⟨(fun z => Bool.noConfusion z), fun _ => ?_⟩)
set_option hygiene false in
local macro_rules | `(tactic| k_not) => `(tactic| refine ⟨fun hk => ?_, fun hk => ?_⟩)
structure Bl (mg : Str → Option Value) : Prop where
  tuple : mg "tuple" = none
  list : mg "list" = none
  len : mg "len" = none
  any : mg "any" = none
  all : mg "all" = none
  range : mg "range" = none
  zip : mg "zip" = none
  isinstance : mg "isinstance" = none
  str : mg "str" = none
  sorted : mg "sorted" = none
  set : mg "set" = none
  dict : mg "dict" = none
  max : mg "max" = none
  min : mg "min" = none
  abs : mg "abs" = none
  int : mg "int" = none
  bool : mg "bool" = none
  sum : mg "sum" = none
  repr : mg "repr" = none
  enumerate : mg "enumerate" = none
def GI (mg : Str → Option Value) (x : Str) (i : Int) : Prop := ∃ t, mg x = some (.int i t)
def GS (mg : Str → Option Value) (x y : Str) : Prop := ∃ t, mg x = some (.str y t)
section
variable {P : Program} {w : World} {K : PySem.W.Frag} {mg : Str → Option Value} {base : Heap} {f : Addr} {fd : FuncData}
def sp_is_integer : SpA := fun ds L Q _ => ∃ (i a b : Int), ds = [.int i, .int a, .int b] ∧ Q (.bl (decide (a ≤ i) && decide (i ≤ b))) L
theorem ok_is_integer (F : Fun K "is_integer" "is_integer" s_is_integer f fd) (hb : Binds K fd ["value", "least", "most"] []) (B : Bl mg) : FnA P w K mg base 1 f sp_is_integer := by
  refine fnA F sc_is_integer hb (fun ds L Q R h => by obtain ⟨_, _, _, rfl, _⟩ := h; rfl) fun cdv A outer s H E ds L Q R hr h => ?_
  obtain ⟨i, a, b, rfl, q⟩ := h
  walk
  k_few
  walk
  k_few
  walk
  k_not
  · rw [hk] at q
    walk
  · rw [hk] at q
    exact ⟨L, .refl L, q⟩
def sp_is_word : SpA := fun ds L Q _ => ∃ x : Str, ds = [.str x] ∧ wdS x = true ∧ Q (.bl true) L
theorem ok_is_word (F : Fun K "is_word" "is_word" s_is_word f fd) (hb : Binds K fd ["value"] []) (B : Bl mg) (g1 : GI mg "MOST_LETTERS" 8) (g2 : GS mg "LETTERS" "abcdefghijklmnopqrstuvwxyz") : FnA P w K mg base 1 f sp_is_word := by
  refine fnA F sc_is_word hb (fun ds L Q R h => by obtain ⟨_, rfl, _⟩ := h; rfl) fun cdv A outer s H E ds L Q R hr h => ?_
  obtain ⟨x, rfl, hw, q⟩ := h
  obtain ⟨t1, g1⟩ := g1
  obtain ⟨t2, g2⟩ := g2
  have hw2 := hw
  unfold wdS at hw2
  rw [Bool.and_eq_true, Bool.and_eq_true] at hw2
  have h1 := of_decide_eq_true hw2.1.1
  have h8 := of_decide_eq_true hw2.1.2
  refine as_cons (as_if (at_w (aw_or (at_not (at_val (ae_c_isi B.isinstance (ae_name 0 rfl (ae_bltn (T := "str") B.str (by decide +kernel) (isi_ss ⟨true, rfl, (fun z => nomatch z), fun _ => aw_or1 (at_not ?_)⟩)))))))))
  refine at_chain op_le op_le (ae_int (ae_callB call_len_str B.len (aa_cons (ae_name 0 rfl (aa_nil (c_lenS (r_le ⟨_, rfl, fun h1 => ae_globI g1 (r_le ⟨_, rfl, ?_⟩), fun h1 => ?_⟩)))))) ) (pt_chain op_le op_le pe_we pe_we pe_we)
  · refine ⟨fun h2 => absurd h2 (by simp; omega), fun h2 => as_nil (as_one (as_ret (ae_allLc [("letter", 1)] B.all (ai_str (ae_name 0 rfl ⟨x, rfl, fun hx => ⟨fun d => match d with | .str z => decide (z.cps.toList.headD 0 ∈ abc) | _ => false, trivial, ?_, each1 (fun j hj => hj) (fun i d hd s H Cc cl fp => ⟨ag_name 1, fun Q q => ?_⟩), L, .refl L, ?_⟩⟩)))))⟩
    · rw [signs_len]; exact hx.len
    · obtain ⟨k, hk, rfl⟩ := signs_get hd
      exact ae_cmp op_in_sign rfl (ae_name 1 rfl (ae_globS g2 (r_inSign q) (hz := ⟨by decide +kernel, by decide +kernel⟩)))
    · have e : ((DL.sgnsOf x).all fun d => match d with | .str z => decide (z.cps.toList.headD 0 ∈ abc) | _ => false) = true := by
        unfold DL.sgnsOf
        rw [List.all_map]
        exact hw2.2
      rw [e]
      exact q
  · have := of_decide_eq_false h1
    omega
/-- a text: a tuple of words, of either kind -/
def TxS (d : D) (ws : List Str) : Prop := (d = .wds ws ∨ d = dW ws) ∧ ∀ x ∈ ws, wdS x = true
theorem TxS.ts {d : D} {ws : List Str} (h : TxS d ws) : TS d (ws.map .str) := by
  rcases h.1 with rfl | rfl
  · exact .u ws
  · exact .t _
theorem TxS.isi {d : D} {ws : List Str} {C : DL.Ctx} {L : Lp} {Q : D → Lp → Prop} (h : TxS d ws) (q : Q (.bl true) L) : LcR C (rIsi C.X.K) [d, .ty "tuple"] L Q := by
  rcases h.1 with rfl | rfl
  · exact isi_U q
  · exact isi_tt q
theorem TxS.len {d : D} {ws : List Str} {C : DL.Ctx} {L : Lp} {Q : D → Lp → Prop} (h : TxS d ws) (q : Q (.int ws.length) L) : LcR C (rLenA C.X.K) [d] L Q := by
  rcases h.1 with rfl | rfl
  · exact len_U q
  · exact len_T (ds := ws.map .str) (by rw [List.length_map]; exact q)
def sp_is_text : SpA := fun ds L Q _ => ∃ (d : D) (ws : List Str), ds = [d] ∧ TxS d ws ∧ Q (.bl true) L
theorem ok_is_text (F : Fun K "is_text" "is_text" s_is_text f fd) (hb : Binds K fd ["value"] []) (B : Bl mg) (d1 : Def P w K mg base "is_word" 1 sp_is_word) : FnA P w K mg base 2 f sp_is_text := by
  refine fnA F sc_is_text hb (fun ds L Q R h => by obtain ⟨_, _, rfl, _⟩ := h; rfl) fun cdv A outer s H E ds L Q R hr h => ?_
  obtain ⟨d, ws, rfl, hd, q⟩ := h
  refine as_one (as_ret (ae_and (ae_c_isi B.isinstance (ae_name 0 rfl (ae_bltn (T := "tuple") B.tuple (by decide +kernel) (hd.isi ⟨_, rfl, fun _ => ae_one (ae_allLc [("word", 1)] B.all (ai_ts (ae_name 0 rfl ⟨_, hd.ts, fun hz => ⟨fun _ => true, trivial, hz, each1 (fun j hj => hj) (fun i x hi s H Cc cl fp => ⟨ag_name 1, fun Q q => ?_⟩), L, .refl L, ?_⟩⟩))), fun z => nomatch z⟩))))))
  · rw [List.getElem?_map] at hi
    cases e : ws[i]? with
    | none => rw [e] at hi; cases hi
    | some y =>
      rw [e] at hi
      cases hi
      exact ae_call d1 (hr.mono (by omega)) (aa_cons (ae_name 1 rfl (aa_nil ⟨y, rfl, hd.2 y (List.mem_of_getElem? e), q⟩)))
  · rw [show (ws.map D.str).all (fun _ => true) = true from List.all_eq_true.mpr fun _ _ => rfl]
    exact q
def sp_is_rising : SpA := fun ds L Q _ => ∃ ws : List Str, ds = [.wds ws] ∧ Q (.bl (adj ws)) L
theorem ok_is_rising (F : Fun K "is_rising" "is_rising" s_is_rising f fd) (hb : Binds K fd ["values"] []) (B : Bl mg) : FnA P w K mg base 1 f sp_is_rising := by
  refine fnA F sc_is_rising hb (fun ds L Q R h => by obtain ⟨_, rfl, _⟩ := h; rfl) fun cdv A outer s H E ds L Q R hr h => ?_
  obtain ⟨ws, rfl, q⟩ := h
  refine as_one (as_ret (ae_allLc [("one", 1), ("other", 2)] B.all (ai_zipTS B.zip (aa_cons (ae_name 0 rfl (aa_cons (ae_slice sl_A (ae_name 0 rfl (ao_some (ae_int ⟨1, rfl, ao_none (sla_U fun d2 h2 => aa_nil ⟨_, d2, _, _, rfl, .u ws, h2, fun hz => ⟨ltP, trivial, ?_, ?_, L, .refl L, ?_⟩⟩)⟩))))))))))
  · unfold zipD
    rw [List.length_zipWith]
    exact Nat.le_trans (Nat.min_le_left _ _) hz
  · intro i d hd
    have : ∃ x y, d = .tup [.str x, .str y] := by
      unfold zipD at hd
      rw [List.getElem?_zipWith] at hd
      rw [cut_one, ← List.map_drop, List.getElem?_map, List.getElem?_map] at hd
      cases e1 : ws[i]? with
      | none => rw [e1] at hd; cases hd
      | some x =>
        cases e2 : (ws.drop 1)[i]? with
        | none => rw [e1, e2] at hd; cases hd
        | some y => rw [e1, e2] at hd; cases hd; exact ⟨x, y, rfl⟩
    obtain ⟨x, y, rfl⟩ := this
    refine ⟨_, _, ?_, fun s H Cc cl fp => ⟨ag_tup (ags_cons (ag_name 1) (ags_cons (ag_name 2) ags_nil)), fun Q q => ae_cmp op_lt_str rfl (ae_name 1 rfl (ae_name 2 rfl (r_ltS q)))⟩⟩
    intro j hj
    exact hj
  · rw [cut_one, ← List.map_drop, adj_zip]
    exact q
def sp_is_words : SpA := fun ds L Q _ => ∃ (ws : List Str) (m : Nat), ds = [.wds ws, .int m] ∧ (∀ x ∈ ws, wdS x = true) ∧ adj ws = true ∧ ws.length ≤ m ∧ Q (.bl true) L
theorem ok_is_words (F : Fun K "is_words" "is_words" s_is_words f fd) (hb : Binds K fd ["value", "most"] []) (B : Bl mg) (d1 : Def P w K mg base "is_text" 2 sp_is_text) (d2 : Def P w K mg base "is_rising" 1 sp_is_rising) : FnA P w K mg base 3 f sp_is_words := by
  refine fnA F sc_is_words hb (fun ds L Q R h => by obtain ⟨_, _, rfl, _⟩ := h; rfl) fun cdv A outer s H E ds L Q R hr h => ?_
  obtain ⟨ws, m, rfl, hw, ha, hm, q⟩ := h
  refine as_one (as_ret (ae_and (ae_call d1 (hr.mono (by omega)) (aa_cons (ae_name 0 rfl (aa_nil ⟨_, ws, rfl, ⟨.inl rfl, hw⟩, _, rfl, fun _ => ?_, fun z => nomatch z⟩))))))
  refine ae_and (ae_le (ae_c_len B.len (ae_name 0 rfl (len_U (ae_name 1 rfl (le_I ⟨_, rfl, fun _ => ?_, fun z => absurd (of_decide_eq_false z) (by simp; omega)⟩))))))
  refine ae_one (ae_call d2 (hr.mono (by omega)) (aa_cons (ae_name 0 rfl (aa_nil ⟨ws, rfl, L, .refl L, ?_⟩))))
  rw [ha]
  exact q
end
end K
namespace K
open PySem PySem.Spec PyProof.Rows L2 DL
set_option hygiene false in
local macro_rules | `(tactic| k_get) => `(tactic| first
  | refine ae_name 0 rfl ?_ | refine ae_name 1 rfl ?_ | refine ae_name 2 rfl ?_ | refine ae_name 3 rfl ?_ | refine ae_name 4 rfl ?_ | refine ae_name 5 rfl ?_ | refine ae_name 6 rfl ?_ | refine ae_name 7 rfl ?_ | refine ae_name 8 rfl ?_ | refine ae_name 9 rfl ?_ | refine ae_name 10 rfl ?_ | refine ae_name 11 rfl ?_ | refine ae_name 12 rfl ?_
  | refine ae_int ?_ | refine ae_bl ?_ | refine ae_non ?_ | refine ae_str ?_ | refine ae_tup ?_ | refine ae_lst ?_
  | refine ae_and ?_ | refine ae_or ?_ | refine ae_one ?_ | refine ae_not ?_ | refine ae_neg ?_ | refine ae_ifExp ?_
  | refine ae_eq (u64 hr) ?_ | refine ae_ne (u64 hr) ?_ | refine ae_lt (u64 hr) ?_ | refine ae_le ?_ | refine ae_gt ?_ | refine ae_ge ?_ | refine ae_in (u1 hr) ?_ | refine ae_nin (u1 hr) ?_ | refine ae_is ?_ | refine ae_isn ?_
  | refine ae_lele ?_
  | refine ae_add ?_ | refine ae_sub ?_ | refine ae_mul ?_ | refine ae_mod ?_ | refine ae_div ?_
  | refine ae_slice sl_A ?_ | refine ae_ix (ix_A (u1 hr)) ?_
  | refine ae_c_len B.len ?_ | refine ae_c_int B.int ?_ | refine ae_c_abs B.abs ?_ | refine ae_c_max B.max ?_ | refine ae_c_min B.min ?_ | refine ae_c_isi B.isinstance ?_
  | refine ae_tupL B.tuple (?_ : AL _ (.ListComp _ _ _ _) _ _ _) | refine ae_c_tuple B.tuple ?_ | refine ae_allL B.all ?_ | refine ae_anyL B.any ?_
  | refine ae_call (by assumption) (hr.mono (by omega)) ?_
  | refine ae_append ?_
  | refine ae_bltn (T := "tuple") B.tuple (by decide +kernel) ?_ | refine ae_bltn (T := "str") B.str (by decide +kernel) ?_ | refine ae_bltn (T := "list") B.list (by decide +kernel) ?_ | refine ae_bltn (T := "int") B.int (by decide +kernel) ?_ | refine ae_bltn (T := "bool") B.bool (by decide +kernel) ?_ )
set_option hygiene false in
local macro_rules | `(tactic| k_put) => `(tactic| first
  | refine add_I ?_ | refine add_T ?_ ?_ | refine add_S ?_ ?_ | refine sub_I ?_ | refine eq_I ?_ | refine ne_I ?_ | refine eq_S ?_ | refine ne_S ?_ | refine lt_I ?_ | refine lt_S ?_ | refine le_I ?_ | refine gt_I ?_ | refine ge_I ?_
  | refine isa_N ?_ | refine isnota_N ?_ | refine ixa_T ?_ rfl | refine ixa_N ?_ rfl | refine ixa_R (by assumption) ?_ rfl | refine mod_I ?_ ?_ | refine div_I ?_ ?_ | refine mul_I ?_ ?_ | refine mul_S ?_ ?_ ?_ ?_ | refine in_W (by assumption) ?_ | refine notIn_W (by assumption) ?_ | refine in_sign ?_ | refine in_L (by assumption) ?_ | refine notIn_L (by assumption) ?_ | refine in_T ?_ | refine notIn_T ?_ | refine eq_W0 ?_ | refine eq_W ?_ | refine ne_W ?_ | refine eq_C ?_ | refine ne_C ?_ | refine r_ipI ?_ )
set_option hygiene false in
local macro_rules | `(tactic| k_go) => `(tactic| first
  | (show DL.ASs _ _ _ _ _; first | refine as_one ?_ | refine as_cons ?_ | refine as_nil ?_)
  | (show DL.AS _ _ _ _ _; first | refine as_ret ?_ | refine as_if ?_ | refine as_expr ?_ | refine as_set 0 ?_ | refine as_set 1 ?_ | refine as_set 2 ?_ | refine as_set 3 ?_ | refine as_set 4 ?_ | refine as_set 5 ?_ | refine as_set 6 ?_ | refine as_set 7 ?_ | refine as_set 8 ?_ | refine as_set 9 ?_ | refine as_set 10 ?_ | refine as_set 11 ?_ | refine as_aug 0 ip_add rfl ?_ | refine as_aug 1 ip_add rfl ?_ | refine as_aug 2 ip_add rfl ?_ | refine as_aug 3 ip_add rfl ?_ | refine as_aug 4 ip_add rfl ?_ | refine as_aug 5 ip_add rfl ?_ | refine as_aug 6 ip_add rfl ?_ | refine as_retN ?_ | refine as_pass ?_ | refine as_break ?_ | refine as_continue ?_)
  | (show AE _ _ _ _ _; k_get)
  | (show AT _ _ _ _ _; first | refine at_w (?_ : AW _ (.BoolOp _ _ _) _ _ _) | refine at_not ?_ | refine at_eq (u64 hr) ?_ | refine at_ne (u64 hr) ?_ | refine at_lt (u64 hr) ?_ | refine at_le ?_ | refine at_gt ?_ | refine at_ge ?_ | refine at_in (u1 hr) ?_ | refine at_nin (u1 hr) ?_ | refine at_is ?_ | refine at_isn ?_ | refine at_lele ?_ | refine at_val ?_)
  | (show AW _ _ _ _ _; first | refine aw_and ?_ | refine aw_or ?_ | refine aw_and1 ?_ | refine aw_or1 ?_)
  | (show AA _ _ _ _ _; first | refine aa_cons ?_ | refine aa_nil ?_)
  | (show AO _ _ _ _ _; first | refine ao_some ?_ | refine ao_none ?_)
  | (show L2R _ _ _ _ _ _; k_put)
  | (show LcR _ _ _ _ _; first | refine len_T ?_ | refine len_N ?_ | refine len_S ?_ | refine len_L (by assumption) ?_ | refine len_D (by assumption) ?_ | refine c_intI ?_ | refine c_intB ?_ | refine c_abs ?_ | refine c_max ?_ | refine c_min ?_ | refine c_tupT ?_ | refine lr_tup (by assumption) ?_ | refine isi_tt ?_ | refine isi_ii ?_ | refine isi_ib ?_ | refine isi_ss ?_ | refine isi_is ?_ | refine isi_ts ?_ | refine isi_st ?_ | refine isi_bb ?_)
  | (show LsR _ _ _ _ _ _ _; first | refine sla_T ?_ | refine sla_S ?_)
  | refine ⟨Nat.le_of_ble_eq_true rfl, ?_⟩
  | refine ⟨_, rfl, ?_⟩ | refine ⟨_, _, rfl, ?_⟩ | refine ⟨_, _, _, rfl, ?_⟩ | refine ⟨_, _, _, _, rfl, ?_⟩
  | exact ⟨_, .refl _, q⟩)
set_option hygiene false in
local macro_rules | `(tactic| walk) => `(tactic| repeat k_go)
set_option hygiene false in
local macro_rules | `(tactic| k_few) => `(tactic| first | refine ⟨fun _ => ?_, (fun z => Bool.noConfusion z)⟩ | refine ⟨(fun z => Bool.noConfusion z), fun _ => ?_⟩)
set_option hygiene false in
local macro_rules | `(tactic| k_not) => `(tactic| refine ⟨fun hk => ?_, fun hk => ?_⟩)
/-! ### rows -/
def dI (ns : List Nat) : D := .tup (ns.map fun (g : Nat) => .int (g : Int))
def dRw (r : RowM) : D := .tup [.bl r.1, dI r.2.1, .int (r.2.2 : Nat)]
def dMw (rows : Rws) : D := .tup (rows.map dRw)
/-- a column as a number -/
def ci : Option Nat → Int
  | none => -1
  | some c => (c : Nat)
theorem getD_mem {α : Type} {xs : List α} {c : Nat} {d : α} (h : c < xs.length) : xs[c]? = some (xs.getD c d) := by
  rw [List.getD_eq_getElem?_getD, List.getElem?_eq_getElem h]
  rfl
section
variable {P : Program} {w : World} {K : PySem.W.Frag} {mg : Str → Option Value} {base : Heap} {f : Addr} {fd : FuncData}
def sp_is_row : SpA := fun ds L Q _ => ∃ (r : RowM) (n c : Nat), ds = [dRw r, .int n, .int c] ∧ r.2.1.length = n ∧ n ≤ 1000000 ∧ (∀ g ∈ r.2.1, g < c) ∧ r.2.2 < c ∧ Q (.bl true) L
theorem ok_is_row (F : Fun K "is_row" "is_row" s_is_row f fd) (hb : Binds K fd ["row", "many", "count"] []) (B : Bl mg) (d1 : Def P w K mg base "is_integer" 1 sp_is_integer) : FnA P w K mg base 2 f sp_is_row := by
  refine fnA F sc_is_row hb (fun ds L Q R h => by obtain ⟨_, _, _, rfl, _⟩ := h; rfl) fun cdv A outer s H E ds L Q R hr h => ?_
  obtain ⟨r, n, c, rfl, hn, hz, hg, ho, q⟩ := h
  have e1 : atI ([.bl r.1, dI r.2.1, .int (r.2.2 : Nat)] : List D) ((0 : Nat) : Int) = some (.bl r.1) := atI_nat rfl
  have e2 : atI ([.bl r.1, dI r.2.1, .int (r.2.2 : Nat)] : List D) ((1 : Nat) : Int) = some (dI r.2.1) := atI_nat rfl
  have e3 : atI ([.bl r.1, dI r.2.1, .int (r.2.2 : Nat)] : List D) ((2 : Nat) : Int) = some (.int (r.2.2 : Nat)) := atI_nat rfl
  refine as_cons (as_if (at_w (aw_or (at_not (at_val (ae_c_isi B.isinstance (ae_name 0 rfl (ae_bltn (T := "tuple") B.tuple (by decide +kernel) (isi_tt ⟨true, rfl, (fun z => nomatch z), fun _ => aw_or1 (at_ne (u64 hr) (ae_c_len B.len (ae_name 0 rfl (len_T (ae_int (ne_I ⟨_, rfl, (fun z => nomatch z), fun _ => as_nil ?_⟩))))))⟩)))))))))
  refine as_cons (as_if (at_w (aw_or (at_not (at_val (ae_c_isi B.isinstance (ae_ix (ix_A (u1 hr)) (ae_name 0 rfl (ae_int (ixa_T (ae_bltn (T := "bool") B.bool (by decide +kernel) (isi_bb ⟨true, rfl, (fun z => nomatch z), fun _ => ?_⟩)) e1))))))))))
  refine aw_or (at_not (at_val (ae_c_isi B.isinstance (ae_ix (ix_A (u1 hr)) (ae_name 0 rfl (ae_int (ixa_T (ae_bltn (T := "tuple") B.tuple (by decide +kernel) (isi_tt ⟨true, rfl, (fun z => nomatch z), fun _ => ?_⟩)) e2)))))))
  refine aw_or1 (at_ne (u64 hr) (ae_c_len B.len (ae_ix (ix_A (u1 hr)) (ae_name 0 rfl (ae_int (ixa_T (len_T (ae_name 1 rfl (ne_I ⟨_, rfl, fun z => ?_, fun _ => as_nil ?_⟩))) e2))))))
  · rw [List.length_map, hn] at z
    simp at z
  refine as_one (as_ret (ae_allL B.all (al_map1 3 (ai_L (al_disp (aa_starT (ae_ix (ix_A (u1 hr)) (ae_name 0 rfl (ae_int (ixa_T ⟨_, .t _, aa_cons (ae_ix (ix_A (u1 hr)) (ae_name 0 rfl (ae_int (ixa_T (aa_nil ⟨?_, fun hz2 => ?_⟩) e3))))⟩ e2))))))))))
  · rw [List.length_append, List.length_map, hn, sl_eq]
    show n + 1 ≤ _
    omega
  have el : (r.2.1.map fun (g : Nat) => D.int (g : Int)) ++ [D.int (r.2.2 : Nat)] = (r.2.1 ++ [r.2.2]).map fun (g : Nat) => D.int (g : Int) := by rw [List.map_append]; rfl
  rw [el] at hz2 ⊢
  refine ⟨_, r.2.1 ++ [r.2.2], fun (g : Nat) => .int (g : Int), fun _ => .bl true, rfl, trivial, hz2, fun y hy s H Cc cl fp Q q => ?_, (r.2.1 ++ [r.2.2]).map fun _ => true, by rw [List.map_map]; rfl, L, .refl L, ?_⟩
  · have hyc : y < c := by
      rcases List.mem_append.mp hy with hy | hy
      · exact hg y hy
      · rw [List.mem_singleton.mp hy]; exact ho
    refine ae_call d1 (hr.mono (by omega)) (aa_cons (ae_name 3 rfl (aa_cons (ae_int (aa_cons (ae_sub (ae_name 2 rfl (ae_int (sub_I (aa_nil ⟨_, _, _, rfl, ?_⟩))))))))))
    rw [decide_eq_true (by omega : (0 : Int) ≤ (y : Int)), decide_eq_true (by omega : (y : Int) ≤ (c : Int) - 1)]
    exact q
  · rw [show ((r.2.1 ++ [r.2.2]).map fun _ => true).all id = true from by rw [List.all_map]; exact List.all_eq_true.mpr fun _ _ => rfl]
    exact q
def sp_is_rows : SpA := fun ds L Q _ => ∃ (rows : Rws) (n m : Nat), ds = [dMw rows, .int n, .int m] ∧ MOk n rows ∧ n ≤ 1000000 ∧ 0 < rows.length ∧ rows.length ≤ m ∧ Q (.bl true) L
theorem okD_dI (ns : List Nat) : okD (dI ns) = true := by
  unfold dI
  rw [okD]
  exact okDs_map _ _ fun _ _ => by rw [okD]
theorem okD_dRw (r : RowM) : okD (dRw r) = true := by
  unfold dRw
  rw [okD, okDs, okDs, okDs, okDs, okD_dI, okD, okD]
  rfl
theorem okD_dMw (rows : Rws) : okD (dMw rows) = true := by
  unfold dMw
  rw [okD]
  exact okDs_map _ _ fun _ _ => okD_dRw _
theorem dep_I (ns : List Nat) : (py (dI ns)).depth ≤ 2 := by
  unfold dI
  rw [py, pys_map]
  exact depAll fun d hd => by
    obtain ⟨n, _, rfl⟩ := List.mem_map.mp hd
    rw [py, PyData.depth]
    decide
theorem dep_Rw (r : RowM) : (py (dRw r)).depth ≤ 3 := by
  unfold dRw
  rw [py, pys, pys, pys, pys]
  refine depAll fun d hd => ?_
  simp only [List.mem_cons, List.not_mem_nil, or_false] at hd
  rcases hd with rfl | rfl | rfl
  · rw [py, PyData.depth]; decide
  · exact dep_I _
  · rw [py, PyData.depth]; decide
theorem dep_Mw (rows : Rws) : (py (dMw rows)).depth ≤ 4 := by
  unfold dMw
  rw [py, pys_map]
  exact depAll fun d hd => by
    obtain ⟨r, _, rfl⟩ := List.mem_map.mp hd
    exact dep_Rw r
theorem ok_is_rows (F : Fun K "is_rows" "is_rows" s_is_rows f fd) (hb : Binds K fd ["rows", "many", "most"] []) (B : Bl mg) (d1 : Def P w K mg base "is_row" 2 sp_is_row) : FnA P w K mg base 3 f sp_is_rows := by
  refine fnA F sc_is_rows hb (fun ds L Q R h => by obtain ⟨_, _, _, rfl, _⟩ := h; rfl) fun cdv A outer s H E ds L Q R hr h => ?_
  obtain ⟨rows, n, m, rfl, hM, hn, h0, hm, q⟩ := h
  refine as_cons (as_if (at_w (aw_or (at_not (at_val (ae_c_isi B.isinstance (ae_name 0 rfl (ae_bltn (T := "tuple") B.tuple (by decide +kernel) (isi_tt ⟨true, rfl, (fun z => nomatch z), fun _ => ?_⟩)))))))))
  refine aw_or (at_eq (u64 hr) (ae_name 0 rfl (ae_tup (aa_nil ⟨Nat.zero_le _, eq_D (okD_dMw rows) (by rw [okD, okDs]) (Nat.le_trans (dep_Mw rows) (by decide)) (by rw [py, pys, PyData.depth]; decide) ⟨_, rfl, fun z => ?_, fun _ => ?_⟩⟩))))
  · exfalso
    unfold dMw at z
    rw [py, pys_map, py, pys] at z
    cases rows with
    | nil => exact absurd h0 (Nat.lt_irrefl _)
    | cons r rs => simp [PyData.eqv, PyData.eqvAll] at z
  refine aw_or1 (at_gt (ae_c_len B.len (ae_name 0 rfl (len_T (ae_name 2 rfl (gt_I ⟨_, rfl, fun z => ?_, fun _ => as_nil ?_⟩))))))
  · have := of_decide_eq_true z
    rw [List.length_map] at this
    omega
  refine as_one (as_ret (ae_allL B.all (al_map1 3 (ai_tup (ae_name 0 rfl ⟨_, rfl, fun hz => ⟨_, rows, dRw, fun _ => .bl true, rfl, trivial, hz, fun y hy s H Cc cl fp Q q => ?_, rows.map fun _ => true, by rw [List.map_map]; rfl, L, .refl L, ?_⟩⟩)))))
  · refine ae_call d1 (hr.mono (by omega)) (aa_cons (ae_name 3 rfl (aa_cons (ae_name 1 rfl (aa_cons (ae_c_len B.len (ae_name 0 rfl (len_T (aa_nil ?_)))))))))
    rw [List.length_map]
    exact ⟨y, n, rows.length, rfl, hM.len y hy, hn, hM.go y hy, hM.oth y hy, q⟩
  · rw [show (rows.map fun _ => true).all id = true from by rw [List.all_map]; exact List.all_eq_true.mpr fun _ _ => rfl]
    exact q
def sp_column_of : SpA := fun ds L Q _ => ∃ (ys : List Str) (x : Str), ds = [.wds ys, .str x] ∧ Q (.int (ci (colW ys x))) L
theorem ok_column_of (F : Fun K "column_of" "column_of" s_column_of f fd) (hb : Binds K fd ["words", "word"] []) : FnA P w K mg base 1 f sp_column_of := by
  refine fnA F sc_column_of hb (fun ds L Q R h => by obtain ⟨_, _, rfl, _⟩ := h; rfl) fun cdv A outer s H E ds L Q R hr h => ?_
  obtain ⟨ys, x, rfl, q⟩ := h
  unfold colW at q
  refine as_one (as_ret (ae_ifExp (at_in (u1 hr) (ae_name 1 rfl (ae_name 0 rfl (in_U ⟨_, rfl, fun hk => ?_, fun hk => ?_⟩))))))
  · have hm := of_decide_eq_true hk
    rw [if_pos hm] at q
    exact ae_idxU (ae_name 0 rfl ⟨ys, rfl, ae_name 1 rfl ⟨x, rfl, hm, L, .refl L, q⟩⟩)
  · have hm := of_decide_eq_false hk
    rw [if_neg hm] at q
    exact ae_neg (ae_int ⟨1, rfl, L, .refl L, q⟩)
def sp_goal_of : SpA := fun ds L Q _ => ∃ (r : RowM) (c : Option Nat), ds = [dRw r, .int (ci c)] ∧ (∀ k, c = some k → k < r.2.1.length) ∧ Q (.int (gl r c : Nat)) L
theorem ok_goal_of (F : Fun K "goal_of" "goal_of" s_goal_of f fd) (hb : Binds K fd ["row", "column"] []) : FnA P w K mg base 1 f sp_goal_of := by
  refine fnA F sc_goal_of hb (fun ds L Q R h => by obtain ⟨_, _, rfl, _⟩ := h; rfl) fun cdv A outer s H E ds L Q R hr h => ?_
  obtain ⟨r, c, rfl, hc, q⟩ := h
  have e2 : atI ([.bl r.1, dI r.2.1, .int (r.2.2 : Nat)] : List D) ((1 : Nat) : Int) = some (dI r.2.1) := atI_nat rfl
  have e3 : atI ([.bl r.1, dI r.2.1, .int (r.2.2 : Nat)] : List D) ((2 : Nat) : Int) = some (.int (r.2.2 : Nat)) := atI_nat rfl
  refine as_one (as_ret (ae_ifExp (at_lt (u64 hr) (ae_name 1 rfl (ae_int (lt_I ⟨_, rfl, fun hk => ?_, fun hk => ?_⟩))))))
  · cases c with
    | none => exact ae_ix (ix_A (u1 hr)) (ae_name 0 rfl (ae_int (ixa_T ⟨L, .refl L, q⟩ e3)))
    | some k =>
      have := of_decide_eq_true hk
      have e : ci (some k) = (k : Int) := rfl
      rw [e] at this
      omega
  · cases c with
    | none => exact absurd (of_decide_eq_false hk) (by show ¬ ¬ (-1 : Int) < 0; decide)
    | some k =>
      have e4 : atI (r.2.1.map fun (g : Nat) => D.int (g : Int)) (k : Int) = some (.int (gl r (some k) : Nat)) := atI_nat (by
        rw [List.getElem?_map, getD_mem (d := 0) (hc k rfl)]
        rfl)
      exact ae_ix (ix_A (u1 hr)) (ae_ix (ix_A (u1 hr)) (ae_name 0 rfl (ae_int (ixa_T (ae_name 1 rfl (ixa_T ⟨L, .refl L, q⟩ e4)) e2))))
def sp_state_behind : SpA := fun ds L Q _ => ∃ (ys : List Str) (rows : Rws) (d : D) (ws : List Str), ds = [.wds ys, dMw rows, d] ∧ TS d (ws.map .str) ∧ MOk ys.length rows ∧ 0 < rows.length ∧ Q (.int (runM ys rows 0 ws : Nat)) L
theorem runM_app (ys : List Str) (rows : Rws) : ∀ (ws : List Str) (s : Nat) (x : Str), runM ys rows s (ws ++ [x]) = stepM rows (runM ys rows s ws) (colW ys x)
  | [], _, _ => rfl
  | y :: ws, s, x => runM_app ys rows ws _ x
theorem runM_lt {ys : List Str} {rows : Rws} (hM : MOk ys.length rows) : ∀ (ws : List Str) (s : Nat), s < rows.length → runM ys rows s ws < rows.length
  | [], _, h => h
  | y :: ws, s, h => runM_lt hM ws _ (hM.gl h _ fun k e => colW_lt k e)
theorem ok_state_behind (F : Fun K "state_behind" "state_behind" s_state_behind f fd) (hb : Binds K fd ["words", "rows", "text"] []) (d1 : Def P w K mg base "column_of" 1 sp_column_of) (d2 : Def P w K mg base "goal_of" 1 sp_goal_of) : FnA P w K mg base 2 f sp_state_behind := by
  refine fnA F sc_state_behind hb (fun ds L Q R h => by obtain ⟨_, _, _, _, rfl, _⟩ := h; rfl) fun cdv A outer s H E ds L Q R hr h => ?_
  obtain ⟨ys, rows, d, ws, rfl, ht, hM, h0, q⟩ := h
  refine as_cons (as_set 3 (ae_int ?_))
  refine as_cons (as_for (ai_ts (ae_name 2 rfl ⟨_, ht, fun hz => ?_⟩)))
  refine ⟨fun i Γ2 L2 => ∃ g4 : Option D, L2 = L ∧ Γ2 = [some (.wds ys), some (dMw rows), some d, some (.int (runM ys rows 0 (ws.take i) : Nat)), g4], ⟨none, rfl, rfl⟩, fun _ _ _ _ => trivial, ?_, ?_⟩
  · rintro i x Γ2 L2 hi ⟨g4, rfl, rfl⟩
    rw [List.getElem?_map] at hi
    cases e : ws[i]? with
    | none => rw [e] at hi; cases hi
    | some y =>
      rw [e] at hi
      cases hi
      have hs := runM_lt hM (ws.take i) 0 h0
      have hg : atI (rows.map dRw) ((runM ys rows 0 (ws.take i) : Nat) : Int) = some (dRw (rowAt rows (runM ys rows 0 (ws.take i)))) := atI_nat (by rw [List.getElem?_map, rowAt_get hs]; rfl)
      refine ⟨_, _, ag_name 4, as_one (as_set 3 (ae_call d2 (hr.mono (by omega)) (aa_cons (ae_ix (ix_A (u1 hr)) (ae_name 1 rfl (ae_name 3 rfl (ixa_T ?_ hg)))))))⟩
      refine aa_cons (ae_call d1 (hr.mono (by omega)) (aa_cons (ae_name 0 rfl (aa_cons (ae_name 4 rfl (aa_nil ⟨ys, y, rfl, aa_nil ⟨_, colW ys y, rfl, fun k ek => ?_, some (.str y), rfl, ?_⟩⟩))))))
      · rw [hM.len _ (rowAt_mem hs)]
        exact colW_lt k ek
      · rw [List.take_add_one, e]
        show _ = [_, _, _, some (D.int (runM ys rows 0 (ws.take i ++ [y]) : Nat)), some (D.str y)]
        rw [runM_app]
        rfl
  · rintro Γ2 L2 ⟨g4, rfl, rfl⟩
    rw [List.length_map, List.take_length]
    exact as_one (as_ret (ae_name 3 rfl ⟨_, .refl _, q⟩))
end
end K
namespace K
open PySem PySem.Spec PyProof.Rows L2 DL
set_option hygiene false in
local macro_rules | `(tactic| k_get) => `(tactic| first
  | refine ae_name 0 rfl ?_ | refine ae_name 1 rfl ?_ | refine ae_name 2 rfl ?_ | refine ae_name 3 rfl ?_ | refine ae_name 4 rfl ?_ | refine ae_name 5 rfl ?_ | refine ae_name 6 rfl ?_ | refine ae_name 7 rfl ?_ | refine ae_name 8 rfl ?_ | refine ae_name 9 rfl ?_ | refine ae_name 10 rfl ?_ | refine ae_name 11 rfl ?_ | refine ae_name 12 rfl ?_
  | refine ae_int ?_ | refine ae_bl ?_ | refine ae_non ?_ | refine ae_str ?_ | refine ae_tup ?_ | refine ae_lst ?_
  | refine ae_and ?_ | refine ae_or ?_ | refine ae_one ?_ | refine ae_not ?_ | refine ae_neg ?_ | refine ae_ifExp ?_
  | refine ae_eq (u64 hr) ?_ | refine ae_ne (u64 hr) ?_ | refine ae_lt (u64 hr) ?_ | refine ae_le ?_ | refine ae_gt ?_ | refine ae_ge ?_ | refine ae_in (u1 hr) ?_ | refine ae_nin (u1 hr) ?_ | refine ae_is ?_ | refine ae_isn ?_
  | refine ae_lele ?_
  | refine ae_add ?_ | refine ae_sub ?_ | refine ae_mul ?_ | refine ae_mod ?_ | refine ae_div ?_
  | refine ae_slice sl_A ?_ | refine ae_ix (ix_A (u1 hr)) ?_
  | refine ae_c_len B.len ?_ | refine ae_c_int B.int ?_ | refine ae_c_abs B.abs ?_ | refine ae_c_max B.max ?_ | refine ae_c_min B.min ?_ | refine ae_c_isi B.isinstance ?_
  | refine ae_tupL B.tuple (?_ : AL _ (.ListComp _ _ _ _) _ _ _) | refine ae_c_tuple B.tuple ?_ | refine ae_allL B.all ?_ | refine ae_anyL B.any ?_
  | refine ae_call (by assumption) (hr.mono (by omega)) ?_
  | refine ae_append ?_
  | refine ae_bltn (T := "tuple") B.tuple (by decide +kernel) ?_ | refine ae_bltn (T := "str") B.str (by decide +kernel) ?_ | refine ae_bltn (T := "list") B.list (by decide +kernel) ?_ | refine ae_bltn (T := "int") B.int (by decide +kernel) ?_ | refine ae_bltn (T := "bool") B.bool (by decide +kernel) ?_ )
set_option hygiene false in
local macro_rules | `(tactic| k_put) => `(tactic| first
  | refine add_I ?_ | refine add_T ?_ ?_ | refine add_S ?_ ?_ | refine sub_I ?_ | refine eq_I ?_ | refine ne_I ?_ | refine eq_S ?_ | refine ne_S ?_ | refine lt_I ?_ | refine lt_S ?_ | refine le_I ?_ | refine gt_I ?_ | refine ge_I ?_
  | refine isa_N ?_ | refine isnota_N ?_ | refine ixa_T ?_ rfl | refine ixa_N ?_ rfl | refine ixa_R (by assumption) ?_ rfl | refine mod_I ?_ ?_ | refine div_I ?_ ?_ | refine mul_I ?_ ?_ | refine mul_S ?_ ?_ ?_ ?_ | refine in_W (by assumption) ?_ | refine notIn_W (by assumption) ?_ | refine in_sign ?_ | refine in_L (by assumption) ?_ | refine notIn_L (by assumption) ?_ | refine in_T ?_ | refine notIn_T ?_ | refine eq_W0 ?_ | refine eq_W ?_ | refine ne_W ?_ | refine eq_C ?_ | refine ne_C ?_ | refine r_ipI ?_ )
set_option hygiene false in
local macro_rules | `(tactic| k_go) => `(tactic| first
  | (show DL.ASs _ _ _ _ _; first | refine as_one ?_ | refine as_cons ?_ | refine as_nil ?_)
  | (show DL.AS _ _ _ _ _; first | refine as_ret ?_ | refine as_if ?_ | refine as_expr ?_ | refine as_set 0 ?_ | refine as_set 1 ?_ | refine as_set 2 ?_ | refine as_set 3 ?_ | refine as_set 4 ?_ | refine as_set 5 ?_ | refine as_set 6 ?_ | refine as_set 7 ?_ | refine as_set 8 ?_ | refine as_set 9 ?_ | refine as_set 10 ?_ | refine as_set 11 ?_ | refine as_aug 0 ip_add rfl ?_ | refine as_aug 1 ip_add rfl ?_ | refine as_aug 2 ip_add rfl ?_ | refine as_aug 3 ip_add rfl ?_ | refine as_aug 4 ip_add rfl ?_ | refine as_aug 5 ip_add rfl ?_ | refine as_aug 6 ip_add rfl ?_ | refine as_retN ?_ | refine as_pass ?_ | refine as_break ?_ | refine as_continue ?_)
  | (show AE _ _ _ _ _; k_get)
  | (show AT _ _ _ _ _; first | refine at_w (?_ : AW _ (.BoolOp _ _ _) _ _ _) | refine at_not ?_ | refine at_eq (u64 hr) ?_ | refine at_ne (u64 hr) ?_ | refine at_lt (u64 hr) ?_ | refine at_le ?_ | refine at_gt ?_ | refine at_ge ?_ | refine at_in (u1 hr) ?_ | refine at_nin (u1 hr) ?_ | refine at_is ?_ | refine at_isn ?_ | refine at_lele ?_ | refine at_val ?_)
  | (show AW _ _ _ _ _; first | refine aw_and ?_ | refine aw_or ?_ | refine aw_and1 ?_ | refine aw_or1 ?_)
  | (show AA _ _ _ _ _; first | refine aa_cons ?_ | refine aa_nil ?_)
  | (show AO _ _ _ _ _; first | refine ao_some ?_ | refine ao_none ?_)
  | (show L2R _ _ _ _ _ _; k_put)
  | (show LcR _ _ _ _ _; first | refine len_T ?_ | refine len_N ?_ | refine len_S ?_ | refine len_L (by assumption) ?_ | refine len_D (by assumption) ?_ | refine c_intI ?_ | refine c_intB ?_ | refine c_abs ?_ | refine c_max ?_ | refine c_min ?_ | refine c_tupT ?_ | refine lr_tup (by assumption) ?_ | refine isi_tt ?_ | refine isi_ii ?_ | refine isi_ib ?_ | refine isi_ss ?_ | refine isi_is ?_ | refine isi_ts ?_ | refine isi_st ?_ | refine isi_bb ?_)
  | (show LsR _ _ _ _ _ _ _; first | refine sla_T ?_ | refine sla_S ?_)
  | refine ⟨Nat.le_of_ble_eq_true rfl, ?_⟩
  | refine ⟨_, rfl, ?_⟩ | refine ⟨_, _, rfl, ?_⟩ | refine ⟨_, _, _, rfl, ?_⟩ | refine ⟨_, _, _, _, rfl, ?_⟩
  | exact ⟨_, .refl _, q⟩)
set_option hygiene false in
local macro_rules | `(tactic| walk) => `(tactic| repeat k_go)
set_option hygiene false in
local macro_rules | `(tactic| k_few) => `(tactic| first | refine ⟨fun _ => ?_, (fun z => Bool.noConfusion z)⟩ | refine ⟨(fun z => Bool.noConfusion z), fun _ => ?_⟩)
set_option hygiene false in
local macro_rules | `(tactic| k_not) => `(tactic| refine ⟨fun hk => ?_, fun hk => ?_⟩)
/-- a tuple, a list of the store or a frozen one -/
def SeqR (L : Lp) (d : D) (xs : List D) : Prop := d = .tup xs ∨ LR L d xs
theorem SeqR.le {L L' : Lp} {d : D} {xs : List D} (h : SeqR L d xs) (le : Le L L') : SeqR L' d xs := h.imp id fun z => z.le le
theorem ixa_Q {C : DL.Ctx} {L : Lp} {Q : D → Lp → Prop} {i : Int} {d x : D} {xs : List D} (h : SeqR L d xs) (q : Q x L) (e : atI xs i = some x) : L2R C (rIxA C.X.K) d (.int i) L Q := by
  rcases h with rfl | h
  · exact ixa_T q e
  · exact ixa_R h q e
theorem len_Q {C : DL.Ctx} {L : Lp} {Q : D → Lp → Prop} {d : D} {xs : List D} (h : SeqR L d xs) (q : Q (.int xs.length) L) : LcR C (rLenA C.X.K) [d] L Q := by
  rcases h with rfl | h
  · exact len_T q
  · exact len_L h q
theorem ai_lr {C : DL.Ctx} {Γ : Gm} {L : Lp} {tg e : Expr} {R : List D → (Lp → Prop) → Lp → Prop} (h : AE C e Γ L fun d L1 => ∃ ds, LR L1 d ds ∧ (ds.length ≤ sizeLine → ∀ G : Lp → Prop, G L1 → R ds G L1)) : AI C tg e Γ L R := fun F σ H ok RV go =>
  wi_of (pi_list pe_we) (h _ σ H ok _ fun {F1} v d H1 L1 r c f ⟨ds, hd, q⟩ => by
    obtain ⟨a, vs, rfl, ha, ra, hz⟩ := hd.at_ c r
    rcases hd with ⟨t, rfl, ht⟩ | rfl
    · have ea : a = t := by injection r.ptrE
      subst ea
      refine ⟨a, rfl, ⟨vs, SqL.of ha⟩, go _ H1 L1 ds (fun L => L a = some (.lst ds)) c f (fun i H2 L2 s2 c2 g2 => ?_) (q hz _ ht)⟩
      obtain ⟨us, hb, rb, _⟩ := c2.at_ a _ g2
      have hq : SqL C.X.K H2 a us := SqL.of hb
      refine ⟨fun hi => ⟨us, us[i]'(by rw [rb.length]; exact hi), hq, List.getElem?_eq_getElem _⟩, fun hi => ⟨us, hq, by rw [rb.length, hi]; exact Nat.le_refl _⟩, fun x H' y hi => ?_⟩
      obtain ⟨e1, y⟩ := y
      subst e1
      obtain ⟨d, hd, rd⟩ := rb.getV (y us hq)
      exact ⟨d, hd, rd, .inl rfl⟩
    · have fa : F1 a := by cases r with | flst hl => exact hl
      refine ⟨a, rfl, ⟨vs, SqL.of ha⟩, go _ H1 L1 ds (fun _ => True) c f (fun i H2 L2 s2 c2 g2 => ?_) (q hz _ trivial)⟩
      have hq : SqL C.X.K H2 a vs := SqL.of (s2.fk _ _ fa ha)
      refine ⟨fun hi => ⟨vs, vs[i]'(by rw [ra.length]; exact hi), hq, List.getElem?_eq_getElem _⟩, fun hi => ⟨vs, hq, by rw [ra.length, hi]; exact Nat.le_refl _⟩, fun x H' y hi => ?_⟩
      obtain ⟨e1, y⟩ := y
      subst e1
      obtain ⟨d, hd, rd⟩ := ra.getV (y vs hq)
      exact ⟨d, hd, rd.mono s2.mv, .inl rfl⟩)
def iN (ns : List Nat) : List D := ns.map fun (g : Nat) => .int (g : Int)
theorem iN_len (ns : List Nat) : (iN ns).length = ns.length := List.length_map ..
theorem iN_get {ns : List Nat} {i g : Nat} (h : ns[i]? = some g) : atI (iN ns) (i : Int) = some (.int (g : Int)) := atI_nat (by unfold iN; rw [List.getElem?_map, h]; rfl)
theorem iN_inv {ns : List Nat} {i : Nat} {d : D} (h : (iN ns)[i]? = some d) : ∃ g, ns[i]? = some g ∧ d = .int (g : Int) := by
  unfold iN at h
  rw [List.getElem?_map] at h
  cases e : ns[i]? with
  | none => rw [e] at h; cases h
  | some g => rw [e] at h; cases h; exact ⟨g, rfl, rfl⟩
theorem rw_get {rows : Rws} {s : Nat} (h : s < rows.length) : atI (rows.map dRw) (s : Int) = some (dRw (rowAt rows s)) := atI_nat (by rw [List.getElem?_map, rowAt_get h]; rfl)
theorem cols_ci (cols : List Nat) : iN cols ++ [D.int (-1)] = (colsN cols).map fun c => D.int (ci c) := by
  unfold iN colsN
  rw [List.map_append, List.map_map]
  rfl
/-- the numbers of the states met so far -/
structure NumOk (kds : List (Key × D)) (o : List Nat) : Prop where
  len : kds.length = o.length
  at_ : ∀ s : Nat, valK kds (.inl (s : Int)) = if s ∈ o then some (.int (o.idxOf s : Nat)) else none
theorem NumOk.one (first : Nat) : NumOk [(.inl (first : Int), .int (0 : Nat))] [first] := ⟨rfl, fun s => by
  unfold valK
  by_cases e : s = first
  · subst e
    simp
  · rw [List.find?_cons_of_neg (by simpa using fun z => e (by omega)), if_neg (by simpa using e)]
    rfl⟩
theorem NumOk.add {kds : List (Key × D)} {o : List Nat} (h : NumOk kds o) {g : Nat} (hg : g ∉ o) : NumOk (putKD kds (.inl (g : Int)) (.int (o.length : Nat))) (o ++ [g]) := by
  have hn : valK kds (.inl (g : Int)) = none := by rw [h.at_, if_neg hg]
  refine ⟨?_, fun s => ?_⟩
  · unfold putKD
    have : (kds.any fun kv => decide (kv.1 = .inl (g : Int))) = false := by
      unfold valK at hn
      rw [Option.map_eq_none_iff, List.find?_eq_none] at hn
      rw [List.any_eq_false]
      exact hn
    rw [this]
    rw [if_neg Bool.false_ne_true, List.length_append, List.length_append, h.len]
    rfl
  · rw [valK_put, h.at_]
    by_cases e : s = g
    · subst e
      rw [if_pos rfl, if_pos (by simp), List.idxOf_append, if_neg hg]
      simp
    · rw [if_neg (fun z => e (by injection z with z; omega))]
      by_cases hs : s ∈ o
      · rw [if_pos hs, if_pos (List.mem_append_left _ hs), idx_app hs]
      · rw [if_neg hs, if_neg (by simp [hs, e])]
/-- the store on the way -/
def RS (L : Lp) (nb od : Addr) (kds : List (Key × D)) (o : List Nat) : Lp := put (put L nb (.kd kds)) od (.lst (iN o))
theorem RS.n {L : Lp} {nb od : Addr} {kds : List (Key × D)} {o : List Nat} (h : nb ≠ od) : RS L nb od kds o nb = some (.kd kds) := by unfold RS; rw [put_ne h, put_same]
theorem RS.o {L : Lp} {nb od : Addr} {kds : List (Key × D)} {o : List Nat} : RS L nb od kds o od = some (.lst (iN o)) := put_same
theorem RS.putN {L : Lp} {nb od : Addr} {kds kds' : List (Key × D)} {o : List Nat} (h : nb ≠ od) : put (RS L nb od kds o) nb (.kd kds') = RS L nb od kds' o := by
  unfold RS
  rw [put_comm h.symm, put_put]
theorem RS.putO {L : Lp} {nb od : Addr} {kds : List (Key × D)} {o o' : List Nat} : put (RS L nb od kds o) od (.lst (iN o')) = RS L nb od kds o' := by
  unfold RS
  rw [put_put]
theorem RS.le {L : Lp} {nb od : Addr} {kds : List (Key × D)} {o : List Nat} (h1 : L nb = none) (h2 : L od = none) (h : nb ≠ od) : Le L (RS L nb od kds o) := (le_put h1).trans (le_put (by rw [put_ne h.symm]; exact h2))
theorem fold_take {cols : List Nat} {r : RowM} {o : List Nat} {i : Nat} {c : Option Nat} (h : (colsN cols)[i]? = some c) : (((colsN cols).take (i + 1)).map (gl r)).foldl addO o = addO ((((colsN cols).take i).map (gl r)).foldl addO o) (gl r c) := by
  rw [List.take_add_one, h, List.map_append, List.foldl_append]
  rfl
def sp_reached : SpA := fun ds L Q _ => ∃ (dc dr : D) (cols : List Nat) (rows : Rws) (first n : Nat), ds = [dc, dr, .int first] ∧ LR L dc (iN cols) ∧ SeqR L dr (rows.map dRw) ∧ MOk n rows ∧ (∀ c ∈ cols, c < n) ∧ first < rows.length ∧ rows.length ≤ 100000 ∧ cols.length ≤ 1000 ∧ Q (dMw (reachM cols rows first)) L
section
variable {P : Program} {w : World} {K : PySem.W.Frag} {mg : Str → Option Value} {base : Heap} {f : Addr} {fd : FuncData}
set_option maxHeartbeats 0 in
theorem ok_reached (F : Fun K "reached" "reached" s_reached f fd) (hb : Binds K fd ["columns", "rows", "first"] []) (B : Bl mg) (d1 : Def P w K mg base "goal_of" 1 sp_goal_of) : FnA P w K mg base 2 f sp_reached := by
  refine fnA F sc_reached hb (fun ds L Q R h => by obtain ⟨_, _, _, _, _, _, rfl, _⟩ := h; rfl) fun cdv A outer s H E ds L Q R hr h => ?_
  obtain ⟨dc, dr, cols, rows, first, n, rfl, hc, hrw, hM, hcn, hf, hz, hcz, q⟩ := h
  refine as_cons (as_set 3 (ae_kdI (ae_name 2 rfl ⟨.inl (first : Int), rfl, ae_int fun nb hnb => ?_⟩)))
  refine as_cons (as_set 4 (ae_lst (aa_cons (ae_name 2 rfl (aa_nil ⟨Nat.le_of_ble_eq_true rfl, fun od hod => ?_⟩)))))
  have hne : nb ≠ od := fun e => by rw [e, put_same] at hod; cases hod
  have hod0 : L od = none := by rw [put_ne hne.symm] at hod; exact hod
  have hLe : ∀ kds o, Le L (RS L nb od kds o) := fun kds o => RS.le hnb hod0 hne
  refine as_cons (as_set 5 (ae_int ?_))
  have e0 : put (put L nb (.kd [(.inl (first : Int), .int 0)])) od (.lst [.int (first : Int)]) = RS L nb od [(.inl (first : Int), .int (0 : Nat))] [first] := rfl
  rw [e0]
  have O0 : OrdI cols rows first 0 [first] := ⟨by simp, fun s hs => by rw [List.mem_singleton.mp hs]; exact hf, rfl, Nat.zero_le _, fun i s hi => absurd hi (Nat.not_lt_zero _)⟩
  refine as_mid (fun Γ' L' => ∃ (kds : List (Key × D)) (g5 g6 g7 : Option D), NumOk kds (orderOf cols rows first) ∧ L' = RS L nb od kds (orderOf cols rows first) ∧ Γ' = [some dc, some dr, some (.int first), some (.ptr nb), some (.ptr od), g5, g6, g7, none, none, none]) ?_ ?_
  · refine as_while (fun m Γ1 L1 => ∃ (k : Nat) (o : List Nat) (kds : List (Key × D)) (g6 g7 : Option D), OrdI cols rows first k o ∧ orderOf cols rows first = ordW cols rows m k o ∧ rows.length < k + m ∧ NumOk kds o ∧ L1 = RS L nb od kds o ∧ Γ1 = [some dc, some dr, some (.int first), some (.ptr nb), some (.ptr od), some (.int (k : Nat)), g6, g7, none, none, none]) (rows.length + 1) ⟨0, [first], _, none, none, O0, rfl, by omega, .one first, rfl, rfl⟩ ?_
    rintro m Γ1 L1 ⟨k, o, kds, g6, g7, O, eO, hm, hN, rfl, rfl⟩
    refine at_lt (u64 hr) (ae_name 5 rfl (ae_c_len B.len (ae_name 4 rfl (len_L (.st RS.o) (lt_I ⟨_, rfl, fun hk => ?_, fun hk => ?_⟩)))))
    · have hk := of_decide_eq_true hk
      rw [iN_len] at hk
      have hk : k < o.length := by omega
      obtain ⟨m, rfl⟩ : ∃ m', m = m' + 1 := ⟨m - 1, by
        have := nodup_lt O.nd O.lt
        omega⟩
      have es : o[k]? = some o[k] := List.getElem?_eq_getElem hk
      generalize o[k] = st at es
      have hst := O.lt st (List.mem_of_getElem? es)
      have O2 := ordI_step hM hcn O es
      have eO2 : orderOf cols rows first = ordW cols rows m (k + 1) (ordI cols (rowAt rows st) o) := by
        rw [eO]
        show (match o[k]? with | none => _ | some s => _) = _
        first | (rw [es]; rfl) | rw [es]
      refine as_cons (as_for (ai_L (al_disp (aa_star (ae_name 0 rfl ⟨_, .inr (hc.le (hLe _ _)), aa_cons (ae_neg (ae_int ⟨1, rfl, aa_nil ⟨?_, fun hz2 => ?_⟩⟩))⟩)))))
      · rw [List.length_append, iN_len, sl_eq]
        show cols.length + 1 ≤ _
        omega
      rw [cols_ci]
      refine ⟨fun i Γ2 L2 => ∃ (kds : List (Key × D)) (g6 g7 : Option D), NumOk kds ((((colsN cols).take i).map (gl (rowAt rows st))).foldl addO o) ∧ L2 = RS L nb od kds ((((colsN cols).take i).map (gl (rowAt rows st))).foldl addO o) ∧ Γ2 = [some dc, some dr, some (.int first), some (.ptr nb), some (.ptr od), some (.int (k : Nat)), g6, g7, none, none, none], ⟨kds, g6, g7, hN, rfl, rfl⟩, fun _ _ _ _ => trivial, ?_, ?_⟩
      · rintro i d Γ2 L2 hd ⟨kds, g6, g7, hN, rfl, rfl⟩
        rw [List.getElem?_map] at hd
        cases ec : (colsN cols)[i]? with
        | none => rw [ec] at hd; cases hd
        | some c =>
          rw [ec] at hd
          cases hd
          have hcc := colsN_lt hcn (List.mem_of_getElem? ec)
          have eF := fold_take (r := rowAt rows st) (o := o) ec
          obtain ⟨t, ht⟩ := fold_pre (((colsN cols).take i).map (gl (rowAt rows st))) o
          have hlt : ∀ s ∈ (((colsN cols).take i).map (gl (rowAt rows st))).foldl addO o, s < rows.length := fun s hs => by
            rw [fold_mem] at hs
            rcases hs with hs | hs
            · exact O.lt s hs
            · obtain ⟨c', hc', rfl⟩ := List.mem_map.mp hs
              exact hM.gl hst c' (colsN_lt hcn (List.mem_of_mem_take hc'))
          have hnd := fold_nodup (((colsN cols).take i).map (gl (rowAt rows st))) o O.nd
          have ek : ((((colsN cols).take i).map (gl (rowAt rows st))).foldl addO o)[k]? = some st := by rw [ht, List.getElem?_append_left hk]; exact es
          obtain ⟨oi, hoi⟩ : ∃ oi, (((colsN cols).take i).map (gl (rowAt rows st))).foldl addO o = oi := ⟨_, rfl⟩
          rw [hoi] at hN hlt hnd ek eF ⊢
          have hol := nodup_lt hnd hlt
          refine ⟨_, _, ag_name 6, ?_⟩
          refine as_cons (as_set 7 (ae_call d1 (hr.mono (by omega)) (aa_cons (ae_ix (ix_A (u1 hr)) (ae_name 1 rfl (ae_ix (ix_A (u1 hr)) (ae_name 4 rfl (ae_name 5 rfl (ixa_R (.st RS.o) (ixa_Q (hrw.le (hLe _ _)) ?_ (rw_get hst)) (iN_get ek))))))))))
          refine aa_cons (ae_name 6 rfl (aa_nil ⟨_, c, rfl, fun j ej => by rw [hM.len _ (rowAt_mem hst)]; exact hcc j ej, ?_⟩))
          refine as_one (as_if (at_cmpJ (ae_name 7 rfl (ae_name 3 rfl (j_ninK (k := .inl ((gl (rowAt rows st) c : Nat) : Int)) (u1 hr) (RS.n hne) ⟨_, rfl, fun hz3 => ?_, fun hz3 => ?_⟩)))))
          · have hg : gl (rowAt rows st) c ∉ oi := fun hg => by
              rw [hN.at_, if_pos hg] at hz3
              cases hz3
            have hkl := hN.len
            refine as_cons (as_subJ (ae_c_len B.len (ae_name 4 rfl (len_L (.st RS.o) (ae_name 3 rfl (ae_name 7 rfl (st_K (k := .inl ((gl (rowAt rows st) c : Nat) : Int)) (u1 hr) (RS.n hne) (by rw [hkl, sl_eq]; omega) ?_)))))))
            rw [RS.putN hne, iN_len]
            refine as_one (as_expr (ae_append (ae_name 4 rfl ⟨od, _, rfl, RS.o, ae_name 7 rfl ⟨_, RS.o, by rw [iN_len, sl_eq]; omega, ?_⟩⟩)))
            have ea : addO oi (gl (rowAt rows st) c) = oi ++ [gl (rowAt rows st) c] := if_neg hg
            refine ⟨_, _, _, by rw [eF, ea]; exact hN.add hg, ?_, rfl⟩
            rw [eF, ea, show iN oi ++ [D.int ((gl (rowAt rows st) c : Nat) : Int)] = iN (oi ++ [gl (rowAt rows st) c]) from by unfold iN; rw [List.map_append]; rfl]
            exact RS.putO
          · have hg : gl (rowAt rows st) c ∈ oi := by
              by_cases hg : gl (rowAt rows st) c ∈ oi
              · exact hg
              · rw [hN.at_, if_neg hg] at hz3
                cases hz3
            have ea : addO oi (gl (rowAt rows st) c) = oi := if_pos hg
            exact as_nil ⟨_, _, _, by rw [eF, ea]; exact hN, by rw [eF, ea], rfl⟩
      · rintro Γ2 L2 ⟨kds, g6, g7, hN, rfl, rfl⟩
        rw [List.length_map, List.take_length] at *
        refine as_one (as_aug 5 ip_add rfl (ae_int (r_ipI ⟨m, by omega, k + 1, _, kds, g6, g7, O2, eO2, by omega, hN, rfl, rfl⟩)))
    · have hk := of_decide_eq_false hk
      rw [iN_len] at hk
      have hko : k = o.length := by have := O.kl; omega
      have eo : orderOf cols rows first = o := by
        rw [eO]
        cases m with
        | zero => rfl
        | succ m =>
          show (match o[k]? with | none => _ | some s => _) = _
          have : o[k]? = none := List.getElem?_eq_none (by omega)
          first | (rw [this]; rfl) | rw [this]
      rw [eo]
      exact ⟨kds, _, g6, g7, hN, rfl, rfl⟩
  · rintro Γ' L' ⟨kds, g5, g6, g7, hN, rfl, rfl⟩
    have O := order_ok hM hcn hf
    have eR : reachM cols rows first = (orderOf cols rows first).map fun s => renum cols (orderOf cols rows first) (rowAt rows s) := rfl
    rw [eR] at q
    generalize orderOf cols rows first = o at hN O q ⊢
    have hol := nodup_lt O.nd O.lt
    refine as_cons (as_set 8 (ae_lst (aa_nil ⟨Nat.zero_le _, fun fl hfl => ?_⟩)))
    have n1 : RS L nb od kds o nb = some (.kd kds) := RS.n hne
    have n2 : RS L nb od kds o od = some (.lst (iN o)) := RS.o
    have fo : od ≠ fl := ne_of_free n2 hfl
    have fn : nb ≠ fl := ne_of_free n1 hfl
    have hl0 := hLe kds o
    generalize RS L nb od kds o = L1 at n1 n2 hfl hl0
    have m1 : ∀ x, put L1 fl (.lst x) nb = some (.kd kds) := fun x => by rw [put_ne fn]; exact n1
    have m2 : ∀ x, put L1 fl (.lst x) od = some (.lst (iN o)) := fun x => by rw [put_ne fo]; exact n2
    have hl1 : ∀ x, Le L (put L1 fl (.lst x)) := fun x => hl0.trans (le_put hfl)
    refine as_cons (as_for (ai_lst (ae_name 4 rfl ⟨od, _, rfl, m2 _, fun hz2 => ?_⟩)))
    refine ⟨fun i Γ2 L2 => ∃ (g9 g10 : Option D), L2 = put L1 fl (.lst ((o.take i).map fun s => dRw (renum cols o (rowAt rows s)))) ∧ Γ2 = [some dc, some dr, some (.int first), some (.ptr nb), some (.ptr od), g5, g6, g7, some (.ptr fl), g9, g10], ⟨none, none, rfl, rfl⟩, fun i Γ2 L2 ⟨_, _, e, _⟩ => by rw [e]; exact m2 _, ?_, ?_⟩
    · rintro i d Γ2 L2 hd ⟨g9, g10, rfl, rfl⟩
      obtain ⟨st, es, rfl⟩ := iN_inv hd
      have hst := O.lt st (List.mem_of_getElem? es)
      have hio := (List.getElem?_eq_some_iff.mp es).1
      have cl := O.cl i st hio es
      refine ⟨_, _, ag_name 9, ?_⟩
      refine as_cons (as_set 10 (ae_ix (ix_A (u1 hr)) (ae_name 1 rfl (ae_name 9 rfl (ixa_Q (hrw.le (hl1 _)) ?_ (rw_get hst))))))
      have e1 : atI ([.bl (rowAt rows st).1, dI (rowAt rows st).2.1, .int ((rowAt rows st).2.2 : Nat)] : List D) ((0 : Nat) : Int) = some (.bl (rowAt rows st).1) := atI_nat rfl
      have e2 : atI ([.bl (rowAt rows st).1, dI (rowAt rows st).2.1, .int ((rowAt rows st).2.2 : Nat)] : List D) ((1 : Nat) : Int) = some (dI (rowAt rows st).2.1) := atI_nat rfl
      have e3 : atI ([.bl (rowAt rows st).1, dI (rowAt rows st).2.1, .int ((rowAt rows st).2.2 : Nat)] : List D) ((2 : Nat) : Int) = some (.int ((rowAt rows st).2.2 : Nat)) := atI_nat rfl
      refine as_one (as_expr (ae_append (ae_name 8 rfl ⟨fl, _, rfl, put_same, ae_tup (aa_cons (ae_ix (ix_A (u1 hr)) (ae_name 10 rfl (ae_int (ixa_T ?_ e1)))))⟩)))
      have vN : ∀ c ∈ colsN cols, valK kds (.inl ((gl (rowAt rows st) c : Nat) : Int)) = some (.int (o.idxOf (gl (rowAt rows st) c) : Nat)) := fun c hcc => by rw [hN.at_, if_pos (cl c hcc)]
      refine aa_cons (ae_tupL B.tuple (al_map1 6 (ai_lr (ae_name 0 rfl ⟨_, hc.le (hl1 _), fun hz3 G hG => ⟨_, cols, fun (c : Nat) => .int (c : Int), fun (c : Nat) => .int (o.idxOf (gl (rowAt rows st) (some c)) : Nat), rfl, hG, hz3, fun y hy s H Cc cl2 fp Q q => ?_, ?_⟩⟩))))
      · have hyl : y < (rowAt rows st).2.1.length := by rw [hM.len _ (rowAt_mem hst)]; exact hcn y hy
        have e4 : atI ((rowAt rows st).2.1.map fun (g : Nat) => D.int (g : Int)) (y : Int) = some (.int (gl (rowAt rows st) (some y) : Nat)) := atI_nat (by
          rw [List.getElem?_map, getD_mem (d := 0) hyl]
          rfl)
        exact ae_sbJ (ae_name 3 rfl (ae_ix (ix_A (u1 hr)) (ae_ix (ix_A (u1 hr)) (ae_name 10 rfl (ae_int (ixa_T (ae_name 6 rfl (ixa_T (sb_K (k := .inl ((gl (rowAt rows st) (some y) : Nat) : Int)) (u1 hr) (m1 _) (vN _ (List.mem_append_left _ (List.mem_map_of_mem hy))) q (fun _ _ => rfl)) e4)) e2))))))
      refine aa_cons (ae_sbJ (ae_name 3 rfl (ae_ix (ix_A (u1 hr)) (ae_name 10 rfl (ae_int (ixa_T (sb_K (k := .inl (((rowAt rows st).2.2 : Nat) : Int)) (u1 hr) (m1 _) (vN none (List.mem_append_right _ List.mem_cons_self)) ?_ (fun _ _ => rfl)) e3))))))
      refine aa_nil ⟨Nat.le_of_ble_eq_true rfl, _, put_same, by rw [List.length_map, List.length_take, sl_eq]; omega, _, _, ?_, rfl⟩
      have er : D.tup [D.bl (rowAt rows st).1, D.tup (cols.map fun (c : Nat) => D.int (o.idxOf (gl (rowAt rows st) (some c)) : Nat)), D.int (o.idxOf (gl (rowAt rows st) none) : Nat)] = dRw (renum cols o (rowAt rows st)) := by
        unfold dRw renum dI
        rw [List.map_map]
        rfl
      rw [put_put, List.take_add_one, es, List.map_append]
      show put L1 fl (.lst (_ ++ [D.tup [D.bl (rowAt rows st).1, D.tup (cols.map fun (c : Nat) => D.int (o.idxOf (gl (rowAt rows st) (some c)) : Nat)), D.int (o.idxOf (gl (rowAt rows st) none) : Nat)]])) = _
      rw [er]
      rfl
    · rintro Γ2 L2 ⟨g9, g10, rfl, rfl⟩
      rw [iN_len, List.take_length]
      refine as_one (as_ret (ae_c_tuple B.tuple (ae_name 8 rfl (lr_tup (.st put_same) ⟨L, hl1 _, ?_⟩))))
      unfold dMw at q
      rw [List.map_map] at q
      exact q
end
end K
namespace K
open PySem PySem.Spec PyProof.Rows L2 DL
set_option hygiene false in
local macro_rules | `(tactic| k_get) => `(tactic| first
  | refine ae_name 0 rfl ?_ | refine ae_name 1 rfl ?_ | refine ae_name 2 rfl ?_ | refine ae_name 3 rfl ?_ | refine ae_name 4 rfl ?_ | refine ae_name 5 rfl ?_ | refine ae_name 6 rfl ?_ | refine ae_name 7 rfl ?_ | refine ae_name 8 rfl ?_ | refine ae_name 9 rfl ?_ | refine ae_name 10 rfl ?_ | refine ae_name 11 rfl ?_ | refine ae_name 12 rfl ?_
  | refine ae_int ?_ | refine ae_bl ?_ | refine ae_non ?_ | refine ae_str ?_ | refine ae_tup ?_ | refine ae_lst ?_
  | refine ae_and ?_ | refine ae_or ?_ | refine ae_one ?_ | refine ae_not ?_ | refine ae_neg ?_ | refine ae_ifExp ?_
  | refine ae_eq (u64 hr) ?_ | refine ae_ne (u64 hr) ?_ | refine ae_lt (u64 hr) ?_ | refine ae_le ?_ | refine ae_gt ?_ | refine ae_ge ?_ | refine ae_in (u1 hr) ?_ | refine ae_nin (u1 hr) ?_ | refine ae_is ?_ | refine ae_isn ?_
  | refine ae_lele ?_
  | refine ae_add ?_ | refine ae_sub ?_ | refine ae_mul ?_ | refine ae_mod ?_ | refine ae_div ?_
  | refine ae_slice sl_A ?_ | refine ae_ix (ix_A (u1 hr)) ?_
  | refine ae_c_len B.len ?_ | refine ae_c_int B.int ?_ | refine ae_c_abs B.abs ?_ | refine ae_c_max B.max ?_ | refine ae_c_min B.min ?_ | refine ae_c_isi B.isinstance ?_
  | refine ae_tupL B.tuple (?_ : AL _ (.ListComp _ _ _ _) _ _ _) | refine ae_c_tuple B.tuple ?_ | refine ae_allL B.all ?_ | refine ae_anyL B.any ?_
  | refine ae_call (by assumption) (hr.mono (by omega)) ?_
  | refine ae_append ?_
  | refine ae_bltn (T := "tuple") B.tuple (by decide +kernel) ?_ | refine ae_bltn (T := "str") B.str (by decide +kernel) ?_ | refine ae_bltn (T := "list") B.list (by decide +kernel) ?_ | refine ae_bltn (T := "int") B.int (by decide +kernel) ?_ | refine ae_bltn (T := "bool") B.bool (by decide +kernel) ?_ )
set_option hygiene false in
local macro_rules | `(tactic| k_put) => `(tactic| first
  | refine add_I ?_ | refine add_T ?_ ?_ | refine add_S ?_ ?_ | refine sub_I ?_ | refine eq_I ?_ | refine ne_I ?_ | refine eq_S ?_ | refine ne_S ?_ | refine lt_I ?_ | refine lt_S ?_ | refine le_I ?_ | refine gt_I ?_ | refine ge_I ?_
  | refine isa_N ?_ | refine isnota_N ?_ | refine ixa_T ?_ rfl | refine ixa_N ?_ rfl | refine ixa_R (by assumption) ?_ rfl | refine mod_I ?_ ?_ | refine div_I ?_ ?_ | refine mul_I ?_ ?_ | refine mul_S ?_ ?_ ?_ ?_ | refine in_W (by assumption) ?_ | refine notIn_W (by assumption) ?_ | refine in_sign ?_ | refine in_L (by assumption) ?_ | refine notIn_L (by assumption) ?_ | refine in_T ?_ | refine notIn_T ?_ | refine eq_W0 ?_ | refine eq_W ?_ | refine ne_W ?_ | refine eq_C ?_ | refine ne_C ?_ | refine r_ipI ?_ )
set_option hygiene false in
local macro_rules | `(tactic| k_go) => `(tactic| first
  | (show DL.ASs _ _ _ _ _; first | refine as_one ?_ | refine as_cons ?_ | refine as_nil ?_)
  | (show DL.AS _ _ _ _ _; first | refine as_ret ?_ | refine as_if ?_ | refine as_expr ?_ | refine as_set 0 ?_ | refine as_set 1 ?_ | refine as_set 2 ?_ | refine as_set 3 ?_ | refine as_set 4 ?_ | refine as_set 5 ?_ | refine as_set 6 ?_ | refine as_set 7 ?_ | refine as_set 8 ?_ | refine as_set 9 ?_ | refine as_set 10 ?_ | refine as_set 11 ?_ | refine as_aug 0 ip_add rfl ?_ | refine as_aug 1 ip_add rfl ?_ | refine as_aug 2 ip_add rfl ?_ | refine as_aug 3 ip_add rfl ?_ | refine as_aug 4 ip_add rfl ?_ | refine as_aug 5 ip_add rfl ?_ | refine as_aug 6 ip_add rfl ?_ | refine as_retN ?_ | refine as_pass ?_ | refine as_break ?_ | refine as_continue ?_)
  | (show AE _ _ _ _ _; k_get)
  | (show AT _ _ _ _ _; first | refine at_w (?_ : AW _ (.BoolOp _ _ _) _ _ _) | refine at_not ?_ | refine at_eq (u64 hr) ?_ | refine at_ne (u64 hr) ?_ | refine at_lt (u64 hr) ?_ | refine at_le ?_ | refine at_gt ?_ | refine at_ge ?_ | refine at_in (u1 hr) ?_ | refine at_nin (u1 hr) ?_ | refine at_is ?_ | refine at_isn ?_ | refine at_lele ?_ | refine at_val ?_)
  | (show AW _ _ _ _ _; first | refine aw_and ?_ | refine aw_or ?_ | refine aw_and1 ?_ | refine aw_or1 ?_)
  | (show AA _ _ _ _ _; first | refine aa_cons ?_ | refine aa_nil ?_)
  | (show AO _ _ _ _ _; first | refine ao_some ?_ | refine ao_none ?_)
  | (show L2R _ _ _ _ _ _; k_put)
  | (show LcR _ _ _ _ _; first | refine len_T ?_ | refine len_N ?_ | refine len_S ?_ | refine len_L (by assumption) ?_ | refine len_D (by assumption) ?_ | refine c_intI ?_ | refine c_intB ?_ | refine c_abs ?_ | refine c_max ?_ | refine c_min ?_ | refine c_tupT ?_ | refine lr_tup (by assumption) ?_ | refine isi_tt ?_ | refine isi_ii ?_ | refine isi_ib ?_ | refine isi_ss ?_ | refine isi_is ?_ | refine isi_ts ?_ | refine isi_st ?_ | refine isi_bb ?_)
  | (show LsR _ _ _ _ _ _ _; first | refine sla_T ?_ | refine sla_S ?_)
  | refine ⟨Nat.le_of_ble_eq_true rfl, ?_⟩
  | refine ⟨_, rfl, ?_⟩ | refine ⟨_, _, rfl, ?_⟩ | refine ⟨_, _, _, rfl, ?_⟩ | refine ⟨_, _, _, _, rfl, ?_⟩
  | exact ⟨_, .refl _, q⟩)
set_option hygiene false in
local macro_rules | `(tactic| walk) => `(tactic| repeat k_go)
set_option hygiene false in
local macro_rules | `(tactic| k_few) => `(tactic| first | refine ⟨fun _ => ?_, (fun z => Bool.noConfusion z)⟩ | refine ⟨(fun z => Bool.noConfusion z), fun _ => ?_⟩)
set_option hygiene false in
local macro_rules | `(tactic| k_not) => `(tactic| refine ⟨fun hk => ?_, fun hk => ?_⟩)
theorem u16 {k : Nat} {A : Around} (r : Room k A) : A.units + 16 < cLine := by have := r.un; omega
def dSg (s : Sgn) : D := .tup [.bl s.1, .int (s.2.1 : Nat), dI s.2.2.1, .int (s.2.2.2 : Nat)]
theorem nks_I : ∀ ns : List Nat, nks (ns.map fun (g : Nat) => D.int (g : Int)) = ns.map fun (g : Nat) => NestedKey.num (g : Int)
  | [] => by simp [nks]
  | n :: ns => by rw [List.map_cons, nks, nks_I ns, nk]; rfl
theorem num_inj2 : ∀ {xs ys : List Nat}, (xs.map fun (g : Nat) => NestedKey.num (g : Int)) = ys.map (fun (g : Nat) => NestedKey.num (g : Int)) → xs = ys
  | [], [], _ => rfl
  | [], _ :: _, h => by cases h
  | _ :: _, [], h => by cases h
  | x :: xs, y :: ys, h => by
    rw [List.map_cons, List.map_cons] at h
    injection h with h1 h2
    injection h1 with h1
    rw [num_inj2 h2, show x = y by omega]
theorem dSg_inj : ∀ x y : Sgn, nk (dSg x) = nk (dSg y) → x = y := fun ⟨a, b, c, d⟩ ⟨a', b', c', d'⟩ h => by
  unfold dSg dI at h
  simp only [nk, nks, nks_I] at h
  injection h with h
  injection h with h1 h
  injection h with h2 h
  injection h with h3 h
  injection h with h4 _
  injection h1 with h1
  injection h2 with h2
  injection h3 with h3
  injection h4 with h4
  have e1 : a = a' := by
    cases a <;> cases a' <;> simp_all
  rw [e1, num_inj2 h3, show b = b' by omega, show d = d' by omega]
theorem dSg_ok (s : Sgn) : okN (dSg s) = true := by
  unfold dSg dI
  rw [okN_okD, okD, okDs, okDs, okDs, okDs, okDs, okD, okD, okD, okD, okDs_map _ _ fun _ _ => by rw [okD]]
  rfl
theorem dSg_dep (s : Sgn) : (nk (dSg s)).depth ≤ 8 := by
  have h : ∀ ns : List Nat, NestedKey.depthAll (ns.map fun (g : Nat) => NestedKey.num (g : Int)) ≤ 1 := by
    intro ns
    induction ns with
    | nil => simp [NestedKey.depthAll]
    | cons n ns ih => rw [List.map_cons, NestedKey.depthAll, NestedKey.depth]; omega
  have := h s.2.2.1
  unfold dSg dI
  simp only [nk, nks, nks_I, NestedKey.depth, NestedKey.depthAll]
  omega
theorem num_snoc {α : Type} [DecidableEq α] (xs : List α) (x : α) : num (xs ++ [x]) = num xs ++ [(addO (ddp xs) x).idxOf x] := by
  unfold num
  rw [ddp_snoc, List.map_append]
  obtain ⟨t, ht⟩ := addO_pre (ddp xs) x
  congr 1
  rw [ht]
  refine List.map_congr_left fun y hy => ?_
  exact idx_app (ddp_mem.mpr hy)
/-- the store within a lap -/
def BS (L : Lp) (nb sp : Addr) (ks : List Sgn) (ns : List Nat) : Lp := put (put L nb (.nd (dNum dSg ks))) sp (.lst (iN ns))
section
variable {L : Lp} {nb sp : Addr} {ks : List Sgn} {ns : List Nat}
theorem BS.n (h : nb ≠ sp) : BS L nb sp ks ns nb = some (.nd (dNum dSg ks)) := by unfold BS; rw [put_ne h, put_same]
theorem BS.s : BS L nb sp ks ns sp = some (.lst (iN ns)) := put_same
theorem BS.putN {ks' : List Sgn} (h : nb ≠ sp) : put (BS L nb sp ks ns) nb (.nd (dNum dSg ks')) = BS L nb sp ks' ns := by
  unfold BS
  rw [put_comm h.symm, put_put]
theorem BS.putS {ns' : List Nat} : put (BS L nb sp ks ns) sp (.lst (iN ns')) = BS L nb sp ks ns' := by
  unfold BS
  rw [put_put]
theorem BS.le (h1 : L nb = none) (h2 : L sp = none) (h : nb ≠ sp) : Le L (BS L nb sp ks ns) := (le_put h1).trans (le_put (by rw [put_ne h.symm]; exact h2))
end
theorem iN_snoc (ns : List Nat) (g : Nat) : iN ns ++ [D.int (g : Int)] = iN (ns ++ [g]) := by unfold iN; rw [List.map_append]; rfl
def sp_blocks_of : SpA := fun ds L Q _ => ∃ (rows : Rws) (n : Nat), ds = [dMw rows] ∧ MOk n rows ∧ 0 < rows.length ∧ rows.length ≤ 100000 ∧ ∀ l, L l = none → Q (.ptr l) (put L l (.lst (iN (blocksM rows))))
section
variable {P : Program} {w : World} {K : PySem.W.Frag} {mg : Str → Option Value} {base : Heap} {f : Addr} {fd : FuncData}
set_option maxHeartbeats 0 in
theorem ok_blocks_of (F : Fun K "blocks_of" "blocks_of" s_blocks_of f fd) (hb : Binds K fd ["rows"] []) (B : Bl mg) : FnA P w K mg base 1 f sp_blocks_of := by
  refine fnA F sc_blocks_of hb (fun ds L Q R h => by obtain ⟨_, _, rfl, _⟩ := h; rfl) fun cdv A outer s H E ds L Q R hr h => ?_
  obtain ⟨rows, n, rfl, hM, h0, hz, q⟩ := h
  have hne : rows ≠ [] := List.length_pos_iff.mp h0
  refine as_cons (as_asg (ae_tup (aa_cons (ae_L (al_map1 3 (ai_tup (ae_name 0 rfl ⟨_, rfl, fun hz2 => ⟨_, rows, dRw, fun _ => .int (0 : Nat), rfl, trivial, hz2, fun y hy s H Cc cl fp Q q => ae_int q, fun b0 hb0 => aa_cons (ae_int (aa_nil ⟨Nat.le_of_ble_eq_true rfl, _, _, ag_tup (ags_cons (ag_name 1) (ags_cons (ag_name 2) ags_nil)), ?_⟩))⟩⟩)))))))
  have e0 : rows.map (fun _ => D.int (0 : Nat)) = iN (rows.map fun _ => 0) := by unfold iN; rw [List.map_map]; rfl
  rw [e0]
  refine as_one (as_while (fun m Γ1 L1 => ∃ (b : Addr) (bl : List Nat) (cnt : Nat) (g3 g4 g5 g6 g7 g8 : Option D), Way rows bl cnt ∧ blocksM rows = blkW rows m bl cnt ∧ rows.length < cnt + m ∧ L1 b = some (.lst (iN bl)) ∧ Le L L1 ∧ Γ1 = [some (dMw rows), some (.ptr b), some (.int (cnt : Nat)), g3, g4, g5, g6, g7, g8]) (rows.length + 1) ⟨b0, _, 0, none, none, none, none, none, none, way0 rows, rfl, by omega, put_same, le_put hb0, rfl⟩ ?_)
  rintro m Γ1 L1 ⟨b, bl, cnt, g3, g4, g5, g6, g7, g8, W, eB, hm, hbl, hle, rfl⟩
  refine at_val (ae_bl ⟨true, rfl, fun _ => ?_, fun z => nomatch z⟩)
  have hml := signs_more W
  have hsl := signs_le W.len
  obtain ⟨m, rfl⟩ : ∃ m', m = m' + 1 := ⟨m - 1, by omega⟩
  have hSl := sgs_len W.len
  refine as_cons (as_set 4 (ae_nd0 fun nb hnb => ?_))
  refine as_cons (as_set 5 (ae_lst (aa_nil ⟨Nat.zero_le _, fun sp hsp => ?_⟩)))
  have hns : nb ≠ sp := fun e => by rw [e, put_same] at hsp; cases hsp
  have hsp1 : L1 sp = none := by rw [put_ne hns.symm] at hsp; exact hsp
  have hbn : b ≠ nb := ne_of_free hbl hnb
  have hbs : b ≠ sp := ne_of_free hbl hsp1
  have hLe : ∀ ks ns, Le L1 (BS L1 nb sp ks ns) := fun ks ns => BS.le hnb hsp1 hns
  have e1 : put (put L1 nb (.nd [])) sp (.lst []) = BS L1 nb sp [] [] := rfl
  rw [e1]
  refine as_cons (as_for (ai_enumT B.enumerate (ae_name 0 rfl ⟨_, .t _, fun hz2 => ?_⟩)))
  refine ⟨fun i Γ2 L2 => ∃ (g6 g7 g3 : Option D), L2 = BS L1 nb sp (ddp ((signs bl rows).take i)) (num ((signs bl rows).take i)) ∧ Γ2 = [some (dMw rows), some (.ptr b), some (.int (cnt : Nat)), g3, some (.ptr nb), some (.ptr sp), g6, g7, g8], ⟨g6, g7, g3, rfl, rfl⟩, fun _ _ _ _ => trivial, ?_, ?_⟩
  · rintro i d Γ2 L2 hd ⟨g6, g7, g3, rfl, rfl⟩
    obtain ⟨x, hx, rfl⟩ := enumD_inv hd
    rw [List.getElem?_map] at hx
    cases er : rows[i]? with
    | none => rw [er] at hx; cases hx
    | some r =>
      rw [er] at hx
      cases hx
      have hi := (List.getElem?_eq_some_iff.mp er).1
      have eRow : rowAt rows i = r := by
        have := rowAt_get hi
        rw [er] at this
        exact (Option.some.inj this).symm
      have hmr : r ∈ rows := List.mem_of_getElem? er
      have eS : (signs bl rows)[i]? = some (sg bl r (bl.getD i 0)) := by rw [sgs_get W.len hi, eRow]
      have eT : (signs bl rows).take (i + 1) = (signs bl rows).take i ++ [sg bl r (bl.getD i 0)] := by rw [List.take_add_one, eS]; rfl
      have hNl : (num ((signs bl rows).take i)).length = i := by rw [num_len, List.length_take, hSl]; omega
      have hDl : (ddp ((signs bl rows).take i)).length ≤ i := by
        have := nodup_subl (ddp_nodup ((signs bl rows).take i)) fun x hx => ddp_mem.mp hx
        rw [List.length_take] at this
        omega
      have eN := num_snoc ((signs bl rows).take i) (sg bl r (bl.getD i 0))
      rw [← eT] at eN
      have eD := ddp_snoc ((signs bl rows).take i) (sg bl r (bl.getD i 0))
      rw [← eT] at eD
      obtain ⟨ks, hks⟩ : ∃ ks, ddp ((signs bl rows).take i) = ks := ⟨_, rfl⟩
      obtain ⟨ns, hns2⟩ : ∃ ns, num ((signs bl rows).take i) = ns := ⟨_, rfl⟩
      rw [hks] at hDl eD eN ⊢
      rw [hns2] at hNl eN ⊢
      have hB : ∀ ks ns, LR (BS L1 nb sp ks ns) (.ptr b) (iN bl) := fun ks ns => .st (hLe ks ns _ _ hbl)
      have bg : ∀ s, s < rows.length → atI (iN bl) (s : Int) = some (.int (bl.getD s 0 : Nat)) := fun s hs => iN_get (bl_get W.len hs)
      refine ⟨_, _, ag_tup (ags_cons (ag_name 6) (ags_cons (ag_name 3) ags_nil)), ?_⟩
      have e1 : atI ([.bl r.1, dI r.2.1, .int (r.2.2 : Nat)] : List D) ((0 : Nat) : Int) = some (.bl r.1) := atI_nat rfl
      have e2 : atI ([.bl r.1, dI r.2.1, .int (r.2.2 : Nat)] : List D) ((1 : Nat) : Int) = some (dI r.2.1) := atI_nat rfl
      have e3 : atI ([.bl r.1, dI r.2.1, .int (r.2.2 : Nat)] : List D) ((2 : Nat) : Int) = some (.int (r.2.2 : Nat)) := atI_nat rfl
      refine as_cons (as_set 7 (ae_tup (aa_cons (ae_ix (ix_A (u1 hr)) (ae_name 3 rfl (ae_int (ixa_T ?_ e1)))))))
      refine aa_cons (ae_ix (ix_A (u1 hr)) (ae_name 1 rfl (ae_name 6 rfl (ixa_R (hB _ _) ?_ (bg i hi)))))
      refine aa_cons (ae_tupL B.tuple (al_map1 8 (ai_tup (ae_ix (ix_A (u1 hr)) (ae_name 3 rfl (ae_int (ixa_T ⟨_, rfl, fun hz3 => ⟨_, r.2.1, fun (g : Nat) => .int (g : Int), fun (g : Nat) => .int (bl.getD g 0 : Nat), rfl, trivial, hz3, fun y hy s H Cc cl2 fp Q q => ?_, ?_⟩⟩ e2)))))))
      · exact ae_ix (ix_A (u1 hr)) (ae_name 1 rfl (ae_name 8 rfl (ixa_R (hB _ _) q (bg y (hM.go r hmr y hy)))))
      refine aa_cons (ae_ix (ix_A (u1 hr)) (ae_name 1 rfl (ae_ix (ix_A (u1 hr)) (ae_name 3 rfl (ae_int (ixa_T (ixa_R (hB _ _) (aa_nil ⟨Nat.le_of_ble_eq_true rfl, ?_⟩) (bg r.2.2 (hM.oth r hmr))) e3))))))
      have eSg : D.tup [D.bl r.1, D.int (bl.getD i 0 : Nat), D.tup (r.2.1.map fun (g : Nat) => D.int (bl.getD g 0 : Nat)), D.int (bl.getD r.2.2 0 : Nat)] = dSg (sg bl r (bl.getD i 0)) := by
        unfold dSg sg dI
        rw [List.map_map]
        rfl
      rw [eSg]
      obtain ⟨sn, hsn⟩ : ∃ sn, sg bl r (bl.getD i 0) = sn := ⟨_, rfl⟩
      rw [hsn] at eD eN ⊢
      have ht : ∃ es, dSg sn = .tup es := ⟨_, rfl⟩
      refine as_mid (fun Γ' L' => L' = BS L1 nb sp (addO ks sn) ns ∧ Γ' = [some (dMw rows), some (.ptr b), some (.int (cnt : Nat)), some (dRw r), some (.ptr nb), some (.ptr sp), some (.int (i : Nat)), some (dSg sn), g8]) ?_ ?_
      · refine as_if (at_cmpJ (ae_name 7 rfl (ae_name 4 rfl (j_ninN (u16 hr) (BS.n hns) ht (dSg_ok sn) (dSg_dep sn) ⟨_, rfl, fun hz3 => ?_, fun hz3 => ?_⟩))))
        · have hg : sn ∉ ks := fun hg => by
            rw [dNum_at dSg_inj, if_pos hg] at hz3
            cases hz3
          refine as_one (as_subJ (ae_lenJ B.len (ae_name 4 rfl (ca_lenN (BS.n hns) (ae_name 4 rfl (ae_name 7 rfl (st_N (u16 hr) (BS.n hns) ht (dSg_ok sn) (dSg_dep sn) (by rw [dNum_len, sl_eq]; omega) ?_)))))))
          have ea : addO ks sn = ks ++ [sn] := if_neg hg
          rw [dNum_len, dNum_put dSg_inj hg, BS.putN hns, ea]
          exact ⟨rfl, rfl⟩
        · have hg : sn ∈ ks := by
            by_cases hg : sn ∈ ks
            · exact hg
            · rw [dNum_at dSg_inj, if_neg hg] at hz3
              cases hz3
          have ea : addO ks sn = ks := if_pos hg
          rw [ea]
          exact as_nil ⟨rfl, rfl⟩
      · rintro Γ' L' ⟨rfl, rfl⟩
        have hv := dNum_at dSg_inj (addO ks sn) sn
        rw [if_pos (addO_mem.mpr (.inr rfl))] at hv
        refine as_one (as_expr (ae_append (ae_name 5 rfl ⟨sp, _, rfl, BS.s, ae_sbJ (ae_name 4 rfl (ae_name 7 rfl (sb_N (u16 hr) (BS.n hns) ht (dSg_ok sn) (dSg_dep sn) hv ⟨_, BS.s, by rw [iN_len, sl_eq]; omega, ?_⟩ (fun _ _ => rfl))))⟩)))
        rw [iN_snoc, BS.putS]
        exact ⟨_, _, _, by rw [eD, eN], rfl⟩
  · rintro Γ2 L2 ⟨g6, g7, g3, rfl, rfl⟩
    have eTk : (signs bl rows).take (enumD (rows.map dRw)).length = signs bl rows := by
      rw [enumD_len, List.length_map]
      exact List.take_of_length_le (by rw [hSl]; exact Nat.le_refl _)
    rw [eTk]
    have eW : blkW rows (m + 1) bl cnt = if (ddp (signs bl rows)).length = cnt then num (signs bl rows) else blkW rows m (num (signs bl rows)) (ddp (signs bl rows)).length := rfl
    rw [eW] at eB
    refine as_cons (as_if (at_cmpJ (ae_lenJ B.len (ae_name 4 rfl (ca_lenN (BS.n hns) (ae_name 2 rfl (j_eqI (u64 hr) ⟨_, rfl, fun hk => ?_, fun hk => as_nil ?_⟩)))))))
    · have hk := of_decide_eq_true hk
      rw [dNum_len] at hk
      rw [if_pos (by omega)] at eB
      rw [eB] at q
      refine as_one (as_ret (ae_name 5 rfl ⟨put L sp (.lst (iN (num (signs bl rows)))), fun a o e => ?_, q sp (hle.none hsp1)⟩))
      by_cases ea : a = sp
      · subst ea
        rw [put_same] at e
        rw [← e]
        exact BS.s
      · rw [put_ne ea] at e
        exact hLe _ _ _ _ (hle _ _ e)
    · have hk := of_decide_eq_false hk
      rw [dNum_len] at hk
      rw [if_neg (by omega)] at eB
      refine as_one (as_asg (ae_tup (aa_cons (ae_name 5 rfl (aa_cons (ae_lenJ B.len (ae_name 4 rfl (ca_lenN (BS.n hns) (aa_nil ⟨Nat.le_of_ble_eq_true rfl, _, _, ag_tup (ags_cons (ag_name 1) (ags_cons (ag_name 2) ags_nil)), m, by omega, sp, num (signs bl rows), (ddp (signs bl rows)).length, g3, some (.ptr nb), some (.ptr sp), g6, g7, g8, signs_step W.len, eB, by omega, BS.s, hle.trans (hLe _ _), ?_⟩)))))))))
      rw [dNum_len]
      rfl
end
end K
namespace K
open PySem PySem.Spec PyProof.Rows L2 DL
set_option hygiene false in
local macro_rules | `(tactic| k_get) => `(tactic| first
  | refine ae_name 0 rfl ?_ | refine ae_name 1 rfl ?_ | refine ae_name 2 rfl ?_ | refine ae_name 3 rfl ?_ | refine ae_name 4 rfl ?_ | refine ae_name 5 rfl ?_ | refine ae_name 6 rfl ?_ | refine ae_name 7 rfl ?_ | refine ae_name 8 rfl ?_ | refine ae_name 9 rfl ?_ | refine ae_name 10 rfl ?_ | refine ae_name 11 rfl ?_ | refine ae_name 12 rfl ?_
  | refine ae_int ?_ | refine ae_bl ?_ | refine ae_non ?_ | refine ae_str ?_ | refine ae_tup ?_ | refine ae_lst ?_
  | refine ae_and ?_ | refine ae_or ?_ | refine ae_one ?_ | refine ae_not ?_ | refine ae_neg ?_ | refine ae_ifExp ?_
  | refine ae_eq (u64 hr) ?_ | refine ae_ne (u64 hr) ?_ | refine ae_lt (u64 hr) ?_ | refine ae_le ?_ | refine ae_gt ?_ | refine ae_ge ?_ | refine ae_in (u1 hr) ?_ | refine ae_nin (u1 hr) ?_ | refine ae_is ?_ | refine ae_isn ?_
  | refine ae_lele ?_
  | refine ae_add ?_ | refine ae_sub ?_ | refine ae_mul ?_ | refine ae_mod ?_ | refine ae_div ?_
  | refine ae_slice sl_A ?_ | refine ae_ix (ix_A (u1 hr)) ?_
  | refine ae_c_len B.len ?_ | refine ae_c_int B.int ?_ | refine ae_c_abs B.abs ?_ | refine ae_c_max B.max ?_ | refine ae_c_min B.min ?_ | refine ae_c_isi B.isinstance ?_
  | refine ae_tupL B.tuple (?_ : AL _ (.ListComp _ _ _ _) _ _ _) | refine ae_c_tuple B.tuple ?_ | refine ae_allL B.all ?_ | refine ae_anyL B.any ?_
  | refine ae_call (by assumption) (hr.mono (by omega)) ?_
  | refine ae_append ?_
  | refine ae_bltn (T := "tuple") B.tuple (by decide +kernel) ?_ | refine ae_bltn (T := "str") B.str (by decide +kernel) ?_ | refine ae_bltn (T := "list") B.list (by decide +kernel) ?_ | refine ae_bltn (T := "int") B.int (by decide +kernel) ?_ | refine ae_bltn (T := "bool") B.bool (by decide +kernel) ?_ )
set_option hygiene false in
local macro_rules | `(tactic| k_put) => `(tactic| first
  | refine add_I ?_ | refine add_T ?_ ?_ | refine add_S ?_ ?_ | refine sub_I ?_ | refine eq_I ?_ | refine ne_I ?_ | refine eq_S ?_ | refine ne_S ?_ | refine lt_I ?_ | refine lt_S ?_ | refine le_I ?_ | refine gt_I ?_ | refine ge_I ?_
  | refine isa_N ?_ | refine isnota_N ?_ | refine ixa_T ?_ rfl | refine ixa_N ?_ rfl | refine ixa_R (by assumption) ?_ rfl | refine mod_I ?_ ?_ | refine div_I ?_ ?_ | refine mul_I ?_ ?_ | refine mul_S ?_ ?_ ?_ ?_ | refine in_W (by assumption) ?_ | refine notIn_W (by assumption) ?_ | refine in_sign ?_ | refine in_L (by assumption) ?_ | refine notIn_L (by assumption) ?_ | refine in_T ?_ | refine notIn_T ?_ | refine eq_W0 ?_ | refine eq_W ?_ | refine ne_W ?_ | refine eq_C ?_ | refine ne_C ?_ | refine r_ipI ?_ )
set_option hygiene false in
local macro_rules | `(tactic| k_go) => `(tactic| first
  | (show DL.ASs _ _ _ _ _; first | refine as_one ?_ | refine as_cons ?_ | refine as_nil ?_)
  | (show DL.AS _ _ _ _ _; first | refine as_ret ?_ | refine as_if ?_ | refine as_expr ?_ | refine as_set 0 ?_ | refine as_set 1 ?_ | refine as_set 2 ?_ | refine as_set 3 ?_ | refine as_set 4 ?_ | refine as_set 5 ?_ | refine as_set 6 ?_ | refine as_set 7 ?_ | refine as_set 8 ?_ | refine as_set 9 ?_ | refine as_set 10 ?_ | refine as_set 11 ?_ | refine as_aug 0 ip_add rfl ?_ | refine as_aug 1 ip_add rfl ?_ | refine as_aug 2 ip_add rfl ?_ | refine as_aug 3 ip_add rfl ?_ | refine as_aug 4 ip_add rfl ?_ | refine as_aug 5 ip_add rfl ?_ | refine as_aug 6 ip_add rfl ?_ | refine as_retN ?_ | refine as_pass ?_ | refine as_break ?_ | refine as_continue ?_)
  | (show AE _ _ _ _ _; k_get)
  | (show AT _ _ _ _ _; first | refine at_w (?_ : AW _ (.BoolOp _ _ _) _ _ _) | refine at_not ?_ | refine at_eq (u64 hr) ?_ | refine at_ne (u64 hr) ?_ | refine at_lt (u64 hr) ?_ | refine at_le ?_ | refine at_gt ?_ | refine at_ge ?_ | refine at_in (u1 hr) ?_ | refine at_nin (u1 hr) ?_ | refine at_is ?_ | refine at_isn ?_ | refine at_lele ?_ | refine at_val ?_)
  | (show AW _ _ _ _ _; first | refine aw_and ?_ | refine aw_or ?_ | refine aw_and1 ?_ | refine aw_or1 ?_)
  | (show AA _ _ _ _ _; first | refine aa_cons ?_ | refine aa_nil ?_)
  | (show AO _ _ _ _ _; first | refine ao_some ?_ | refine ao_none ?_)
  | (show L2R _ _ _ _ _ _; k_put)
  | (show LcR _ _ _ _ _; first | refine len_T ?_ | refine len_N ?_ | refine len_S ?_ | refine len_L (by assumption) ?_ | refine len_D (by assumption) ?_ | refine c_intI ?_ | refine c_intB ?_ | refine c_abs ?_ | refine c_max ?_ | refine c_min ?_ | refine c_tupT ?_ | refine lr_tup (by assumption) ?_ | refine isi_tt ?_ | refine isi_ii ?_ | refine isi_ib ?_ | refine isi_ss ?_ | refine isi_is ?_ | refine isi_ts ?_ | refine isi_st ?_ | refine isi_bb ?_)
  | (show LsR _ _ _ _ _ _ _; first | refine sla_T ?_ | refine sla_S ?_)
  | refine ⟨Nat.le_of_ble_eq_true rfl, ?_⟩
  | refine ⟨_, rfl, ?_⟩ | refine ⟨_, _, rfl, ?_⟩ | refine ⟨_, _, _, rfl, ?_⟩ | refine ⟨_, _, _, _, rfl, ?_⟩
  | exact ⟨_, .refl _, q⟩)
set_option hygiene false in
local macro_rules | `(tactic| walk) => `(tactic| repeat k_go)
set_option hygiene false in
local macro_rules | `(tactic| k_few) => `(tactic| first | refine ⟨fun _ => ?_, (fun z => Bool.noConfusion z)⟩ | refine ⟨(fun z => Bool.noConfusion z), fun _ => ?_⟩)
set_option hygiene false in
local macro_rules | `(tactic| k_not) => `(tactic| refine ⟨fun hk => ?_, fun hk => ?_⟩)
theorem fm_map {ys : List Str} : ∀ {cs : List Nat}, (∀ c ∈ cs, c < ys.length) → cs.map (fun c => D.str (ys.getD c Str.empty)) = (cs.filterMap fun c => ys[c]?).map D.str
  | [], _ => rfl
  | c :: cs, h => by
    have hc := h c List.mem_cons_self
    rw [List.filterMap_cons, List.getElem?_eq_getElem hc, List.map_cons, fm_map fun d hd => h d (List.mem_cons_of_mem _ hd), List.getD_eq_getElem?_getD, List.getElem?_eq_getElem hc]
    rfl
theorem str_get {ys : List Str} {c : Nat} (h : c < ys.length) : atI (ys.map D.str) (c : Int) = some (.str (ys.getD c Str.empty)) := atI_nat (by
  rw [List.getElem?_map, getD_mem (d := Str.empty) h]
  rfl)
theorem int_ne (a b : Nat) : (!decide ((a : Int) = (b : Int))) = decide (a ≠ b) := by
  by_cases h : a = b
  · rw [decide_eq_true (by rw [h]), decide_eq_false (by simp [h])]; rfl
  · rw [decide_eq_false (by omega), decide_eq_true h]; rfl
/-- what least_machine tells -/
def dLm (q : List Str × Rws) : D := .tup [.wds q.1, dMw q.2]
def sp_least_machine : SpA := fun ds L Q _ => ∃ (ys : List Str) (rows : Rws) (first : Nat), ds = [.wds ys, dMw rows, .int first] ∧ MOk ys.length rows ∧ first < rows.length ∧ rows.length ≤ 100000 ∧ ys.length ≤ 1000 ∧ Q (dLm (leastM ys rows first)) L
section
variable {P : Program} {w : World} {K : PySem.W.Frag} {mg : Str → Option Value} {base : Heap} {f : Addr} {fd : FuncData}
set_option maxHeartbeats 0 in
theorem ok_least_machine (F : Fun K "least_machine" "least_machine" s_least_machine f fd) (hb : Binds K fd ["words", "rows", "first"] []) (B : Bl mg) (d1 : Def P w K mg base "reached" 2 sp_reached) (d2 : Def P w K mg base "blocks_of" 1 sp_blocks_of) : FnA P w K mg base 3 f sp_least_machine := by
  refine fnA F sc_least_machine hb (fun ds L Q R h => by obtain ⟨_, _, _, rfl, _⟩ := h; rfl) fun cdv A outer s H E ds L Q R hr h => ?_
  obtain ⟨ys, rows, first, rfl, hM, hf, hz, hyz, q⟩ := h
  refine as_cons (as_set 3 (ae_listRange B.list B.range (ae_c_len B.len (ae_name 0 rfl (len_U ⟨_, rfl, by omega, by omega, fun ev hev => ?_⟩)))))
  have eev : ((List.range ((ys.length : Int)).toNat).map fun (i : Nat) => D.int (i : Int)) = iN (List.range ys.length) := by rw [Int.toNat_natCast]; rfl
  rw [eev]
  have hE : put L ev (.lst (iN (List.range ys.length))) ev = some (.lst (iN (List.range ys.length))) := put_same
  have hLe := le_put hev (o := .lst (iN (List.range ys.length)))
  generalize put L ev (.lst (iN (List.range ys.length))) = L1 at hE hLe
  obtain ⟨o1, o2, o3⟩ := reach_ok hM (cols := List.range ys.length) (fun c h => List.mem_range.mp h) hf
  rw [List.length_range] at o1
  have eL : leastM ys rows first = ((tells ys.length (foldM (reachM (List.range ys.length) rows first) (blocksM (reachM (List.range ys.length) rows first)))).filterMap fun c => ys[c]?, reachM (tells ys.length (foldM (reachM (List.range ys.length) rows first) (blocksM (reachM (List.range ys.length) rows first)))) (foldM (reachM (List.range ys.length) rows first) (blocksM (reachM (List.range ys.length) rows first))) 0) := rfl
  rw [eL] at q
  refine as_cons (as_set 1 (ae_call d1 (hr.mono (by omega)) (aa_cons (ae_name 3 rfl (aa_cons (ae_name 1 rfl (aa_cons (ae_name 2 rfl (aa_nil ⟨_, _, List.range ys.length, rows, first, ys.length, rfl, .st hE, .inl rfl, hM, fun c h => List.mem_range.mp h, hf, hz, by rw [List.length_range]; exact hyz, ?_⟩)))))))))
  obtain ⟨r1, hr1⟩ : ∃ r1, reachM (List.range ys.length) rows first = r1 := ⟨_, rfl⟩
  rw [hr1] at o1 o2 o3 q ⊢
  have hne : r1 ≠ [] := List.length_pos_iff.mp o2
  have S := blocks_ok hne
  refine as_cons (as_set 4 (ae_call d2 (hr.mono (by omega)) (aa_cons (ae_name 1 rfl (aa_nil ⟨r1, ys.length, rfl, o1, o2, by omega, fun b hb0 => ?_⟩)))))
  have o4 := fold_ok o1 S
  have h0 := can0 hne S
  have h1 := bl_lt S o2
  rw [h0] at h1
  have F2 := foldM_take S.len S.can
  have eFM : foldM r1 (blocksM r1) = (r1.zip (blocksM r1)).foldl (foldI (blocksM r1)) [] := rfl
  have hfl : (foldM r1 (blocksM r1)).length ≤ r1.length := by
    have F := foldM_ok S.len S.can
    rw [F.len, List.take_of_length_le (by rw [S.len]; exact Nat.le_refl _), ← S.len]
    exact nodup_subl (ddp_nodup _) fun x hx => ddp_mem.mp hx
  have hSl := S.len
  have hzg := fun i (hi : i < r1.length) => zip_get S.len hi
  have hbg := fun i (hi : i < r1.length) => bl_get S.len hi
  obtain ⟨bl, hbl⟩ : ∃ bl, blocksM r1 = bl := ⟨_, rfl⟩
  rw [hbl] at o4 h1 F2 eFM hfl hSl hzg hbg q ⊢
  have hE := le_put hb0 (o := .lst (iN bl)) _ _ hE
  have hLe := hLe.trans (le_put hb0 (o := .lst (iN bl)))
  have hB : put L1 b (.lst (iN bl)) b = some (.lst (iN bl)) := put_same
  generalize put L1 b (.lst (iN bl)) = L2 at hE hLe hB
  refine as_cons (as_set 5 (ae_lst (aa_nil ⟨Nat.zero_le _, fun fo hfo => ?_⟩)))
  have hE := fun x => le_put hfo (o := .lst x) _ _ hE
  have hB := fun x => le_put hfo (o := .lst x) _ _ hB
  have hLe := fun x => hLe.trans (le_put hfo (o := .lst x))
  have bg : ∀ s, s < r1.length → atI (iN bl) (s : Int) = some (.int (bl.getD s 0 : Nat)) := fun s hs => iN_get (hbg s hs)
  refine as_cons (as_for (ai_enumT B.enumerate (ae_name 1 rfl ⟨_, .t _, fun hz2 => ?_⟩)))
  refine ⟨fun i Γ2 L3 => ∃ (g6 g7 g8 : Option D), L3 = put L2 fo (.lst ((((r1.zip bl).take i).foldl (foldI bl) []).map dRw)) ∧ Γ2 = [some (.wds ys), some (dMw r1), some (.int first), some (.ptr ev), some (.ptr b), some (.ptr fo), g6, g7, g8, none, none], ⟨none, none, none, rfl, rfl⟩, fun _ _ _ _ => trivial, ?_, ?_⟩
  · rintro i d Γ2 L3 hd ⟨g6, g7, g8, rfl, rfl⟩
    obtain ⟨x, hx, rfl⟩ := enumD_inv hd
    rw [List.getElem?_map] at hx
    cases er : r1[i]? with
    | none => rw [er] at hx; cases hx
    | some r =>
      rw [er] at hx
      cases hx
      have hi := (List.getElem?_eq_some_iff.mp er).1
      have eRow : rowAt r1 i = r := by
        have := rowAt_get hi
        rw [er] at this
        exact (Option.some.inj this).symm
      have hmr : r ∈ r1 := List.mem_of_getElem? er
      have ef : ((r1.zip bl).take (i + 1)).foldl (foldI bl) [] = foldI bl (((r1.zip bl).take i).foldl (foldI bl) []) (r, bl.getD i 0) := by
        rw [List.take_add_one, hzg i hi, List.foldl_append, eRow]
        rfl
      have hal : (((r1.zip bl).take i).foldl (foldI bl) []).length ≤ i := by
        rw [(F2 i (by omega)).len]
        have := nodup_subl (ddp_nodup (bl.take i)) fun x hx => ddp_mem.mp hx
        rw [List.length_take] at this
        omega
      obtain ⟨acc, hacc⟩ : ∃ acc, ((r1.zip bl).take i).foldl (foldI bl) [] = acc := ⟨_, rfl⟩
      rw [hacc] at ef hal ⊢
      refine ⟨_, _, ag_tup (ags_cons (ag_name 6) (ags_cons (ag_name 7) ags_nil)), ?_⟩
      have e1 : atI ([.bl r.1, dI r.2.1, .int (r.2.2 : Nat)] : List D) ((0 : Nat) : Int) = some (.bl r.1) := atI_nat rfl
      have e2 : atI ([.bl r.1, dI r.2.1, .int (r.2.2 : Nat)] : List D) ((1 : Nat) : Int) = some (dI r.2.1) := atI_nat rfl
      have e3 : atI ([.bl r.1, dI r.2.1, .int (r.2.2 : Nat)] : List D) ((2 : Nat) : Int) = some (.int (r.2.2 : Nat)) := atI_nat rfl
      refine as_one (as_if (at_eq (u64 hr) (ae_ix (ix_A (u1 hr)) (ae_name 4 rfl (ae_name 6 rfl (ixa_R (.st (hB _)) (ae_c_len B.len (ae_name 5 rfl (len_L (.st put_same) (eq_I ⟨_, rfl, fun hk => ?_, fun hk => ?_⟩)))) (bg i hi)))))))
      · have hk := of_decide_eq_true hk
        rw [List.length_map] at hk
        have ea : foldI bl acc (r, bl.getD i 0) = acc ++ [foldRow bl r] := if_pos (by show bl.getD i 0 = acc.length; omega)
        refine as_one (as_expr (ae_append (ae_name 5 rfl ⟨fo, _, rfl, put_same, ae_tup (aa_cons (ae_ix (ix_A (u1 hr)) (ae_name 7 rfl (ae_int (ixa_T ?_ e1)))))⟩)))
        refine aa_cons (ae_tupL B.tuple (al_map1 8 (ai_tup (ae_ix (ix_A (u1 hr)) (ae_name 7 rfl (ae_int (ixa_T ⟨_, rfl, fun hz3 => ⟨_, r.2.1, fun (g : Nat) => .int (g : Int), fun (g : Nat) => .int (bl.getD g 0 : Nat), rfl, trivial, hz3, fun y hy s H Cc cl2 fp Q q => ?_, ?_⟩⟩ e2)))))))
        · exact ae_ix (ix_A (u1 hr)) (ae_name 4 rfl (ae_name 8 rfl (ixa_R (.st (hB _)) q (bg y (o1.go r hmr y hy)))))
        refine aa_cons (ae_ix (ix_A (u1 hr)) (ae_name 4 rfl (ae_ix (ix_A (u1 hr)) (ae_name 7 rfl (ae_int (ixa_T (ixa_R (.st (hB _)) (aa_nil ⟨Nat.le_of_ble_eq_true rfl, _, put_same, by rw [List.length_map, sl_eq]; omega, ?_⟩) (bg r.2.2 (o1.oth r hmr))) e3))))))
        have eFr : D.tup [D.bl r.1, D.tup (r.2.1.map fun (g : Nat) => D.int (bl.getD g 0 : Nat)), D.int (bl.getD r.2.2 0 : Nat)] = dRw (foldRow bl r) := by
          unfold dRw foldRow dI
          rw [List.map_map]
          rfl
        rw [eFr, put_put]
        refine ⟨_, _, _, ?_, rfl⟩
        rw [ef, ea, List.map_append]
        rfl
      · have hk := of_decide_eq_false hk
        rw [List.length_map] at hk
        have ea : foldI bl acc (r, bl.getD i 0) = acc := if_neg (by show ¬ bl.getD i 0 = acc.length; omega)
        exact as_nil ⟨_, _, _, by rw [ef, ea], rfl⟩
  · rintro Γ2 L3 ⟨g6, g7, g8, rfl, rfl⟩
    have eTk : (r1.zip bl).take (enumD (r1.map dRw)).length = r1.zip bl := by
      rw [enumD_len, List.length_map]
      exact List.take_of_length_le (by rw [List.length_zip]; omega)
    rw [eTk, ← eFM]
    obtain ⟨r2, hr2⟩ : ∃ r2, foldM r1 bl = r2 := ⟨_, rfl⟩
    rw [hr2] at o4 h1 hfl q ⊢
    have hFo : put L2 fo (.lst (r2.map dRw)) fo = some (.lst (r2.map dRw)) := put_same
    have hE := hE (r2.map dRw)
    have hLe := hLe (r2.map dRw)
    generalize put L2 fo (.lst (r2.map dRw)) = L4 at hFo hE hLe
    have hT := tells_lt (n := ys.length) (rows := r2)
    have hTl : (tells ys.length r2).length ≤ ys.length := by
      have := nodup_lt (tells_nodup (n := ys.length) (rows := r2)) hT
      exact this
    refine as_cons (as_setFilt 9 10 (ai_lst (ae_name 3 rfl ⟨ev, _, rfl, hE, fun hz3 => ⟨_, List.range ys.length, fun (c : Nat) => .int (c : Int), fun c => r2.any fun r => decide (r.2.1.getD c 0 ≠ r.2.2), fun (c : Nat) => .int (c : Int), rfl, hE, hz3, fun y hy s H Cc cl2 fp => ⟨fun Q q => ?_, fun _ Q q => ae_name 10 rfl q⟩, fun te hte => ?_⟩⟩)))
    · have hy := List.mem_range.mp hy
      refine at_val (ae_anyL B.any (al_map1 7 (ai_lst (ae_name 5 rfl ⟨fo, _, rfl, hFo, fun hz4 => ⟨_, r2, dRw, fun r => .bl (decide (r.2.1.getD y 0 ≠ r.2.2)), rfl, hFo, hz4, fun r hr0 s H Cc cl2 fp Q q => ?_, ⟨r2.map fun r => decide (r.2.1.getD y 0 ≠ r.2.2), by rw [List.map_map]; rfl, _, rfl, ?_⟩⟩⟩)) (ok := by (dsimp only [fctx, bctx, cxOf, envOfC, compEnvC, Cx.blk]; exact blkOk_by (by rfl)))))
      · have e2 : atI ([.bl r.1, dI r.2.1, .int (r.2.2 : Nat)] : List D) ((1 : Nat) : Int) = some (dI r.2.1) := atI_nat rfl
        have e3 : atI ([.bl r.1, dI r.2.1, .int (r.2.2 : Nat)] : List D) ((2 : Nat) : Int) = some (.int (r.2.2 : Nat)) := atI_nat rfl
        have e4 : atI (r.2.1.map fun (g : Nat) => D.int (g : Int)) (y : Int) = some (.int (r.2.1.getD y 0 : Nat)) := iN_get (getD_mem (by rw [o4.len r hr0]; exact hy))
        refine ae_ne (u64 hr) (ae_ix (ix_A (u1 hr)) (ae_ix (ix_A (u1 hr)) (ae_name 7 rfl (ae_int (ixa_T (ae_name 10 rfl (ixa_T ?_ e4)) e2)))))
        refine ae_ix (ix_A (u1 hr)) (ae_name 7 rfl (ae_int (ixa_T (ne_I ?_) e3)))
        have e5 := int_ne (r.2.1.getD y 0) r.2.2
        rw [e5]
        exact q
      · rw [List.any_map]
        exact q
    · have eT : ((List.range ys.length).filter fun c => r2.any fun r => decide (r.2.1.getD c 0 ≠ r.2.2)) = tells ys.length r2 := rfl
      rw [eT]
      obtain ⟨cs, hcs⟩ : ∃ cs, tells ys.length r2 = cs := ⟨_, rfl⟩
      rw [hcs] at q hT hTl ⊢
      have hTe : put L4 te (.lst (iN cs)) te = some (.lst (iN cs)) := put_same
      have hFo := le_put hte (o := .lst (iN cs)) _ _ hFo
      have hLe := hLe.trans (le_put hte (o := .lst (iN cs)))
      have eiN : (cs.map fun (c : Nat) => D.int (c : Int)) = iN cs := rfl
      rw [eiN]
      generalize put L4 te (.lst (iN cs)) = L5 at hTe hFo hLe
      refine as_one (as_ret (ae_tup (aa_cons (ae_tupW B.tuple (al_map1 10 (ai_lst (ae_name 9 rfl ⟨te, _, rfl, hTe, fun hz3 => ⟨_, cs, fun (c : Nat) => .int (c : Int), fun c => .str (ys.getD c Str.empty), rfl, hTe, hz3, fun y hy s H Cc cl2 fp Q q => ?_, ⟨_, fm_map hT, ?_⟩⟩⟩)))))))
      · exact ae_ix (ix_A (u1 hr)) (ae_name 0 rfl (ae_name 10 rfl (ixa_U q (str_get (hT y hy)))))
      · exact aa_cons (ae_call d1 (hr.mono (by omega)) (aa_cons (ae_name 9 rfl (aa_cons (ae_name 5 rfl (aa_cons (ae_int (aa_nil ⟨_, _, cs, r2, 0, ys.length, rfl, .st hTe, .inr (.st hFo), o4, hT, h1, by omega, by omega, aa_nil ⟨Nat.le_of_ble_eq_true rfl, _, hLe, q⟩⟩))))))))
end
end K
namespace K
open PySem PySem.Spec PyProof.Rows L2 DL
set_option hygiene false in
local macro_rules | `(tactic| k_get) => `(tactic| first
  | refine ae_name 0 rfl ?_ | refine ae_name 1 rfl ?_ | refine ae_name 2 rfl ?_ | refine ae_name 3 rfl ?_ | refine ae_name 4 rfl ?_ | refine ae_name 5 rfl ?_ | refine ae_name 6 rfl ?_ | refine ae_name 7 rfl ?_ | refine ae_name 8 rfl ?_ | refine ae_name 9 rfl ?_ | refine ae_name 10 rfl ?_ | refine ae_name 11 rfl ?_ | refine ae_name 12 rfl ?_
  | refine ae_int ?_ | refine ae_bl ?_ | refine ae_non ?_ | refine ae_str ?_ | refine ae_tup ?_ | refine ae_lst ?_
  | refine ae_and ?_ | refine ae_or ?_ | refine ae_one ?_ | refine ae_not ?_ | refine ae_neg ?_ | refine ae_ifExp ?_
  | refine ae_eq (u64 hr) ?_ | refine ae_ne (u64 hr) ?_ | refine ae_lt (u64 hr) ?_ | refine ae_le ?_ | refine ae_gt ?_ | refine ae_ge ?_ | refine ae_in (u1 hr) ?_ | refine ae_nin (u1 hr) ?_ | refine ae_is ?_ | refine ae_isn ?_
  | refine ae_lele ?_
  | refine ae_add ?_ | refine ae_sub ?_ | refine ae_mul ?_ | refine ae_mod ?_ | refine ae_div ?_
  | refine ae_slice sl_A ?_ | refine ae_ix (ix_A (u1 hr)) ?_
  | refine ae_c_len B.len ?_ | refine ae_c_int B.int ?_ | refine ae_c_abs B.abs ?_ | refine ae_c_max B.max ?_ | refine ae_c_min B.min ?_ | refine ae_c_isi B.isinstance ?_
  | refine ae_tupL B.tuple (?_ : AL _ (.ListComp _ _ _ _) _ _ _) | refine ae_c_tuple B.tuple ?_ | refine ae_allL B.all ?_ | refine ae_anyL B.any ?_
  | refine ae_call (by assumption) (hr.mono (by omega)) ?_
  | refine ae_append ?_
  | refine ae_bltn (T := "tuple") B.tuple (by decide +kernel) ?_ | refine ae_bltn (T := "str") B.str (by decide +kernel) ?_ | refine ae_bltn (T := "list") B.list (by decide +kernel) ?_ | refine ae_bltn (T := "int") B.int (by decide +kernel) ?_ | refine ae_bltn (T := "bool") B.bool (by decide +kernel) ?_ )
set_option hygiene false in
local macro_rules | `(tactic| k_put) => `(tactic| first
  | refine add_I ?_ | refine add_T ?_ ?_ | refine add_S ?_ ?_ | refine sub_I ?_ | refine eq_I ?_ | refine ne_I ?_ | refine eq_S ?_ | refine ne_S ?_ | refine lt_I ?_ | refine lt_S ?_ | refine le_I ?_ | refine gt_I ?_ | refine ge_I ?_
  | refine isa_N ?_ | refine isnota_N ?_ | refine ixa_T ?_ rfl | refine ixa_N ?_ rfl | refine ixa_R (by assumption) ?_ rfl | refine mod_I ?_ ?_ | refine div_I ?_ ?_ | refine mul_I ?_ ?_ | refine mul_S ?_ ?_ ?_ ?_ | refine in_W (by assumption) ?_ | refine notIn_W (by assumption) ?_ | refine in_sign ?_ | refine in_L (by assumption) ?_ | refine notIn_L (by assumption) ?_ | refine in_T ?_ | refine notIn_T ?_ | refine eq_W0 ?_ | refine eq_W ?_ | refine ne_W ?_ | refine eq_C ?_ | refine ne_C ?_ | refine r_ipI ?_ )
set_option hygiene false in
local macro_rules | `(tactic| k_go) => `(tactic| first
  | (show DL.ASs _ _ _ _ _; first | refine as_one ?_ | refine as_cons ?_ | refine as_nil ?_)
  | (show DL.AS _ _ _ _ _; first | refine as_ret ?_ | refine as_if ?_ | refine as_expr ?_ | refine as_set 0 ?_ | refine as_set 1 ?_ | refine as_set 2 ?_ | refine as_set 3 ?_ | refine as_set 4 ?_ | refine as_set 5 ?_ | refine as_set 6 ?_ | refine as_set 7 ?_ | refine as_set 8 ?_ | refine as_set 9 ?_ | refine as_set 10 ?_ | refine as_set 11 ?_ | refine as_aug 0 ip_add rfl ?_ | refine as_aug 1 ip_add rfl ?_ | refine as_aug 2 ip_add rfl ?_ | refine as_aug 3 ip_add rfl ?_ | refine as_aug 4 ip_add rfl ?_ | refine as_aug 5 ip_add rfl ?_ | refine as_aug 6 ip_add rfl ?_ | refine as_retN ?_ | refine as_pass ?_ | refine as_break ?_ | refine as_continue ?_)
  | (show AE _ _ _ _ _; k_get)
  | (show AT _ _ _ _ _; first | refine at_w (?_ : AW _ (.BoolOp _ _ _) _ _ _) | refine at_not ?_ | refine at_eq (u64 hr) ?_ | refine at_ne (u64 hr) ?_ | refine at_lt (u64 hr) ?_ | refine at_le ?_ | refine at_gt ?_ | refine at_ge ?_ | refine at_in (u1 hr) ?_ | refine at_nin (u1 hr) ?_ | refine at_is ?_ | refine at_isn ?_ | refine at_lele ?_ | refine at_val ?_)
  | (show AW _ _ _ _ _; first | refine aw_and ?_ | refine aw_or ?_ | refine aw_and1 ?_ | refine aw_or1 ?_)
  | (show AA _ _ _ _ _; first | refine aa_cons ?_ | refine aa_nil ?_)
  | (show AO _ _ _ _ _; first | refine ao_some ?_ | refine ao_none ?_)
  | (show L2R _ _ _ _ _ _; k_put)
  | (show LcR _ _ _ _ _; first | refine len_T ?_ | refine len_N ?_ | refine len_S ?_ | refine len_L (by assumption) ?_ | refine len_D (by assumption) ?_ | refine c_intI ?_ | refine c_intB ?_ | refine c_abs ?_ | refine c_max ?_ | refine c_min ?_ | refine c_tupT ?_ | refine lr_tup (by assumption) ?_ | refine isi_tt ?_ | refine isi_ii ?_ | refine isi_ib ?_ | refine isi_ss ?_ | refine isi_is ?_ | refine isi_ts ?_ | refine isi_st ?_ | refine isi_bb ?_)
  | (show LsR _ _ _ _ _ _ _; first | refine sla_T ?_ | refine sla_S ?_)
  | refine ⟨Nat.le_of_ble_eq_true rfl, ?_⟩
  | refine ⟨_, rfl, ?_⟩ | refine ⟨_, _, rfl, ?_⟩ | refine ⟨_, _, _, rfl, ?_⟩ | refine ⟨_, _, _, _, rfl, ?_⟩
  | exact ⟨_, .refl _, q⟩)
set_option hygiene false in
local macro_rules | `(tactic| walk) => `(tactic| repeat k_go)
set_option hygiene false in
local macro_rules | `(tactic| k_few) => `(tactic| first | refine ⟨fun _ => ?_, (fun z => Bool.noConfusion z)⟩ | refine ⟨(fun z => Bool.noConfusion z), fun _ => ?_⟩)
set_option hygiene false in
local macro_rules | `(tactic| k_not) => `(tactic| refine ⟨fun hk => ?_, fun hk => ?_⟩)
/-- a set of texts, never written again -/
def dTx (TX : Addr) (m : List Str × Rws) : D := .obj TX [dMw m.2, .wds m.1]
structure TxC (K : PySem.W.Frag) (TX pW pR : Addr) : Prop where
  sc : SlX.SCls K TX
  s1 : SlX.Slot1 K TX "own_words" pW 1
  s2 : SlX.Slot1 K TX "own_rows" pR 0
theorem dTx.ins {L : Lp} {TX : Addr} {m : List Str × Rws} : IsIns L (dTx TX m) TX := .inr ⟨_, rfl⟩
theorem dTx.w {L : Lp} {TX : Addr} {m : List Str × Rws} : HasF L (dTx TX m) TX 1 (.wds m.1) := .fz rfl
theorem dTx.r {L : Lp} {TX : Addr} {m : List Str × Rws} : HasF L (dTx TX m) TX 0 (dMw m.2) := .fz rfl
theorem del_new {L : Lp} {x : Addr} {o : MO} (h : L x = none) : DL.del (put L x o) x = L := by
  funext b
  unfold DL.del put
  by_cases e : b = x
  · rw [if_pos e, e, h]
  · rw [if_neg e, if_neg e]
theorem frzT {C : DL.Ctx} {L : Lp} {TX x : Addr} {m : List Str × Rws} (h : L x = none) : Frz C (put L x (.ins TX [some (dMw m.2), some (.wds m.1)])) (.ptr x) L (dTx TX m) := by
  have z := frz_ins (C := C) (Cl := TX) (gs := [dMw m.2, .wds m.1]) (L := put L x (.ins TX [some (dMw m.2), some (.wds m.1)])) (a := x) put_same (by simp)
  rw [del_new h] at z
  exact z
/-- a machine of so many words and states -/
structure McOk (m : List Str × Rws) : Prop where
  ok : MOk m.1.length m.2
  pos : 0 < m.2.length
  rl : m.2.length ≤ 100
  wl : m.1.length ≤ 20
  wd : ∀ x ∈ m.1, wdS x = true
  up : adj m.1 = true
section
variable {P : Program} {w : World} {K : PySem.W.Frag} {mg : Str → Option Value} {base : Heap} {f : Addr} {fd : FuncData} {TX pW pR gI : Addr}
def sp_Texts_init (TX : Addr) : SpA := fun ds L Q _ => ∃ (a : Addr) (m : List Str × Rws), ds = [.ptr a, .wds m.1, dMw m.2] ∧ L a = some (.ins TX []) ∧ Q .non (put L a (.ins TX [some (dMw m.2), some (.wds m.1)]))
theorem ok_Texts_init (F : Fun K "__init__" "Texts.__init__" s_Texts___init__ f fd) (hb : Binds K fd ["self", "words", "rows"] []) (tc : TxC K TX pW pR) : FnA P w K mg base 1 f (sp_Texts_init TX) := by
  refine fnA F sc_Texts___init__ hb (fun ds L Q R h => by obtain ⟨_, _, rfl, _⟩ := h; rfl) fun cdv A outer s H E ds L Q R hr h => ?_
  obtain ⟨a, m, rfl, ha, q⟩ := h
  refine as_cons (as_sl (ae_name 1 rfl (ae_name 0 rfl ⟨a, TX, [], pW, 1, rfl, ha, tc.sc, tc.s1, ?_⟩)))
  refine as_one (as_sl (ae_name 2 rfl (ae_name 0 rfl ⟨a, TX, _, pR, 0, rfl, put_same, tc.sc, tc.s2, ?_⟩)))
  rw [put_put]
  exact ⟨_, .refl _, q⟩
def sp_Texts_of (TX : Addr) : SpA := fun ds L Q _ => ∃ (m : List Str × Rws), ds = [.ptr TX, .wds m.1, dMw m.2] ∧ McOk m ∧ Q (dTx TX (leastM m.1 m.2 0)) L
theorem ok_Texts_of (F : Fun K "of" "Texts.of" s_Texts_of f fd) (hb : Binds K fd ["cls", "words", "rows"] []) (B : Bl mg) (mkk : Mk K TX gI) (fi : FnA P w K mg base 1 gI (sp_Texts_init TX)) (g1 : GI mg "MOST_WORDS" 20) (g2 : GI mg "MOST_STATES" 100) (d1 : Def P w K mg base "is_words" 3 sp_is_words) (d2 : Def P w K mg base "is_rows" 3 sp_is_rows) (d3 : Def P w K mg base "least_machine" 3 sp_least_machine) : FnA P w K mg base 4 f (sp_Texts_of TX) := by
  refine fnA F sc_Texts_of hb (fun ds L Q R h => by obtain ⟨_, rfl, _⟩ := h; rfl) fun cdv A outer s H E ds L Q R hr h => ?_
  obtain ⟨m, rfl, hM, q⟩ := h
  obtain ⟨t1, g1⟩ := g1
  obtain ⟨t2, g2⟩ := g2
  refine as_cons (as_if (at_not (at_val (ae_call d1 (hr.mono (by omega)) (aa_cons (ae_name 1 rfl (aa_cons (ae_globI g1 (aa_nil ⟨m.1, 20, rfl, hM.wd, hM.up, hM.wl, true, rfl, (fun z => nomatch z), fun _ => as_nil ?_⟩)))))))))
  refine as_cons (as_if (at_not (at_val (ae_call d2 (hr.mono (by omega)) (aa_cons (ae_name 2 rfl (aa_cons (ae_c_len B.len (ae_name 1 rfl (len_U (aa_cons (ae_globI g2 (aa_nil ⟨m.2, m.1.length, 100, rfl, hM.ok, ?_, hM.pos, hM.rl, true, rfl, (fun z => nomatch z), fun _ => as_nil ?_⟩)))))))))))))
  · have := hM.wl
    omega
  refine as_cons (as_set 3 (ae_call d3 (hr.mono (by omega)) (aa_cons (ae_name 1 rfl (aa_cons (ae_name 2 rfl (aa_cons (ae_int (aa_nil ⟨m.1, m.2, 0, rfl, hM.ok, hM.pos, by have := hM.rl; omega, by have := hM.wl; omega, ?_⟩)))))))))
  generalize leastM m.1 m.2 0 = q0 at q ⊢
  have e1 : atI ([.wds q0.1, dMw q0.2] : List D) ((0 : Nat) : Int) = some (.wds q0.1) := atI_nat rfl
  have e2 : atI ([.wds q0.1, dMw q0.2] : List D) ((1 : Nat) : Int) = some (dMw q0.2) := atI_nat rfl
  refine as_one (as_ret (AE.frz (ae_makeV mkk fi (hr.mono (by omega)) (ae_name 0 rfl ⟨rfl, aa_cons (ae_ix (ix_A (u1 hr)) (ae_name 3 rfl (ae_int (ixa_T (aa_cons (ae_ix (ix_A (u1 hr)) (ae_name 3 rfl (ae_int (ixa_T (aa_nil fun x hx => ⟨x, q0, rfl, put_same, rfl, ?_⟩) e2))))) e1))))⟩))))
  rw [put_put]
  exact ⟨_, _, frzT hx, _, .refl _, q⟩
theorem eqv_dI (x y : List Nat) : PyData.eqv (py (dI x)) (py (dI y)) = decide (x = y) := eqv_dec (α := List Nat) x y
theorem eqv_Rw (r q : RowM) : PyData.eqv (py (dRw r)) (py (dRw q)) = decide (r = q) := by
  obtain ⟨a, b, c⟩ := r
  obtain ⟨a', b', c'⟩ := q
  unfold dRw
  have h := eqv_dI b b'
  rw [py, py, pys, pys, pys, pys, pys, pys, pys, pys, PyData.eqv, PyData.eqvAll, PyData.eqvAll, PyData.eqvAll, PyData.eqvAll, h, py, py, py, py, PyData.eqv, PyData.eqv]
  show ((a == a') && (decide (b = b') && (((c : Nat) : Int) == ((c' : Nat) : Int) && true))) = decide ((a, b, c) = (a', b', c'))
  by_cases h1 : a = a'
  · by_cases h2 : b = b'
    · by_cases h3 : c = c'
      · subst h1 h2 h3
        simp
      · rw [decide_eq_false (fun e => h3 (congrArg (fun r : RowM => r.2.2) e))]
        have : (((c : Nat) : Int) == ((c' : Nat) : Int)) = false := beq_eq_false_iff_ne.mpr (by omega)
        rw [this]
        simp
    · rw [decide_eq_false (fun e => h2 (congrArg (fun r : RowM => r.2.1) e)), decide_eq_false h2]
      simp
  · rw [decide_eq_false (fun e => h1 (congrArg (fun r : RowM => r.1) e))]
    have : (a == a') = false := beq_eq_false_iff_ne.mpr h1
    rw [this]
    rfl
theorem eqv_Mw (a b : Rws) : PyData.eqv (py (dMw a)) (py (dMw b)) = decide (a = b) := by
  unfold dMw
  rw [py, py, PyData.eqv]
  have key : ∀ a b : Rws, PyData.eqvAll (pys (a.map dRw)) (pys (b.map dRw)) = decide (a = b) := by
    intro a
    induction a with
    | nil =>
      intro b
      cases b with
      | nil => rfl
      | cons y b => rfl
    | cons x a ih =>
      intro b
      cases b with
      | nil => rfl
      | cons y b =>
        rw [List.map_cons, List.map_cons, pys, pys, PyData.eqvAll, eqv_Rw, ih]
        by_cases h1 : x = y
        · by_cases h2 : a = b
          · rw [decide_eq_true h1, decide_eq_true h2, decide_eq_true (by rw [h1, h2])]; rfl
          · rw [decide_eq_false h2, decide_eq_false (fun e => h2 (List.cons.inj e).2), Bool.and_false]
        · rw [decide_eq_false h1, decide_eq_false (fun e => h1 (List.cons.inj e).1), Bool.false_and]
  exact key a b
theorem dTx.tyl {L : Lp} {TX : Addr} {m : List Str × Rws} (c : SlX.SCls K TX) (i : SlX.SIsi K TX) : TyL K L (dTx TX m) (.ref TX) := .ins c i dTx.ins
def sp_Texts_eq (TX : Addr) : SpA := fun ds L Q _ => ∃ (m n : List Str × Rws), ds = [dTx TX m, dTx TX n] ∧ Q (.bl (decide (m = n))) L
theorem ok_Texts_eq (F : Fun K "__eq__" "Texts.__eq__" s_Texts___eq__ f fd) (hb : Binds K fd ["self", "other"] []) (B : Bl mg) (tc : TxC K TX pW pR) (si : SlX.SIsi K TX) (nm : mg "Texts" = some (.ref TX)) : FnA P w K mg base 2 f (sp_Texts_eq TX) := by
  refine fnA F sc_Texts___eq__ hb (fun ds L Q R h => by obtain ⟨_, _, rfl, _⟩ := h; rfl) fun cdv A outer s H E ds L Q R hr h => ?_
  obtain ⟨m, n, rfl, q⟩ := h
  refine as_one (as_ret (ae_and (ae_isiJ B.isinstance (ae_name 1 rfl (ae_glob (v := .ref TX) (d := .ptr TX) nm rfl (fun _ => .ptr TX) (isa_O (b := true) (.ins tc.sc si dTx.ins) (by unfold PySem.W.kitOne; rw [if_pos (beq_self_eq_true _)]) ⟨_, rfl, fun _ => ?_, fun z => nomatch z⟩))))))
  refine ae_and (ae_eq (u64 hr) (ae_sl (ae_name 0 rfl ⟨TX, pW, 1, _, dTx.w, tc.sc, tc.s1, ae_sl (ae_name 1 rfl ⟨TX, pW, 1, _, dTx.w, tc.sc, tc.s1, eq_UU ⟨_, rfl, fun h1 => ?_, fun h1 => ?_⟩⟩)⟩)))
  · have h1 := of_decide_eq_true h1
    refine ae_one (ae_eq (u64 hr) (ae_sl (ae_name 0 rfl ⟨TX, pR, 0, _, dTx.r, tc.sc, tc.s2, ae_sl (ae_name 1 rfl ⟨TX, pR, 0, _, dTx.r, tc.sc, tc.s2, eq_D (okD_dMw _) (okD_dMw _) (Nat.le_trans (dep_Mw _) (by decide)) (Nat.le_trans (dep_Mw _) (by decide)) ⟨_, .refl _, ?_⟩⟩)⟩)))
    rw [eqv_Mw]
    have : decide (m.2 = n.2) = decide (m = n) := by
      by_cases h2 : m.2 = n.2
      · rw [decide_eq_true h2, decide_eq_true (Prod.ext h1 h2)]
      · rw [decide_eq_false h2, decide_eq_false (fun e => h2 (by rw [e]))]
    rw [this]
    exact q
  · have h1 := of_decide_eq_false h1
    rw [decide_eq_false (fun e => h1 (by rw [e]))] at q
    exact ⟨_, .refl _, q⟩
def sp_Texts_fdiv (TX : Addr) : SpA := fun ds L Q _ => ∃ (m : List Str × Rws) (d : D) (us : List Str), ds = [dTx TX m, d] ∧ TxS d us ∧ MOk m.1.length m.2 ∧ 0 < m.2.length ∧ m.2.length ≤ 100000 ∧ m.1.length ≤ 1000 ∧ Q (dTx TX (leastM m.1 m.2 (runM m.1 m.2 0 us))) L
theorem ok_Texts_fdiv (F : Fun K "__floordiv__" "Texts.__floordiv__" s_Texts___floordiv__ f fd) (hb : Binds K fd ["self", "other"] []) (B : Bl mg) (tc : TxC K TX pW pR) (mkk : Mk K TX gI) (nm : mg "Texts" = some (.ref TX)) (fi : FnA P w K mg base 1 gI (sp_Texts_init TX)) (d1 : Def P w K mg base "is_text" 2 sp_is_text) (d2 : Def P w K mg base "state_behind" 2 sp_state_behind) (d3 : Def P w K mg base "least_machine" 3 sp_least_machine) : FnA P w K mg base 4 f (sp_Texts_fdiv TX) := by
  refine fnA F sc_Texts___floordiv__ hb (fun ds L Q R h => by obtain ⟨_, _, _, rfl, _⟩ := h; rfl) fun cdv A outer s H E ds L Q R hr h => ?_
  obtain ⟨m, d, us, rfl, hd, hM, h0, hz, hwl, q⟩ := h
  refine as_cons (as_if (at_not (at_val (ae_call d1 (hr.mono (by omega)) (aa_cons (ae_name 1 rfl (aa_nil ⟨_, us, rfl, hd, true, rfl, (fun z => nomatch z), fun _ => as_nil ?_⟩)))))))
  refine as_cons (as_set 2 (ae_call d2 (hr.mono (by omega)) (aa_cons (ae_sl (ae_name 0 rfl ⟨TX, pW, 1, _, dTx.w, tc.sc, tc.s1, aa_cons (ae_sl (ae_name 0 rfl ⟨TX, pR, 0, _, dTx.r, tc.sc, tc.s2, aa_cons (ae_name 1 rfl (aa_nil ⟨m.1, m.2, _, us, rfl, hd.ts, hM, h0, ?_⟩))⟩))⟩)))))
  have hs : runM m.1 m.2 0 us < m.2.length := runM_lt hM us 0 h0
  · refine as_cons (as_set 3 (ae_call d3 (hr.mono (by omega)) (aa_cons (ae_sl (ae_name 0 rfl ⟨TX, pW, 1, _, dTx.w, tc.sc, tc.s1, aa_cons (ae_sl (ae_name 0 rfl ⟨TX, pR, 0, _, dTx.r, tc.sc, tc.s2, aa_cons (ae_name 2 rfl (aa_nil ⟨m.1, m.2, _, rfl, hM, hs, hz, hwl, ?_⟩))⟩))⟩)))))
    generalize leastM m.1 m.2 (runM m.1 m.2 0 us) = q0 at q ⊢
    have e1 : atI ([.wds q0.1, dMw q0.2] : List D) ((0 : Nat) : Int) = some (.wds q0.1) := atI_nat rfl
    have e2 : atI ([.wds q0.1, dMw q0.2] : List D) ((1 : Nat) : Int) = some (dMw q0.2) := atI_nat rfl
    refine as_one (as_ret (AE.frz (ae_make mkk fi nm (hr.mono (by omega)) (aa_cons (ae_ix (ix_A (u1 hr)) (ae_name 3 rfl (ae_int (ixa_T (aa_cons (ae_ix (ix_A (u1 hr)) (ae_name 3 rfl (ae_int (ixa_T (aa_nil fun x hx => ⟨x, q0, rfl, put_same, rfl, ?_⟩) e2))))) e1))))))))
    rw [put_put]
    exact ⟨_, _, frzT hx, _, .refl _, q⟩
def sp_Texts_in (TX : Addr) : SpA := fun ds L Q _ => ∃ (m : List Str × Rws) (d : D) (us : List Str), ds = [dTx TX m, d] ∧ TxS d us ∧ MOk m.1.length m.2 ∧ 0 < m.2.length ∧ Q (.bl (accM m.1 m.2 0 us)) L
theorem ok_Texts_in (F : Fun K "__contains__" "Texts.__contains__" s_Texts___contains__ f fd) (hb : Binds K fd ["self", "value"] []) (B : Bl mg) (tc : TxC K TX pW pR) (d1 : Def P w K mg base "is_text" 2 sp_is_text) (d2 : Def P w K mg base "state_behind" 2 sp_state_behind) : FnA P w K mg base 3 f (sp_Texts_in TX) := by
  refine fnA F sc_Texts___contains__ hb (fun ds L Q R h => by obtain ⟨_, _, _, rfl, _⟩ := h; rfl) fun cdv A outer s H E ds L Q R hr h => ?_
  obtain ⟨m, d, us, rfl, hd, hM, h0, q⟩ := h
  have hs : runM m.1 m.2 0 us < m.2.length := runM_lt hM us 0 h0
  unfold accM at q
  have hr0 := rw_get hs
  obtain ⟨r, hrr⟩ : ∃ r, rowAt m.2 (runM m.1 m.2 0 us) = r := ⟨_, rfl⟩
  rw [hrr] at q hr0
  have e1 : atI ([.bl r.1, dI r.2.1, .int (r.2.2 : Nat)] : List D) ((0 : Nat) : Int) = some (.bl r.1) := atI_nat rfl
  refine as_one (as_ret (ae_and (ae_call d1 (hr.mono (by omega)) (aa_cons (ae_name 1 rfl (aa_nil ⟨_, us, rfl, hd, _, rfl, fun _ => ?_, fun z => nomatch z⟩))))))
  refine ae_one (ae_ix (ix_A (u1 hr)) (ae_ix (ix_A (u1 hr)) (ae_sl (ae_name 0 rfl ⟨TX, pR, 0, _, dTx.r, tc.sc, tc.s2, ae_call d2 (hr.mono (by omega)) (aa_cons (ae_sl (ae_name 0 rfl ⟨TX, pW, 1, _, dTx.w, tc.sc, tc.s1, aa_cons (ae_sl (ae_name 0 rfl ⟨TX, pR, 0, _, dTx.r, tc.sc, tc.s2, aa_cons (ae_name 1 rfl (aa_nil ⟨m.1, m.2, _, us, rfl, hd.ts, hM, h0, ixa_T (ae_int (ixa_T ⟨_, .refl _, q⟩ e1)) hr0⟩))⟩))⟩)))⟩))))
end
end K
namespace K
open PySem PySem.Spec PyProof.Rows L2 DL
def isPot (k : Nat) (mo : MO) : Prop := ∃ a b c : Int, mo = .lst [.int a, .int b, .int c] ∧ 0 ≤ a ∧ 0 ≤ b ∧ b < 2305843009213693952 ∧ 0 ≤ c ∧ c ≤ k
theorem isPot.mono {j k : Nat} {mo : MO} (h : isPot j mo) (hk : j ≤ k) : isPot k mo := by
  obtain ⟨a, b, c, e, h1, h2, h3, h4, h5⟩ := h
  exact ⟨a, b, c, e, h1, h2, h3, h4, by omega⟩
theorem le_put2 {A B : Lp} (h : Le A B) (p : Addr) (o : MO) : Le (put A p o) (put B p o) := fun a u e => by
  by_cases ea : a = p
  · subst ea
    rw [put_same] at e ⊢
    exact e
  · rw [put_ne ea] at e ⊢
    exact h a u e
theorem cp60 : CPow 10 60 := ⟨by decide, by decide, by decide⟩
theorem cp18 : CPow 10 18 := ⟨by decide, by decide, by decide⟩
theorem b01 (b : Bool) : -(2 ^ 64) < (if b = true then (1 : Int) else 0) ∧ (if b = true then (1 : Int) else 0) < 2 ^ 64 := by cases b <;> decide
theorem b0 (b : Bool) : 0 ≤ (if b = true then (1 : Int) else 0) := by cases b <;> decide
section
variable {P : Program} {w : World} {K : PySem.W.Frag} {mg : Str → Option Value} {base : Heap} {f : Addr} {fd : FuncData}
def sp_pot : SpA := fun ds L Q _ => ∃ (ns : List Int) (k : Nat), ds = [.ilst ns, .int k] ∧ k < 1000 ∧ ∀ p mo, L p = none → isPot 0 mo → Q (.ptr p) (put L p mo)
theorem ok_pot (F : Fun K "_law_pot" "_law_pot" s__law_pot f fd) (hb : Binds K fd ["_law_script", "_law_k"] []) (B : Bl mg) : FnA P w K mg base 1 f sp_pot := by
  refine fnA F sc__law_pot hb (fun ds L Q R h => ?_) fun cdv A outer s H E ds L Q R hr h => ?_
  · obtain ⟨_, _, rfl, _⟩ := h; rfl
  · obtain ⟨ns, k, rfl, hk, q⟩ := h
    have key : ∀ v : Int, ASs (fctx P w K mg base ["_law_script", "_law_k", "_law_cell", "_law_own", "_law_mixed"] "_law_pot" (defScope s__law_pot) f cdv A outer s H E sc__law_pot.nd R) (defBody s__law_pot).tail [some (.ilst ns), some (.int k), some (.int v), none, none] L (endsOf Q) := fun v => by
      have a0 : 0 ≤ (if v < 0 then -v else v) := by split <;> omega
      refine as_cons (as_set 3 (ae_bin op_mul (ae_bin op_mod (ae_callT call_int1 B.int (aa_cons (ae_callB call_abs B.abs (aa_cons (ae_name 2 rfl (aa_nil (c_abs (aa_nil (c_intI (ae_bin op_powX (ae_bin op_pow (ae_int (ae_int (r_pow cp60 (ae_int (r_powX big_ok (r_mod (by decide) ?_))))))))))))))))))))
      generalize hO : (if v < 0 then -v else v) % _ = O
      have o0 : 0 ≤ O := by rw [← hO]; exact Int.emod_nonneg _ (by decide)
      refine ae_callT call_int1 B.int (aa_cons (ae_cmp op_ge rfl (ae_callB call_abs B.abs (aa_cons (ae_name 2 rfl (aa_nil (c_abs (ae_bin op_pow (ae_int (ae_int (r_pow cp18 (r_ge (aa_nil (c_intB (r_mul (.inr (b01 _)) ?_)))))))))))))))
      generalize hO2 : O * _ = O2
      have o2 : 0 ≤ O2 := by rw [← hO2]; exact Int.mul_nonneg o0 (b0 _)
      refine as_cons (as_set 4 (ae_bin op_add (ae_bin op_add (ae_bin op_mul (ae_bin op_mod (ae_callT call_int1 B.int (aa_cons (ae_name 2 rfl (aa_nil (c_intI (ae_int (r_mod (by decide) (ae_int (r_mul (.inr (by decide)) (ae_bin op_mul (ae_bin op_mul (ae_int (ae_name 1 rfl (r_mul (.inl (by decide)) (ae_name 1 rfl (r_mul (.inr (by omega)) (r_add (ae_int (r_add ?_))))))))))))))))))))))))
      generalize hM : (v % 2305843009213693951 * 70991 + 5323 * (k : Int) * (k : Int) + 71) = M
      refine as_one (as_ret (ae_lst (aa_cons (ae_name 3 rfl (aa_cons (ae_bin op_mod (ae_callT call_int1 B.int (aa_cons (ae_name 4 rfl (aa_nil (c_intI (ae_int (r_mod (by decide) (aa_cons (ae_int (aa_nil ⟨by show 3 ≤ sizeLine; decide, fun p hp => ⟨_, .refl _, q p _ hp ⟨O2, _, 0, rfl, o2, Int.emod_nonneg _ (by decide), ?_, by decide, by decide⟩⟩⟩))))))))))))))))
      have := Int.emod_lt_of_pos M (show (0 : Int) < 2305843009213693921 by decide)
      omega
    refine as_cons (as_set 2 (ae_ifExp (at_cmp op_lt rfl (ae_name 1 rfl (ae_callB call_len_seq B.len (aa_cons (ae_name 0 rfl (aa_nil (c_lenN (r_lt ⟨_, rfl, fun h1 => ae_ix ix_list (ae_name 0 rfl (ae_name 1 rfl (r_ixN (k := ns.getD k 0) ?_ (key _)))), fun h1 => ae_bin op_add (ae_bin op_mul (ae_int (ae_name 1 rfl (r_mul (.inl (by decide)) (ae_int (r_add (key _)))))))⟩))))))))))
    have h1 := of_decide_eq_true h1
    have hlt : k < ns.length := by omega
    refine atI_nat ?_
    rw [List.getD_eq_getElem?_getD, List.getElem?_eq_getElem hlt]
    rfl
def sp_take : SpA := fun ds L Q _ => ∃ (p : Addr) (mo : MO) (k n : Nat), ds = [.ptr p, .int n] ∧ L p = some mo ∧ isPot k mo ∧ k ≤ 100000 ∧ 0 < n ∧ n ≤ 1000000 ∧ ∀ (j : Nat) mo', j < n → isPot (k + 1) mo' → Q (.int j) (put L p mo')
theorem ok_take (F : Fun K "_law_take" "_law_take" s__law_take f fd) (hb : Binds K fd ["_law_pot_here", "_law_upto"] []) (B : Bl mg) : FnA P w K mg base 1 f sp_take := by
  refine fnA F sc__law_take hb (fun ds L Q R h => ?_) fun cdv A outer s H E ds L Q R hr h => ?_
  · obtain ⟨_, _, _, _, rfl, _⟩ := h; rfl
  · obtain ⟨p, mo, k, n, rfl, hp, ⟨a, b, c, rfl, ha, hb0, hb1, hc0, hc1⟩, hk, hn, hn2, q⟩ := h
    have cd : CDiv a n := ⟨by omega, by omega⟩
    have fin : ∀ (x : Int) (mo' : MO), isPot (k + 1) mo' → Q (.int (x % (n : Int))) (put L p mo') := fun x mo' h' => by
      have h1 := Int.emod_nonneg x (show (n : Int) ≠ 0 by omega)
      have h2 := Int.emod_lt_of_pos x (show (0 : Int) < n by omega)
      have := q (x % n).toNat mo' (by omega) h'
      rwa [Int.toNat_of_nonneg h1] at this
    refine as_cons (as_if (at_cmp op_gt rfl (ae_ix ix_list (ae_name 0 rfl (ae_int (r_ixL hp rfl (ae_int (r_gt ⟨_, rfl, fun h1 => ?_, fun h1 => ?_⟩))))))))
    · refine as_cons (as_set 2 (ae_bin op_mod (ae_callT call_int1 B.int (aa_cons (ae_ix ix_list (ae_name 0 rfl (ae_int (r_ixL hp rfl (aa_nil (c_intI (ae_name 1 rfl (r_mod (by omega) ?_))))))))))))
      refine as_cons (as_sub set_list (ae_bin op_fdiv (ae_ix ix_list (ae_name 0 rfl (ae_int (r_ixL hp rfl (ae_name 1 rfl (r_fdiv cd (ae_name 0 rfl (ae_int (w_list (j := 0) hp rfl ?_)))))))))))
      refine as_one (as_ret (ae_name 2 rfl ⟨_, .refl _, fin a _ ⟨a / n, b, c, rfl, Int.ediv_nonneg ha (by omega), hb0, hb1, hc0, by omega⟩⟩))
    · refine as_nil (as_cons (as_sub set_list (ae_bin op_add (ae_ix ix_list (ae_name 0 rfl (ae_int (r_ixL hp rfl (ae_int (r_add (ae_name 0 rfl (ae_int (w_list (j := 2) hp rfl ?_))))))))))))
      have hp1 : put L p (.lst ([.int a, .int b, .int c].set 2 (.int (c + 1)))) p = some (.lst [.int a, .int b, .int (c + 1)]) := put_same
      have pot' : isPot (k + 1) (.lst [.int a, .int b, .int (c + 1)]) := ⟨a, b, c + 1, rfl, ha, hb0, hb1, by omega, by omega⟩
      refine as_cons (as_set 3 (AE.drop (ae_ix ix_list (ae_lst (aa_cons (ae_int (aa_cons (ae_int (aa_cons (ae_int (aa_cons (ae_int (aa_cons (ae_int (aa_nil ⟨by show 5 ≤ sizeLine; decide, fun l hl => ?_⟩)))))))))))))))
      have hpl : p ≠ l := ne_of_free hp1 hl
      have hp2 : ∀ o, put (put L p (.lst ([.int a, .int b, .int c].set 2 (.int (c + 1))))) l o p = some (.lst [.int a, .int b, .int (c + 1)]) := fun o => by rw [put_ne hpl]; exact hp1
      have m0 := Int.emod_nonneg (c + 1) (show (5 : Int) ≠ 0 by decide)
      have m1 := Int.emod_lt_of_pos (c + 1) (show (0 : Int) < 5 by decide)
      have hprime : ∃ pr : Int, 0 < pr ∧ pr < 2147483648 ∧ atI [D.int 2147483647, .int 2147483629, .int 2147483587, .int 2147483579, .int 2147483563] ((c + 1) % 5) = some (.int pr) := by
        have : (c + 1) % 5 = 0 ∨ (c + 1) % 5 = 1 ∨ (c + 1) % 5 = 2 ∨ (c + 1) % 5 = 3 ∨ (c + 1) % 5 = 4 := by omega
        rcases this with h | h | h | h | h <;> rw [h] <;> exact ⟨_, by decide, by decide, rfl⟩
      obtain ⟨pr, pr0, pr1, hpr⟩ := hprime
      refine ae_bin op_mod (ae_callT call_int1 B.int (aa_cons (ae_ix ix_list (ae_name 0 rfl (ae_int (r_ixL (hp2 _) rfl (aa_nil (c_intI (ae_int (r_mod (by decide) (r_ixL put_same hpr ⟨_, le_put hl, ?_⟩)))))))))))
      have cc : c + 1 ≤ 1000000 := by omega
      have sq0 : 0 ≤ 99991 * (c + 1) := Int.mul_nonneg (by decide) (by omega)
      have sq1 : 99991 * (c + 1) ≤ 99991 * 1000000 := Int.mul_le_mul_of_nonneg_left cc (by decide)
      have sq2 : 0 ≤ 99991 * (c + 1) * (c + 1) := Int.mul_nonneg sq0 (by omega)
      have sq3 : 99991 * (c + 1) * (c + 1) ≤ 99991 * 1000000 * 1000000 := Int.mul_le_mul sq1 cc (by omega) (by decide)
      have cp : CPow (b + 99991 * (c + 1) * (c + 1) + 41) 3 := ⟨by decide, by decide, by omega⟩
      refine as_cons (as_set 4 (ae_bin op_mod (ae_callT call_int1 B.int (aa_cons (ae_bin op_pow (ae_callT call_int1 B.int (aa_cons (ae_bin op_add (ae_bin op_add (ae_ix ix_list (ae_name 0 rfl (ae_int (r_ixL hp1 rfl (ae_bin op_mul (ae_bin op_mul (ae_int (ae_ix ix_list (ae_name 0 rfl (ae_int (r_ixL hp1 rfl (r_mul (.inl (by decide)) (ae_ix ix_list (ae_name 0 rfl (ae_int (r_ixL hp1 rfl (r_mul (.inr (by omega)) (r_add (ae_int (r_add (aa_nil (c_intI (ae_int (r_pow cp (aa_nil (c_intI (ae_name 3 rfl (r_mod pr0 ?_)))))))))))))))))))))))))))))))))))))
      generalize hM : (b + 99991 * (c + 1) * (c + 1) + 41) ^ (3 : Int).toNat % pr = M
      have M0 : 0 ≤ M := by rw [← hM]; exact Int.emod_nonneg _ (by omega)
      have M1 : M < pr := by rw [← hM]; exact Int.emod_lt_of_pos _ pr0
      refine as_cons (as_set 4 (ae_bin op_mod (ae_callT call_int1 B.int (aa_cons (ae_bin op_mul (ae_name 4 rfl (ae_bin op_add (ae_bin op_mod (ae_callT call_int1 B.int (aa_cons (ae_name 4 rfl (aa_nil (c_intI (ae_int (r_mod (by decide) (ae_bin op_mul (ae_int (ae_ix ix_list (ae_name 0 rfl (ae_int (r_ixL hp1 rfl (r_mul (.inl (by decide)) (r_add (r_mul (.inl (by omega)) (aa_nil (c_intI (ae_int (r_mod (by decide) ?_))))))))))))))))))))))))))))
      generalize hM2 : M * (M % 10009 + 83 * (c + 1)) % 2305843009213693907 = M2
      refine as_one (as_ret (ae_bin op_mod (ae_callT call_int1 B.int (aa_cons (ae_bin op_fdiv (ae_name 4 rfl (ae_int (r_fdiv (by exact ⟨by decide, by decide⟩) (aa_nil (c_intI (ae_name 1 rfl (r_mod (by omega) ⟨_, .refl _, fin _ _ pot'⟩))))))))))))
def sp_of : SpA := fun ds L Q _ => ∃ (p l : Addr) (mo : MO) (k : Nat) (xs : List D), ds = [.ptr p, .ptr l] ∧ L p = some mo ∧ isPot k mo ∧ k ≤ 100000 ∧ L l = some (.lst xs) ∧ l ≠ p ∧ 0 < xs.length ∧ xs.length ≤ 1000000 ∧ ∀ d mo', d ∈ xs → isPot (k + 1) mo' → Q d (put L p mo')
theorem ok_of (F : Fun K "_law_of" "_law_of" s__law_of f fd) (hb : Binds K fd ["_law_pot_here", "_law_some"] []) (B : Bl mg) (d1 : Def P w K mg base "_law_take" 1 sp_take) : FnA P w K mg base 2 f sp_of := by
  refine fnA F sc__law_of hb (fun ds L Q R h => ?_) fun cdv A outer s H E ds L Q R hr h => ?_
  · obtain ⟨_, _, _, _, _, rfl, _⟩ := h; rfl
  · obtain ⟨p, l, mo, k, xs, rfl, hp, hpot, hk, hl, hne, h0, h1, q⟩ := h
    refine as_one (as_ret (ae_ix ix_list (ae_name 1 rfl (ae_call d1 (hr.mono (by omega)) (aa_cons (ae_name 0 rfl (aa_cons (ae_callB call_len_seq B.len (aa_cons (ae_name 1 rfl (aa_nil (c_lenL hl (aa_nil ⟨p, mo, k, xs.length, rfl, hp, hpot, hk, h0, h1, fun j mo' hj hm => ?_⟩)))))))))))))
    refine r_ixL (xs := xs) (d := xs[j]) (by rw [put_ne hne]; exact hl) (atI_nat (List.getElem?_eq_getElem hj)) ⟨_, .refl _, q _ _ (List.getElem_mem hj) hm⟩
end
end K
namespace K
open PySem PySem.Spec PyProof.Rows L2 DL
theorem le_pf {L : Lp} {p l : Addr} {mo2 X mo' : MO} (hl : put L p mo2 l = none) : Le (put L p mo') (put (put (put L p mo2) l X) p mo') := by
  have := le_put2 (le_put (o := X) hl) p mo'
  rwa [put_put] at this
theorem fresh_ne {L : Lp} {p l : Addr} {mo : MO} (hl : put L p mo l = none) : l ≠ p := fun e => by
  rw [e, put_same] at hl
  cases hl
theorem fresh_L {L : Lp} {p l : Addr} {mo : MO} (hl : put L p mo l = none) : L l = none := by
  rw [put_ne (fresh_ne hl)] at hl
  exact hl
theorem abc_cl : cl ("abcdefghijklmnopqrstuvwxyz" : Str) = abc := rfl
theorem few_cl : ∀ k ∈ cl ("aaabyz" : Str), k ∈ abc := by decide +kernel
section
variable {P : Program} {w : World} {K : PySem.W.Frag} {mg : Str → Option Value} {base : Heap} {f : Addr} {fd : FuncData}
def sp_word : SpA := fun ds L Q _ => ∃ (p : Addr) (mo : MO) (k : Nat), ds = [.ptr p] ∧ L p = some mo ∧ isPot k mo ∧ k ≤ 50000 ∧ ∀ x mo', wdS x = true → isPot (k + 20) mo' → Q (.str x) (put L p mo')
theorem ok_word (F : Fun K "_law_word" "_law_word" s__law_word f fd) (hb : Binds K fd ["_law_pot_here"] []) (B : Bl mg) (d1 : Def P w K mg base "_law_take" 1 sp_take) (d2 : Def P w K mg base "_law_of" 2 sp_of) : FnA P w K mg base 3 f sp_word := by
  refine fnA F sc__law_word hb (fun ds L Q R h => ?_) fun cdv A outer s H E ds L Q R hr h => ?_
  · obtain ⟨_, _, _, rfl, _⟩ := h; rfl
  · obtain ⟨p, mo, k, rfl, hp, hpot, hk, q⟩ := h
    refine as_cons (as_par 1 2 (aa_cons (ae_call d1 (hr.mono (by omega)) (aa_cons (ae_name 0 rfl (aa_cons (ae_int (aa_nil ⟨p, mo, k, 4, rfl, hp, hpot, by omega, by omega, by omega, fun j mo1 hj h1 => aa_cons (ae_bin op_add (ae_int (ae_call d1 (hr.mono (by omega)) (aa_cons (ae_name 0 rfl (aa_cons (ae_int (aa_nil ⟨p, mo1, k + 1, 8, rfl, put_same, h1, by omega, by omega, by omega, fun i mo2 hi h2 => r_add (aa_nil ⟨_, _, rfl, ?_⟩)⟩))))))))⟩))))))))
    rw [put_put]
    have q1 : ∀ x mo', wdS x = true → isPot (k + 20) mo' → Q (.str x) (put (put L p mo2) p mo') := fun x mo' h h' => by rw [put_put]; exact q x mo' h h'
    generalize hL1 : put L p mo2 = L1 at q1
    have hp1 : L1 p = some mo2 := by rw [← hL1]; exact put_same
    have h2 : isPot (k + 2) mo2 := h2
    clear hL1 q
    have one : ∀ d, d ∈ sgnsOf ("abcdefghijklmnopqrstuvwxyz" : Str) → ∃ c, c ∈ abc ∧ d = .str (sgn c) := fun d hd => by
      obtain ⟨c, h1, h2⟩ := DL.signs_mem hd
      exact ⟨c, h1, h2⟩
    refine as_cons (as_if (at_cmp op_lt rfl (ae_name 1 rfl (ae_int (r_lt ⟨_, rfl, fun hw => as_one (as_ret (ae_call d2 (hr.mono (by omega)) (aa_cons (ae_name 0 rfl (aa_cons (ae_callT (call_listS rfl) B.list (aa_cons (ae_str (aa_nil (c_listS fun l hl => aa_nil ⟨p, l, mo2, k + 2, _, rfl, by rw [put_ne (ne_of_free hp1 hl)]; exact hp1, h2, by omega, put_same, (ne_of_free hp1 hl).symm, by decide +kernel, by decide +kernel, fun d mo' hd hm => ?_⟩)))))))))), fun hw => as_nil ?_⟩)))))
    · obtain ⟨c, hc, rfl⟩ := one d hd
      exact ⟨put L1 p mo', le_put2 (le_put hl) p mo', q1 _ _ (wdS_of (by show 1 ≤ 1; decide) (by show 1 ≤ 8; decide) (abcW_of fun z hz => by rw [List.mem_singleton.mp hz]; exact hc)) (hm.mono (by omega))⟩
    · refine as_cons (as_if (at_cmp op_eq rfl (ae_name 1 rfl (ae_int (r_eqI ⟨_, rfl, fun hw => as_one (as_ret (ae_bin op_mulS (ae_call d2 (hr.mono (by omega)) (aa_cons (ae_name 0 rfl (aa_cons (ae_callT (call_listS rfl) B.list (aa_cons (ae_str (aa_nil (c_listS fun l hl => aa_nil ⟨p, l, mo2, k + 2, _, rfl, by rw [put_ne (ne_of_free hp1 hl)]; exact hp1, h2, by omega, put_same, (ne_of_free hp1 hl).symm, by decide +kernel, by decide +kernel, fun d mo' hd hm => ?_⟩))))))))))), fun hw => as_nil ?_⟩)))))
      · obtain ⟨c, hc, rfl⟩ := DL.signs_mem hd
        have hc := few_cl c hc
        have en : ((1 : Int) + (i : Int)).toNat = i + 1 := by omega
        refine ae_name 2 rfl (r_mulS (by omega) (by omega) (by rw [en]; show 1 * (i + 1) ≤ _; omega) ⟨put L1 p mo', le_put2 (le_put hl) p mo', q1 _ _ ?_ (hm.mono (by omega))⟩)
        have ec : cl (repS (sgn c) ((1 : Int) + (i : Int)).toNat) = List.replicate (i + 1) c := by
          rw [cl_rep, en, cl_sgn]
          induction (i + 1) with
          | zero => rfl
          | succ n ih => rw [List.replicate_succ, List.flatten_cons, ih, List.replicate_succ]; rfl
        refine wdS_of ?_ ?_ ?_ <;> rw [ec]
        · rw [List.length_replicate]; omega
        · rw [List.length_replicate]; omega
        · exact abcW_of fun z hz => by rw [List.eq_of_mem_replicate hz]; exact hc
      · refine as_one (as_ret (ae_join (ae_str ⟨_, rfl, ae_lc [("_law_lap", 3)] (ai_range1 B.range (ae_name 2 rfl ⟨_, rfl, by omega, by omega, ?_⟩))⟩)))
        have en : ((1 : Int) + (i : Int)).toNat = i + 1 := by omega
        rw [en]
        refine ⟨fun t acc L2 => ∃ ks mo, acc = (ks.map sgn).map D.str ∧ ks.length = t ∧ (∀ c ∈ ks, c ∈ abc) ∧ L2 = put L1 p mo ∧ isPot (k + 2 + t) mo, ⟨[], mo2, rfl, rfl, (fun c hc => nomatch hc), (put_self hp1).symm, h2⟩, fun _ _ _ _ => trivial, ?_, ?_⟩
        · rintro t d acc L2 hd ⟨ks, mo, rfl, hks, hc, rfl, hm⟩
          have ht := (rangeD_inv hd).1
          refine ⟨_, _, fun j hj => hj, fun s H Cc cl fp => ⟨ag_name 3, ats_nil ⟨fun _ s H Cc cl fp => ?_, (fun z => nomatch z)⟩⟩⟩
          refine AE.drop (ae_call d2 (hr.mono (by omega)) (aa_cons (ae_name 0 rfl (aa_cons (ae_callT (call_listS rfl) B.list (aa_cons (ae_str (aa_nil (c_listS fun l hl => aa_nil ⟨p, l, mo, k + 2 + t, _, rfl, by rw [put_ne (fresh_ne hl).symm]; exact put_same, hm, by omega, put_same, fresh_ne hl, by decide +kernel, by decide +kernel, fun d mo' hd hm' => ?_⟩)))))))))
          obtain ⟨c, hc1, rfl⟩ := one d hd
          refine ⟨put L1 p mo', le_pf hl, by rw [List.length_map, List.length_map, sl_eq]; omega, ks ++ [c], mo', by rw [List.map_append, List.map_append]; rfl, by rw [List.length_append, hks]; rfl, fun z hz => ?_, rfl, hm'.mono (by omega)⟩
          rcases List.mem_append.mp hz with z1 | z1
          · exact hc z z1
          · rw [List.mem_singleton.mp z1]; exact hc1
        · rintro acc L2 ⟨ks, mo, rfl, hks, hc, rfl, hm⟩ l hl
          rw [rangeD_len] at hks hm
          refine ⟨l, ks.map sgn, rfl, put_same, by rw [sum_sgn, hks]; show i + 1 + _ * 0 ≤ _; omega, put L1 p mo, le_put hl, q1 _ _ ?_ (hm.mono (by omega))⟩
          refine wdS_of ?_ ?_ ?_
          · rw [show cl (Txt.join ("" : Str) (ks.map sgn)) = ks from cl_join ks]; omega
          · rw [show cl (Txt.join ("" : Str) (ks.map sgn)) = ks from cl_join ks]; omega
          · rw [show cl (Txt.join ("" : Str) (ks.map sgn)) = ks from cl_join ks]
            exact abcW_of hc
end
end K
namespace K
open PySem PySem.Spec PyProof.Rows L2 DL
section
variable {P : Program} {w : World} {K : PySem.W.Frag} {mg : Str → Option Value} {base : Heap} {f : Addr} {fd : FuncData}
def sp_names : SpA := fun ds L Q _ => ∃ (p : Addr) (mo : MO) (k m : Nat), ds = [.ptr p, .int m] ∧ L p = some mo ∧ isPot k mo ∧ k ≤ 40000 ∧ 1 ≤ m ∧ m ≤ 20 ∧
  ∀ (nl : Addr) (ys : List Str) (mo' : MO), L nl = none → nl ≠ p → ys.length = m → (∀ y ∈ ys, wdS y = true) → ys.Nodup → isPot (k + 500) mo' → Q (.ptr nl) (St2 L p mo' nl (.lst (ys.map .str)))
theorem ok_names (F : Fun K "_law_names" "_law_names" s__law_names f fd) (hb : Binds K fd ["_law_pot_here", "_law_many"] []) (B : Bl mg) (d1 : Def P w K mg base "_law_take" 1 sp_take) (d2 : Def P w K mg base "_law_word" 3 sp_word) : FnA P w K mg base 4 f sp_names := by
  refine fnA F sc__law_names hb (fun ds L Q R h => ?_) fun cdv A outer s H E ds L Q R hr h => ?_
  · obtain ⟨_, _, _, _, rfl, _⟩ := h; rfl
  · obtain ⟨p, mo, k, m, rfl, hp, hpot, hk, hm1, hm2, q⟩ := h
    refine as_mid (fun Γ' L' => ∃ st fl mo2, (cl st).length ≤ 7 ∧ abcW (cl st) = true ∧ L fl = none ∧ fl ≠ p ∧ isPot (k + 21) mo2 ∧ L' = St2 L p mo2 fl (.lst (([] : List Str).map .str)) ∧ Γ' = [some (.ptr p), some (.int m), some (.str st), some (.ptr fl), none, none, none, none]) ?_ ?_
    · refine as_asg (ae_tup (aa_cons (AE.drop (ae_ix ix_list (ae_lst (aa_cons (ae_slice sl_str (ae_call d2 (hr.mono (by omega)) (aa_cons (ae_name 0 rfl (aa_nil ⟨p, mo, k, rfl, hp, hpot, by omega, fun x mo1 hx h1 => ao_none (ao_some (ae_int ⟨7, rfl, s_str (aa_cons (ae_str (aa_nil ⟨by show 2 ≤ sizeLine; decide, fun l hl => ?_⟩)))⟩))⟩)))))))))))
      refine ae_call d1 (hr.mono (by omega)) (aa_cons (ae_name 0 rfl (aa_cons (ae_int (aa_nil ⟨p, mo1, k + 20, 2, rfl, by rw [put_ne (fresh_ne hl).symm]; exact put_same, h1, by omega, by omega, by omega, fun j mo2 hj h2 => ?_⟩)))))
      have h2 : isPot (k + 21) mo2 := h2
      have hx2 := wdS_iff hx
      have e7 : cl (cutS x none (some 7)) = (cl x).take 7 := (cl_cut x none (some 7)).trans (cut_to (cl x) 7)
      have hl2 : ∀ X, put (put (put L p mo1) l X) p mo2 l = some X := fun X => by rw [put_ne (fresh_ne hl)]; exact put_same
      match j, hj with
      | 0, _ =>
        refine r_ixL (hl2 _) rfl ⟨put L p mo2, le_pf hl, aa_cons (ae_lst (aa_nil ⟨Nat.zero_le _, fun fl hfl => aa_nil ⟨by show 2 ≤ sizeLine; decide, _, _, ag_tup (ags_cons (ag_name 2) (ags_cons (ag_name 3) ags_nil)), cutS x none (some 7), fl, mo2, ?_, ?_, fresh_L hfl, fresh_ne hfl, h2, rfl, rfl⟩⟩))⟩
        · rw [e7, List.length_take]; omega
        · rw [e7]; exact abcW_of fun c hc => abcW_mem hx2.2.2 c (List.mem_of_mem_take hc)
      | 1, _ => exact r_ixL (hl2 _) rfl ⟨put L p mo2, le_pf hl, aa_cons (ae_lst (aa_nil ⟨Nat.zero_le _, fun fl hfl => aa_nil ⟨by show 2 ≤ sizeLine; decide, _, _, ag_tup (ags_cons (ag_name 2) (ags_cons (ag_name 3) ags_nil)), Str.empty, fl, mo2, by decide, by decide, fresh_L hfl, fresh_ne hfl, h2, rfl, rfl⟩⟩))⟩
    · rintro Γ' L' ⟨st, fl, mo2, hs1, hs2, hfl, hne, h2, rfl, rfl⟩
      refine as_mid (fun Γ' L' => ∃ (sp : Nat) (mo3 : MO), sp ≤ (cl st).length ∧ isPot (k + 22) mo3 ∧ L' = St2 L p mo3 fl (.lst (([] : List Str).map .str)) ∧ Γ' = [some (.ptr p), some (.int m), some (.str st), some (.ptr fl), some (.int sp), none, none, none]) ?_ ?_
      · refine as_set 4 (ae_call d1 (hr.mono (by omega)) (aa_cons (ae_name 0 rfl (aa_cons (ae_bin op_add (ae_callB call_len_str B.len (aa_cons (ae_name 2 rfl (aa_nil (c_lenS (ae_int (r_add (aa_nil ⟨p, mo2, k + 21, (cl st).length + 1, by rw [cl_len]; rfl, St2.p hne, h2, by omega, by omega, by omega, fun j mo3 hj h3 => ⟨j, mo3, by omega, h3, St2.putP hne, rfl⟩⟩)))))))))))))
      · rintro Γ' L' ⟨sp, mo3, hsp, h3, rfl, rfl⟩
        refine as_cons (as_for (ai_range1 B.range (ae_name 1 rfl ⟨_, rfl, by omega, by omega, ?_⟩)))
        rw [show ((m : Int)).toNat = m by omega]
        refine ⟨fun i Γ2 L2 => ∃ (ys : List Str) (mo4 : MO) (a b c : Option D), ys.length = i ∧ (∀ y ∈ ys, wdS y = true) ∧ ys.Nodup ∧ isPot (k + 22 + 20 * i) mo4 ∧ L2 = St2 L p mo4 fl (.lst (ys.map .str)) ∧ Γ2 = [some (.ptr p), some (.int m), some (.str st), some (.ptr fl), some (.int sp), a, b, c], ⟨[], mo3, none, none, none, rfl, (fun y hy => nomatch hy), List.nodup_nil, h3, rfl, rfl⟩, fun _ _ _ _ => trivial, ?_, ?_⟩
        · rintro i d Γ2 L2 hd ⟨ys, mo4, a, b, c, hys, hw, hnd, h4, rfl, rfl⟩
          have hi := (rangeD_inv hd).1
          refine ⟨_, _, ag_name 5, ?_⟩
          refine as_cons (as_set 6 (ae_call d2 (hr.mono (by omega)) (aa_cons (ae_name 0 rfl (aa_nil ⟨p, mo4, k + 22 + 20 * i, rfl, St2.p hne, h4, by omega, fun x mo5 hx h5 => ?_⟩)))))
          rw [St2.putP hne]
          have hx2 := wdS_iff hx
          refine as_mid (fun Γ' L' => ∃ y, wdS y = true ∧ L' = St2 L p mo5 fl (.lst (ys.map .str)) ∧ Γ' = [some (.ptr p), some (.int m), some (.str st), some (.ptr fl), some (.int sp), some d, some (.str y), c]) ?_ ?_
          · refine as_if (at_cmp op_ne rfl (ae_name 2 rfl (ae_str (r_neS ⟨_, rfl, fun hz => ?_, fun hz => as_nil ⟨x, hx, rfl, rfl⟩⟩))))
            obtain ⟨c0, r0, hc0⟩ : ∃ c0 r0, cl x = c0 :: r0 := by
              cases e : cl x with
              | nil => rw [e] at hx2; exact absurd hx2.1 (by decide)
              | cons c0 r0 => exact ⟨c0, r0, rfl⟩
            have hat : atI x.cps.toList 0 = some c0 := by
              have : atI (cl x) ((0 : Nat) : Int) = some c0 := atI_nat (by rw [hc0]; rfl)
              exact this
            have l1 : (cutS st none (some (sp : Int))).length = sp := by rw [← cl_len, cl_cut, cut_to, List.length_take]; omega
            have l2 : (cutS st (some (sp : Int)) none).length = (cl st).length - sp := by rw [← cl_len, cl_cut, cut_from, List.length_drop]
            refine as_one (as_set 6 (ae_bin op_add_str (ae_bin op_add_str (ae_slice sl_str (ae_name 2 rfl (ao_none (ao_some (ae_name 4 rfl ⟨_, rfl, s_str (ae_ix ix_str (ae_name 6 rfl (ae_int (r_ixS hat (r_addS ?_ (ae_slice sl_str (ae_name 2 rfl (ao_some (ae_name 4 rfl ⟨_, rfl, ao_none (s_str (r_addS ?_ ⟨_, ?_, rfl, rfl⟩))⟩)))))))))⟩))))))))
            · rw [l1, sl_eq]; show sp + 1 ≤ _; omega
            · rw [str_len_app, l1, l2, sl_eq]; show sp + 1 + _ ≤ _; omega
            · have ec : cl (cutS st none (some (sp : Int)) ++ ⟨#[c0]⟩ ++ cutS st (some (sp : Int)) none) = (cl st).take sp ++ [c0] ++ (cl st).drop sp := by
                rw [cl_app, cl_app, cl_cut, cl_cut, cut_to, cut_from]
              have hc0' : c0 ∈ abc := abcW_mem hx2.2.2 c0 (by rw [hc0]; exact List.mem_cons_self)
              refine wdS_of ?_ ?_ ?_ <;> rw [ec]
              · rw [List.length_append, List.length_append, List.length_singleton]; omega
              · rw [List.length_append, List.length_append, List.length_singleton, List.length_take, List.length_drop]; omega
              · refine abcW_of fun z hz => ?_
                rcases List.mem_append.mp hz with hz | hz
                · rcases List.mem_append.mp hz with hz | hz
                  · exact abcW_mem hs2 z (List.mem_of_mem_take hz)
                  · rw [List.mem_singleton.mp hz]; exact hc0'
                · exact abcW_mem hs2 z (List.mem_of_mem_drop hz)
          · rintro Γ' L' ⟨y, hy, rfl, rfl⟩
            refine as_mid (fun Γ' L' => ∃ y e, wdS y = true ∧ y ∉ ys ∧ L' = St2 L p mo5 fl (.lst (ys.map .str)) ∧ Γ' = [some (.ptr p), some (.int m), some (.str st), some (.ptr fl), some (.int sp), some d, some (.str y), e]) ?_ ?_
            · refine as_if (at_cmp op_in_seq rfl (ae_name 6 rfl (ae_name 3 rfl (r_inL St2.n ⟨_, rfl, fun hz => ?_, fun hz => as_nil ⟨y, c, hy, of_decide_eq_false hz, rfl, rfl⟩⟩))))
              refine as_one (as_set 6 (AE.drop (ae_ix ix_list (ae_lc [("_law_one", 7)] (ai_str (ae_str ⟨_, rfl, fun hso => ?_⟩))))))
              obtain ⟨k0, r0, he, hk0⟩ := abc_ne ys (by omega)
              have hk1 : sgn k0 ∉ ys := by
                have h1 : sgn k0 ∈ (abc.map sgn).filter fun x => !decide (x ∈ ys) := by rw [he]; exact List.mem_cons_self
                have h2 := (List.mem_filter.mp h1).2
                intro h3
                rw [decide_eq_true h3] at h2
                cases h2
              refine ⟨fun t acc L2 => L2 = St2 L p mo5 fl (.lst (ys.map .str)) ∧ acc = (((abc.map sgn).take t).filter fun x => !decide (x ∈ ys)).map D.str, ⟨rfl, rfl⟩, fun _ _ _ _ => trivial, ?_, ?_⟩
              · rintro t d2 acc L2 hd2 ⟨rfl, rfl⟩
                obtain ⟨kt, hkt, rfl⟩ := signs_get hd2
                have hkt : abc[t]? = some kt := hkt
                have htk : (abc.map sgn).take (t + 1) = (abc.map sgn).take t ++ [sgn kt] := by
                  rw [List.take_add_one, List.getElem?_map, hkt]
                  rfl
                refine ⟨_, _, fun j hj => hj, fun s H Cc cl fp => ⟨ag_name 7, ats_one (at_cmp op_notIn_seq rfl (ae_name 7 rfl (ae_name 3 rfl (r_notInL St2.n ⟨_, rfl, fun hn s H Cc cl fp => ae_name 7 rfl ⟨?_, rfl, ?_⟩, fun hn => ⟨rfl, ?_⟩⟩))))⟩⟩
                · rw [List.length_map]
                  refine Nat.lt_of_le_of_lt (List.length_filter_le _ _) ?_
                  rw [List.length_take, List.length_map, abc_len, sl_eq]
                  omega
                · rw [htk, List.filter_append, List.map_append, List.filter_cons_of_pos (by exact hn)]
                  rfl
                · rw [htk, List.filter_append, List.filter_cons_of_neg (by rw [hn]; decide), List.filter_nil, List.append_nil]
              · rintro acc L2 ⟨rfl, rfl⟩ l hl
                have et : (abc.map sgn).take (sgnsOf ("abcdefghijklmnopqrstuvwxyz" : Str)).length = abc.map sgn := List.take_of_length_le (by rw [List.length_map]; exact Nat.le_of_eq (List.length_map ..).symm)
                rw [et, he]
                refine ae_int (r_ixL put_same (show atI (List.map D.str (sgn k0 :: r0)) ((0 : Nat) : Int) = some (.str (sgn k0)) from atI_nat rfl) ⟨_, le_put hl, sgn k0, c, ?_, hk1, rfl, rfl⟩)
                exact wdS_of (by show 1 ≤ 1; decide) (by show 1 ≤ 8; decide) (abcW_of fun z hz => by rw [List.mem_singleton.mp hz]; exact hk0)
            · rintro Γ' L' ⟨y, e, hy, hny, rfl, rfl⟩
              refine as_one (as_expr (ae_append (ae_name 3 rfl ⟨fl, _, rfl, St2.n, ae_name 6 rfl ⟨_, St2.n, by rw [List.length_map, sl_eq]; omega, ys ++ [y], mo5, some d, some (.str y), e, by rw [List.length_append, hys]; rfl, fun z hz => ?_, List.nodup_append.mpr ⟨hnd, List.nodup_cons.mpr ⟨List.not_mem_nil, List.nodup_nil⟩, fun a1 ha1 b1 hb1 e1 => hny (by rw [List.mem_singleton.mp hb1] at e1; rw [← e1]; exact ha1)⟩, h5.mono (by omega), ?_, rfl⟩⟩)))
              · rcases List.mem_append.mp hz with z1 | z1
                · exact hw z z1
                · rw [List.mem_singleton.mp z1]; exact hy
              · rw [St2.putN, List.map_append]
                rfl
        · rintro Γ2 L2 ⟨ys, mo4, a, b, c, hys, hw, hnd, h4, rfl, rfl⟩
          rw [rangeD_len] at hys h4
          exact as_one (as_ret (ae_name 3 rfl ⟨_, .refl _, q fl ys mo4 hfl hne hys hw hnd (h4.mono (by omega))⟩))
end
end K
namespace K
open PySem PySem.Spec PyProof.Rows L2 DL
def spW (i : Nat) : Str := ("x" : Str) ++ ⟨#[97 + i / 10]⟩ ++ ⟨#[97 + i % 10]⟩
def sp0 : List Str := ["q", "qa", "zzzzzzzz", "aaaaaaaa"]
def spN (n : Nat) : List Str := sp0 ++ (List.range n).map spW
theorem spN_succ (n : Nat) : spN (n + 1) = spN n ++ [spW n] := by
  unfold spN
  rw [List.range_succ, List.map_append, List.append_assoc]
  rfl
theorem spN_len (n : Nat) : (spN n).length = 4 + n := by
  unfold spN sp0
  rw [List.length_append, List.length_map, List.length_range]
  rfl
theorem spW_wd : ∀ x ∈ spN 100, wdS x = true := by decide +kernel
theorem spW_nd : (spN 100).Nodup := by decide +kernel
theorem aj_at : ∀ k : Fin 10, ("abcdefghij" : Str).cps.toList[k.val]? = some (97 + k.val) := by decide +kernel
theorem aj {k : Nat} (h : k < 10) : atI ("abcdefghij" : Str).cps.toList (k : Int) = some (97 + k) := atI_nat (aj_at ⟨k, h⟩)
/-- what strange finds -/
def stF (ys : List Str) (m : Nat) : List Str → List Str := fun l => l.foldl (fun a x => if x ∉ ys ∧ a.length < m then a ++ [x] else a) []
structure StO (ys : List Str) (m : Nat) (us zs : List Str) : Prop where
  len : zs.length ≤ m
  sub : zs.Sublist us
  dj : ∀ z ∈ zs, z ∉ ys
section
variable {P : Program} {w : World} {K : PySem.W.Frag} {mg : Str → Option Value} {base : Heap} {f : Addr} {fd : FuncData}
def sp_strange : SpA := fun ds L Q _ => ∃ (wl : Addr) (m : Nat) (ys : List Str), ds = [.ptr wl, .int (m : Nat)] ∧ L wl = some (.lst (ys.map .str)) ∧ ∀ (l : Addr) (zs : List Str), L l = none → zs.length ≤ m → (∀ z ∈ zs, wdS z = true) → zs.Nodup → (∀ z ∈ zs, z ∉ ys) → Q (.ptr l) (put L l (.lst (zs.map .str)))
set_option maxHeartbeats 0 in
theorem ok_strange (F : Fun K "_law_strange" "_law_strange" s__law_strange f fd) (hb : Binds K fd ["_law_words", "_law_many"] []) (B : Bl mg) : FnA P w K mg base 1 f sp_strange := by
  refine fnA F sc__law_strange hb (fun ds L Q R h => ?_) fun cdv A outer s H E ds L Q R hr h => ?_
  · obtain ⟨_, _, _, rfl, _⟩ := h; rfl
  obtain ⟨wl, m, ys, rfl, hw, q⟩ := h
  refine as_cons (as_par 2 3 (aa_cons (ae_lst (aa_nil ⟨Nat.zero_le _, fun fl hfl => aa_cons (ae_lst (aa_cons (ae_str (aa_cons (ae_str (aa_cons (ae_str (aa_cons (ae_str (aa_nil ⟨Nat.le_of_ble_eq_true rfl, fun sl hsl => aa_nil ⟨_, _, rfl, ?_⟩⟩))))))))))⟩))))
  have hne : fl ≠ sl := fun e => by rw [← e, put_same] at hsl; cases hsl
  have hsl0 : L sl = none := by rw [put_ne hne.symm] at hsl; exact hsl
  have e0 : put (put L fl (.lst [])) sl (.lst [.str "q", .str "qa", .str "zzzzzzzz", .str "aaaaaaaa"]) = St2 L sl (.lst ((spN 0).map .str)) fl (.lst (([] : List Str).map .str)) := by
    unfold St2
    rw [put_comm hne]
    rfl
  rw [e0]
  refine as_cons (as_for (ai_range1 B.range (ae_int ⟨_, rfl, by decide, by decide, ?_⟩)))
  refine ⟨fun i Γ2 L2 => ∃ (a b : Option D), L2 = St2 L sl (.lst ((spN i).map .str)) fl (.lst (([] : List Str).map .str)) ∧ Γ2 = [some (.ptr wl), some (.int m), some (.ptr fl), some (.ptr sl), a, b], ⟨none, none, rfl, rfl⟩, fun _ _ _ _ => trivial, ?_, ?_⟩
  · rintro i d Γ2 L2 hd ⟨a, b, rfl, rfl⟩
    obtain ⟨hi, rfl⟩ := rangeD_inv hd
    have hi : i < 100 := hi
    rw [Int.zero_add]
    have cd : CDiv (i : Int) 10 := ⟨by decide, by decide⟩
    refine ⟨_, _, ag_name 4, ?_⟩
    refine as_one (as_expr (ae_append (ae_name 3 rfl ⟨sl, _, rfl, St2.p hne, ae_bin op_add_str (ae_bin op_add_str (ae_str (ae_ix ix_str (ae_str (ae_bin op_fdiv (ae_name 4 rfl (ae_int (r_fdiv cd (r_ixS (k := 97 + i / 10) ?_ (r_addS ?_ (ae_ix ix_str (ae_str (ae_bin op_mod (ae_name 4 rfl (ae_int (r_mod (by decide) (r_ixS (k := 97 + i % 10) ?_ (r_addS ?_ ?_))))))))))))))))))⟩)))
    · exact aj (show i / 10 < 10 by omega)
    · show 1 + 1 ≤ sizeLine
      decide
    · exact aj (show i % 10 < 10 by omega)
    · show 2 + 1 ≤ sizeLine
      decide
    · refine ⟨_, St2.p hne, by rw [List.length_map, spN_len, sl_eq]; omega, some (.int i), b, ?_, rfl⟩
      rw [St2.putP hne, spN_succ, List.map_append]
      rfl
  · rintro Γ2 L2 ⟨a, b, rfl, rfl⟩
    have eL : (rangeD 0 (Int.toNat 100)).length = 100 := rangeD_len _ _
    rw [eL]
    have hwl : ∀ x, St2 L sl (.lst ((spN 100).map .str)) fl x wl = some (.lst (ys.map .str)) := fun x => by
      unfold St2
      rw [put_ne (ne_of_free hw hfl), put_ne (ne_of_free hw hsl0)]
      exact hw
    refine as_cons (as_for (ai_lst (ae_name 3 rfl ⟨sl, _, rfl, St2.p hne, fun hz => ?_⟩)))
    refine ⟨fun i Γ2 L2 => ∃ (zs : List Str) (a b : Option D), StO ys m ((spN 100).take i) zs ∧ L2 = St2 L sl (.lst ((spN 100).map .str)) fl (.lst (zs.map .str)) ∧ Γ2 = [some (.ptr wl), some (.int m), some (.ptr fl), some (.ptr sl), a, b], ⟨[], a, b, ⟨Nat.zero_le _, List.Sublist.refl _, fun z hz => nomatch hz⟩, rfl, rfl⟩, ?_, ?_, ?_⟩
    · rintro i Γ2 L2 ⟨zs, a, b, _, rfl, _⟩
      exact St2.p hne
    · rintro i d Γ2 L2 hd ⟨zs, a, b, hO, rfl, rfl⟩
      rw [List.getElem?_map] at hd
      cases ex : (spN 100)[i]? with
      | none => rw [ex] at hd; cases hd
      | some x =>
        rw [ex] at hd
        cases hd
        have et : (spN 100).take (i + 1) = (spN 100).take i ++ [x] := by rw [List.take_add_one, ex]; rfl
        have hzl : zs.length ≤ 104 := Nat.le_trans hO.sub.length_le (by rw [List.length_take, spN_len]; omega)
        have same : StO ys m ((spN 100).take (i + 1)) zs := ⟨hO.len, by rw [et]; exact hO.sub.trans (List.sublist_append_left _ _), hO.dj⟩
        refine ⟨_, _, ag_name 5, ?_⟩
        refine as_one (as_if (at_w (aw_and (at_cmp op_notIn_seq rfl (ae_name 5 rfl (ae_name 0 rfl (r_notInL (hwl _) ⟨_, rfl, fun hn => aw_and1 (at_cmp op_lt rfl (ae_callB call_len_seq B.len (aa_cons (ae_name 2 rfl (aa_nil (c_lenL St2.n (ae_name 1 rfl (r_lt ⟨_, rfl, fun hk => ?_, fun hk => ?_⟩)))))))), fun hn => ?_⟩)))))))
        · have hk := of_decide_eq_true hk
          rw [List.length_map] at hk
          refine as_one (as_expr (ae_append (ae_name 2 rfl ⟨fl, _, rfl, St2.n, ae_name 5 rfl ⟨_, St2.n, by rw [List.length_map, sl_eq]; omega, zs ++ [x], _, _, ⟨?_, ?_, fun z hz => ?_⟩, ?_, rfl⟩⟩)))
          · rw [List.length_append, List.length_singleton]; omega
          · rw [et]; exact List.Sublist.append hO.sub (List.Sublist.refl _)
          · rcases List.mem_append.mp hz with h | h
            · exact hO.dj z h
            · rw [List.mem_singleton.mp h]
              intro h3
              rw [decide_eq_true h3] at hn
              cases hn
          · rw [St2.putN, List.map_append]
            rfl
        · exact as_nil ⟨zs, _, _, same, rfl, rfl⟩
        · exact ⟨fun z => (nomatch z), fun _ => as_nil ⟨zs, _, _, same, rfl, rfl⟩⟩
    · rintro Γ2 L2 ⟨zs, a, b, hO, rfl, rfl⟩
      rw [List.length_map, List.take_length] at hO
      refine as_one (as_ret (ae_name 2 rfl ⟨_, le_put2 (le_put hsl0) fl _, q fl zs hfl hO.len (fun z hz => spW_wd z (hO.sub.subset hz)) (spW_nd.sublist hO.sub) hO.dj⟩))
end
end K
namespace K
open PySem PySem.Spec PyProof.Rows L2 DL
def RwsIn (n many : Nat) (rows : Rws) : Prop := ∀ r ∈ rows, r.2.1.length = n ∧ (∀ g ∈ r.2.1, g < many) ∧ r.2.2 < many
theorem RwsIn.ok {n many : Nat} {rows : Rws} (h : RwsIn n many rows) (hm : rows.length = many) : MOk n rows := ⟨fun r hr => (h r hr).1, fun r hr g hg => by rw [hm]; exact (h r hr).2.1 g hg, fun r hr => by rw [hm]; exact (h r hr).2.2⟩
section
variable {P : Program} {w : World} {K : PySem.W.Frag} {mg : Str → Option Value} {base : Heap} {f : Addr} {fd : FuncData}
def sp_machine : SpA := fun ds L Q _ => ∃ (p wl : Addr) (mo : MO) (k t : Nat) (ys : List Str), ds = [.ptr p, .ptr wl, .int (t : Nat)] ∧ L p = some mo ∧ isPot k mo ∧ k ≤ 20000 ∧ L wl = some (.lst (ys.map .str)) ∧ wl ≠ p ∧ ys.length ≤ 20 ∧ 1 ≤ t ∧ t ≤ 8 ∧ ∀ (rows : Rws) (mo' : MO), MOk (srtS ys).length rows → 0 < rows.length → rows.length ≤ t → isPot (k + 500) mo' → Q (dLm (srtS ys, rows)) (put L p mo')
set_option maxHeartbeats 0 in
theorem ok_machine (F : Fun K "_law_machine" "_law_machine" s__law_machine f fd) (hb : Binds K fd ["_law_pot_here", "_law_names_here", "_law_most"] []) (B : Bl mg) (d1 : Def P w K mg base "_law_take" 1 sp_take) : FnA P w K mg base 2 f sp_machine := by
  refine fnA F sc__law_machine hb (fun ds L Q R h => ?_) fun cdv A outer s H E ds L Q R hr h => ?_
  · obtain ⟨_, _, _, _, _, _, rfl, _⟩ := h; rfl
  obtain ⟨p, wl, mo, k, t, ys, rfl, hp, hpot, hk, hw, hne, hl, ht1, ht8, q⟩ := h
  refine as_cons (as_asg (ae_tup (aa_cons (ae_tupSort B.tuple B.sorted (u100 hr) (ae_name 1 rfl ⟨wl, ys, rfl, hw, L, .refl L, ?_⟩)))))
  have hsl := srtS_len ys
  generalize srtS ys = xs at q hsl ⊢
  refine aa_cons (ae_add (ae_int (ae_call d1 (hr.mono (by omega)) (aa_cons (ae_name 0 rfl (aa_cons (ae_name 2 rfl (aa_nil ⟨p, mo, k, t, rfl, hp, hpot, by omega, by omega, by omega, fun j mo1 hj h1 => add_I ?_⟩))))))))
  have ej : (1 : Int) + (j : Int) = ((j + 1 : Nat) : Int) := by omega
  rw [ej]
  obtain ⟨n, hn⟩ : ∃ n, j + 1 = n := ⟨_, rfl⟩
  rw [hn]
  refine aa_cons (ae_lst (aa_nil ⟨Nat.zero_le _, fun rl hrl => aa_nil ⟨Nat.le_of_ble_eq_true rfl, _, _, ag_tup (ags_cons (ag_name 3) (ags_cons (ag_name 4) (ags_cons (ag_name 5) ags_nil))), ?_⟩⟩))
  have hne2 : rl ≠ p := fresh_ne hrl
  have hrl0 : L rl = none := fresh_L hrl
  have e0 : put (put L p mo1) rl (.lst []) = St2 L p mo1 rl (.lst (([] : Rws).map dRw)) := rfl
  rw [e0]
  refine as_cons (as_for (ai_range1 B.range (ae_name 4 rfl ⟨_, rfl, by omega, by omega, ?_⟩)))
  rw [show ((n : Int)).toNat = n by omega]
  refine ⟨fun i Γ2 L2 => ∃ (rows : Rws) (mo2 : MO) (a b : Option D), rows.length = i ∧ RwsIn xs.length n rows ∧ isPot (k + 1 + 30 * i) mo2 ∧ L2 = St2 L p mo2 rl (.lst (rows.map dRw)) ∧ Γ2 = [some (.ptr p), some (.ptr wl), some (.int (t : Nat)), some (.wds xs), some (.int (n : Nat)), some (.ptr rl), a, b, none], ⟨[], mo1, none, none, rfl, (fun r hr => nomatch hr), h1, rfl, rfl⟩, fun _ _ _ _ => trivial, ?_, ?_⟩
  · rintro i d Γ2 L2 hd ⟨rows, mo2, a, b, hrl2, hin, h2, rfl, rfl⟩
    have hi := (rangeD_inv hd).1
    refine ⟨_, _, ag_name 6, ?_⟩
    refine as_cons (as_set 7 (ae_tupL B.tuple (al_lc [("_law_word_here", 8)] (ai_ts (ae_name 3 rfl ⟨_, .u xs, fun hz => ?_⟩)))))
    refine ⟨fun c acc L2 => ∃ (gs : List Nat) (mo3 : MO), gs.length = c ∧ (∀ g ∈ gs, g < n) ∧ acc = iN gs ∧ isPot (k + 1 + 30 * i + c) mo3 ∧ L2 = St2 L p mo3 rl (.lst (rows.map dRw)), ⟨[], mo2, rfl, (fun g hg => nomatch hg), rfl, h2, rfl⟩, fun _ _ _ _ => trivial, ?_, ?_⟩
    · rintro c d2 acc L2 hd2 ⟨gs, mo3, hgc, hg, rfl, h3, rfl⟩
      have hc : c < xs.length := by
        have := (List.getElem?_eq_some_iff.mp hd2).1
        rw [List.length_map] at this
        exact this
      refine ⟨_, _, fun j hj => hj, fun s H Cc cl fp => ⟨ag_name 8, ats_nil ⟨fun _ s H Cc cl fp => ?_, (fun z => nomatch z)⟩⟩⟩
      refine ae_call d1 (hr.mono (by omega)) (aa_cons (ae_name 0 rfl (aa_cons (ae_name 4 rfl (aa_nil ⟨p, mo3, k + 1 + 30 * i + c, n, rfl, St2.p hne2, h3, by omega, by omega, by omega, fun g mo4 hg4 h4 => ?_⟩)))))
      rw [St2.putP hne2]
      refine ⟨by rw [iN_len, sl_eq]; omega, gs ++ [g], mo4, by rw [List.length_append, hgc]; rfl, fun z hz => ?_, by unfold iN; rw [List.map_append]; rfl, h4, rfl⟩
      rcases List.mem_append.mp hz with h | h
      · exact hg z h
      · rw [List.mem_singleton.mp h]; exact hg4
    · rintro acc L2 ⟨gs, mo3, hgc, hg, rfl, h3, rfl⟩
      rw [List.length_map] at hgc h3
      refine as_one (as_expr (ae_append (ae_name 5 rfl ⟨rl, _, rfl, St2.n, ae_tup (aa_cons (ae_eq (u64 hr) (ae_call d1 (hr.mono (by omega)) (aa_cons (ae_name 0 rfl (aa_cons (ae_int (aa_nil ⟨p, mo3, _, 2, rfl, St2.p hne2, h3, by omega, by omega, by omega, fun c4 mo4 _ h4 => ?_⟩))))))))⟩)))
      rw [St2.putP hne2]
      refine ae_int (eq_I (aa_cons (ae_name 7 rfl (aa_cons (ae_call d1 (hr.mono (by omega)) (aa_cons (ae_name 0 rfl (aa_cons (ae_name 4 rfl (aa_nil ⟨p, mo4, _, n, rfl, St2.p hne2, h4, by omega, by omega, by omega, fun o mo5 ho h5 => ?_⟩))))))))))
      rw [St2.putP hne2]
      obtain ⟨kk, hkk⟩ : ∃ kk : Bool, decide ((c4 : Int) = 1) = kk := ⟨_, rfl⟩
      rw [hkk]
      refine aa_nil ⟨Nat.le_of_ble_eq_true rfl, _, St2.n, by rw [List.length_map, sl_eq]; omega, rows ++ [(kk, gs, o)], mo5, _, _, by rw [List.length_append, hrl2]; rfl, fun r hr => ?_, h5.mono (by omega), ?_, rfl⟩
      · rcases List.mem_append.mp hr with h | h
        · exact hin r h
        · rw [List.mem_singleton.mp h]; exact ⟨hgc, hg, ho⟩
      · rw [St2.putN, List.map_append]
        rfl
  · rintro Γ2 L2 ⟨rows, mo2, a, b, hrl2, hin, h2, rfl, rfl⟩
    rw [rangeD_len] at hrl2 h2
    refine as_one (as_ret (ae_tup (aa_cons (ae_name 3 rfl (aa_cons (ae_c_tuple B.tuple (ae_name 5 rfl (lr_tup (.st St2.n) (aa_nil ⟨Nat.le_of_ble_eq_true rfl, put L p mo2, St2.le hrl0 hne2, ?_⟩)))))))))
    exact q rows mo2 (hin.ok hrl2) (by omega) (by omega) (h2.mono (by omega))
def sp_lgoal : SpA := fun ds L Q _ => ∃ (m : List Str × Rws) (s : Nat) (x : Str), ds = [dLm m, .int (s : Nat), .str x] ∧ MOk m.1.length m.2 ∧ s < m.2.length ∧ Q (.int (stepM m.2 s (colW m.1 x) : Nat)) L
theorem ok_lgoal (F : Fun K "_law_goal" "_law_goal" s__law_goal f fd) (hb : Binds K fd ["_law_machine_here", "_law_state", "_law_word_here"] []) : FnA P w K mg base 1 f sp_lgoal := by
  refine fnA F sc__law_goal hb (fun ds L Q R h => ?_) fun cdv A outer s H E ds L Q R hr h => ?_
  · obtain ⟨_, _, _, rfl, _⟩ := h; rfl
  obtain ⟨m, st, x, rfl, hM, hs, q⟩ := h
  refine as_cons (as_asg (ae_name 0 rfl ⟨_, _, ag_tup (ags_cons (ag_name 3) (ags_cons (ag_name 4) ags_nil)), ?_⟩))
  have hr0 := rw_get hs
  obtain ⟨r, hrr⟩ : ∃ r, rowAt m.2 st = r := ⟨_, rfl⟩
  have hmr : r ∈ m.2 := by rw [← hrr]; exact rowAt_mem hs
  unfold stepM at q
  rw [hrr] at q hr0
  have e2 : atI ([.bl r.1, dI r.2.1, .int (r.2.2 : Nat)] : List D) ((1 : Nat) : Int) = some (dI r.2.1) := atI_nat rfl
  have e3 : atI ([.bl r.1, dI r.2.1, .int (r.2.2 : Nat)] : List D) ((2 : Nat) : Int) = some (.int (r.2.2 : Nat)) := atI_nat rfl
  unfold colW at q
  refine as_one (as_ret (ae_ifExp (at_in (u1 hr) (ae_name 2 rfl (ae_name 3 rfl (in_U ⟨_, rfl, fun hk => ?_, fun hk => ?_⟩))))))
  · have hm := of_decide_eq_true hk
    rw [if_pos hm] at q
    have hix : m.1.idxOf x < r.2.1.length := by rw [hM.len r hmr]; exact List.idxOf_lt_length_iff.mpr hm
    exact ae_ix (ix_A (u1 hr)) (ae_ix (ix_A (u1 hr)) (ae_ix (ix_A (u1 hr)) (ae_name 4 rfl (ae_name 1 rfl (ixa_T (ae_int (ixa_T (ae_idxU (ae_name 3 rfl ⟨m.1, rfl, ae_name 2 rfl ⟨x, rfl, hm, ixa_T ⟨_, .refl _, q⟩ (iN_get (getD_mem hix))⟩⟩)) e2)) hr0)))))
  · have hm := of_decide_eq_false hk
    rw [if_neg hm] at q
    exact ae_ix (ix_A (u1 hr)) (ae_ix (ix_A (u1 hr)) (ae_name 4 rfl (ae_name 1 rfl (ixa_T (ae_int (ixa_T ⟨_, .refl _, q⟩ e3)) hr0))))
end
end K
namespace K
open PySem PySem.Spec PyProof.Rows L2 DL
section
variable {P : Program} {w : World} {K : PySem.W.Frag} {mg : Str → Option Value} {base : Heap} {f : Addr} {fd : FuncData}
def sp_behind : SpA := fun ds L Q _ => ∃ (m : List Str × Rws) (d : D) (us : List Str), ds = [dLm m, d] ∧ TS d (us.map .str) ∧ MOk m.1.length m.2 ∧ 0 < m.2.length ∧ Q (.int (runM m.1 m.2 0 us : Nat)) L
theorem ok_behind (F : Fun K "_law_behind" "_law_behind" s__law_behind f fd) (hb : Binds K fd ["_law_machine_here", "_law_text"] []) (d1 : Def P w K mg base "_law_goal" 1 sp_lgoal) : FnA P w K mg base 2 f sp_behind := by
  refine fnA F sc__law_behind hb (fun ds L Q R h => by obtain ⟨_, _, _, rfl, _⟩ := h; rfl) fun cdv A outer s H E ds L Q R hr h => ?_
  obtain ⟨m, d, us, rfl, hd, hM, h0, q⟩ := h
  refine as_cons (as_set 2 (ae_int ?_))
  refine as_cons (as_for (ai_ts (ae_name 1 rfl ⟨_, hd, fun hz => ?_⟩)))
  refine ⟨fun i Γ2 L2 => ∃ g3 : Option D, L2 = L ∧ Γ2 = [some (dLm m), some d, some (.int (runM m.1 m.2 0 (us.take i) : Nat)), g3], ⟨none, rfl, rfl⟩, fun _ _ _ _ => trivial, ?_, ?_⟩
  · rintro i d2 Γ2 L2 hd2 ⟨g3, rfl, rfl⟩
    rw [List.getElem?_map] at hd2
    cases ex : us[i]? with
    | none => rw [ex] at hd2; cases hd2
    | some x =>
      rw [ex] at hd2
      cases hd2
      have et : us.take (i + 1) = us.take i ++ [x] := by rw [List.take_add_one, ex]; rfl
      have hs : runM m.1 m.2 0 (us.take i) < m.2.length := runM_lt hM _ 0 h0
      refine ⟨_, _, ag_name 3, ?_⟩
      refine as_one (as_set 2 (ae_call d1 (hr.mono (by omega)) (aa_cons (ae_name 0 rfl (aa_cons (ae_name 2 rfl (aa_cons (ae_name 3 rfl (aa_nil ⟨m, _, x, rfl, hM, hs, some (.str x), rfl, ?_⟩)))))))))
      rw [et, runM_app]
      rfl
  · rintro Γ2 L2 ⟨g3, rfl, rfl⟩
    rw [List.length_map, List.take_length]
    exact as_one (as_ret (ae_name 2 rfl ⟨_, .refl _, q⟩))
def sp_row : SpA := fun ds L Q _ => ∃ (p wl : Addr) (mo : MO) (k t : Nat) (ys : List Str), ds = [.ptr p, .ptr wl, .int (t : Nat)] ∧ L p = some mo ∧ isPot k mo ∧ k ≤ 50000 ∧ L wl = some (.lst (ys.map .str)) ∧ wl ≠ p ∧ 0 < ys.length ∧ ys.length ≤ 100 ∧ t ≤ 50 ∧ ∀ (us : List Str) (mo' : MO), (∀ u ∈ us, u ∈ ys) → us.length ≤ t → isPot (k + 60) mo' → Q (dW us) (put L p mo')
theorem ok_row (F : Fun K "_law_row" "_law_row" s__law_row f fd) (hb : Binds K fd ["_law_pot_here", "_law_words", "_law_most"] []) (B : Bl mg) (d1 : Def P w K mg base "_law_take" 1 sp_take) (d2 : Def P w K mg base "_law_of" 2 sp_of) : FnA P w K mg base 3 f sp_row := by
  refine fnA F sc__law_row hb (fun ds L Q R h => by obtain ⟨_, _, _, _, _, _, rfl, _⟩ := h; rfl) fun cdv A outer s H E ds L Q R hr h => ?_
  obtain ⟨p, wl, mo, k, t, ys, rfl, hp, hpot, hk, hw, hne, h0, hl, ht, q⟩ := h
  refine as_one (as_ret (ae_tupL B.tuple (al_lc [("_law_lap", 3)] (ai_range1 B.range (ae_call d1 (hr.mono (by omega)) (aa_cons (ae_name 0 rfl (aa_cons (ae_add (ae_name 2 rfl (ae_int (add_I (aa_nil ⟨p, mo, k, t + 1, rfl, hp, hpot, by omega, by omega, by omega, fun j mo1 hj h1 => ⟨_, rfl, by omega, by omega, ?_⟩⟩)))))))))))))
  rw [Int.toNat_natCast]
  have hwp : ∀ o, put L p o wl = some (.lst (ys.map .str)) := fun o => by rw [put_ne hne]; exact hw
  refine ⟨fun i acc L2 => ∃ us mo2, us.length = i ∧ (∀ u ∈ us, u ∈ ys) ∧ acc = us.map D.str ∧ L2 = put L p mo2 ∧ isPot (k + 1 + i) mo2, ⟨[], mo1, rfl, (fun u hu => nomatch hu), rfl, rfl, h1⟩, fun _ _ _ _ => trivial, ?_, ?_⟩
  · rintro i d acc L2 hd ⟨us, mo2, hul, hu, rfl, rfl, h2⟩
    have hi := (rangeD_inv hd).1
    refine ⟨_, _, fun j hj => hj, fun s H Cc cl fp => ⟨ag_name 3, ats_nil ⟨fun _ s H Cc cl fp => ?_, (fun z => nomatch z)⟩⟩⟩
    refine ae_call d2 (hr.mono (by omega)) (aa_cons (ae_name 0 rfl (aa_cons (ae_name 1 rfl (aa_nil ⟨p, wl, mo2, k + 1 + i, _, rfl, put_same, h2, by omega, hwp _, hne, by rw [List.length_map]; omega, by rw [List.length_map]; omega, fun d3 mo3 hd3 h3 => ?_⟩)))))
    obtain ⟨x, hx, rfl⟩ := List.mem_map.mp hd3
    rw [put_put]
    refine ⟨by rw [List.length_map, sl_eq]; omega, us ++ [x], mo3, by rw [List.length_append, hul]; rfl, fun u hu2 => ?_, by rw [List.map_append]; rfl, rfl, h3⟩
    rcases List.mem_append.mp hu2 with z | z
    · exact hu u z
    · rw [List.mem_singleton.mp z]; exact hx
  · rintro acc L2 ⟨us, mo2, hul, hu, rfl, rfl, h2⟩
    rw [rangeD_len] at hul h2
    exact ⟨_, .refl _, q us mo2 hu (by omega) (h2.mono (by omega))⟩
structure TtI (L M : Lp) (fl wl lv : Addr) (ys : List Str) (V : List (List Str)) : Prop where
  le : Le L M
  f : M fl = none
  w : M wl = some (.lst (ys.map .str))
  v : M lv = some (.lst (V.map dW))
def Ovr (ys : List Str) (k : Nat) (V : List (List Str)) : Prop := ∀ u ∈ V, u.length ≤ k ∧ ∀ x ∈ u, x ∈ ys
def sp_texts : SpA := fun ds L Q _ => ∃ (wl : Addr) (t : Nat) (ys : List Str), ds = [.ptr wl, .int (t : Nat)] ∧ L wl = some (.lst (ys.map .str)) ∧ ys.length ≤ 8 ∧ t ≤ 2 ∧ ∀ (l : Addr) (us : List (List Str)), L l = none → Ovr ys 2 us → us.length ≤ 200 → Q (.ptr l) (put L l (.lst (us.map dW)))
set_option maxHeartbeats 0 in
theorem ok_texts (F : Fun K "_law_texts" "_law_texts" s__law_texts f fd) (hb : Binds K fd ["_law_words", "_law_most"] []) (B : Bl mg) : FnA P w K mg base 1 f sp_texts := by
  refine fnA F sc__law_texts hb (fun ds L Q R h => by obtain ⟨_, _, _, rfl, _⟩ := h; rfl) fun cdv A outer s H E ds L Q R hr h => ?_
  obtain ⟨wl, t, ys, rfl, hw, hyl, ht, q⟩ := h
  refine as_cons (as_par 2 3 (aa_cons (ae_lst (aa_cons (ae_tup (aa_nil ⟨Nat.zero_le _, aa_nil ⟨Nat.le_of_ble_eq_true rfl, fun fl hfl => aa_cons (ae_lst (aa_cons (ae_tup (aa_nil ⟨Nat.zero_le _, aa_nil ⟨Nat.le_of_ble_eq_true rfl, fun lv hlv => aa_nil ⟨_, _, rfl, ?_⟩⟩⟩))))⟩⟩))))))
  have hfv : fl ≠ lv := fun e => by rw [← e, put_same] at hlv; cases hlv
  have hlv0 : L lv = none := by rw [put_ne hfv.symm] at hlv; exact hlv
  have e0 : put (put L fl (.lst [.tup []])) lv (.lst [.tup []]) = put (put L lv (.lst (([[]] : List (List Str)).map dW))) fl (.lst (([[]] : List (List Str)).map dW)) := by
    rw [put_comm hfv]
    rfl
  rw [e0]
  have T0 : TtI L (put L lv (.lst (([[]] : List (List Str)).map dW))) fl wl lv ys [[]] := ⟨le_put hlv0, by rw [put_ne hfv]; exact hfl, le_put hlv0 _ _ hw, put_same⟩
  generalize put L lv (.lst (([[]] : List (List Str)).map dW)) = M0 at T0
  refine as_cons (as_for (ai_range1 B.range (ae_name 1 rfl ⟨_, rfl, by omega, by omega, ?_⟩)))
  rw [show ((t : Int)).toNat = t by omega]
  refine ⟨fun i Γ2 L2 => ∃ (M : Lp) (lv : Addr) (V X : List (List Str)) (g4 g5 g6 g7 : Option D), TtI L M fl wl lv ys V ∧ Ovr ys i V ∧ Ovr ys 2 X ∧ V.length ≤ 8 ^ i ∧ X.length ≤ 1 + 64 * i ∧ L2 = put M fl (.lst (X.map dW)) ∧ Γ2 = [some (.ptr wl), some (.int (t : Nat)), some (.ptr fl), some (.ptr lv), g4, g5, g6, g7], ⟨M0, lv, [[]], [[]], none, none, none, none, T0, (fun u hu => by rw [List.mem_singleton.mp hu]; exact ⟨Nat.zero_le _, fun x hx => nomatch hx⟩), (fun u hu => by rw [List.mem_singleton.mp hu]; exact ⟨Nat.zero_le _, fun x hx => nomatch hx⟩), by decide, by decide, rfl, rfl⟩, fun _ _ _ _ => trivial, ?_, ?_⟩
  · rintro i d Γ2 L2 hd ⟨M, lv, V, X, g4, g5, g6, g7, T1, hV, hX, hVl, hXl, rfl, rfl⟩
    have hi := (rangeD_inv hd).1
    have h8 : 8 ^ i ≤ 8 := by
      have : i = 0 ∨ i = 1 := by omega
      rcases this with rfl | rfl <;> decide
    refine ⟨_, _, ag_name 4, ?_⟩
    refine as_cons (as_set 5 (ae_lst (aa_nil ⟨Nat.zero_le _, fun lg hlg => ?_⟩)))
    have hne : fl ≠ lg := fun e => by rw [← e, put_same] at hlg; cases hlg
    have hlg0 : M lg = none := by rw [put_ne hne.symm] at hlg; exact hlg
    have hfv2 : lv ≠ fl := ne_of_free T1.v T1.f
    have hfw2 : wl ≠ fl := ne_of_free T1.w T1.f
    have e1 : put (put M fl (.lst (X.map dW))) lg (.lst []) = St2 M lg (.lst (([] : List (List Str)).map dW)) fl (.lst (X.map dW)) := by
      unfold St2
      rw [put_comm hne]
      rfl
    rw [e1]
    have A3 : ∀ o x, St2 M lg o fl x lv = some (.lst (V.map dW)) := fun o x => by
      unfold St2
      rw [put_ne hfv2]
      exact le_put hlg0 _ _ T1.v
    have W3 : ∀ o x, St2 M lg o fl x wl = some (.lst (ys.map .str)) := fun o x => by
      unfold St2
      rw [put_ne hfw2]
      exact le_put hlg0 _ _ T1.w
    refine as_cons (as_for (ai_lst (ae_name 3 rfl ⟨lv, _, rfl, A3 _ _, fun hz => ?_⟩)))
    refine ⟨fun c Γ2 L2 => ∃ (Y : List (List Str)) (g6 g7 : Option D), Ovr ys (i + 1) Y ∧ Y.length ≤ c * 8 ∧ L2 = St2 M lg (.lst (Y.map dW)) fl (.lst (X.map dW)) ∧ Γ2 = [some (.ptr wl), some (.int (t : Nat)), some (.ptr fl), some (.ptr lv), some d, some (.ptr lg), g6, g7], ⟨[], g6, g7, (fun u hu => nomatch hu), Nat.zero_le _, rfl, rfl⟩, ?_, ?_, ?_⟩
    · rintro c Γ2 L2 ⟨_, _, _, _, _, rfl, _⟩
      exact A3 _ _
    · rintro c d2 Γ2 L2 hd2 ⟨Y, g6, g7, hY, hYl, rfl, rfl⟩
      rw [List.getElem?_map] at hd2
      cases eu : V[c]? with
      | none => rw [eu] at hd2; cases hd2
      | some u =>
        rw [eu] at hd2
        cases hd2
        have hcl := (List.getElem?_eq_some_iff.mp eu).1
        have hu := hV u (List.mem_of_getElem? eu)
        have hul : u.length ≤ i := hu.1
        refine ⟨_, _, ag_name 6, ?_⟩
        refine as_one (as_expr (AE.drop (ae_extL (ae_name 5 rfl ⟨lg, _, rfl, St2.p hne, ae_L (al_map1 7 (ai_lst (ae_name 0 rfl ⟨wl, _, rfl, W3 _ _, fun hz2 => ⟨_, ys, .str, fun x => dW (u ++ [x]), rfl, W3 _ _, hz2, fun x hx s H Cc cl fp Q q => ?_, fun b hb => ⟨_, b, _, rfl, le_put hb _ _ (St2.p hne), put_same, ?_, ?_⟩⟩⟩)))⟩))))
        · refine ae_add (ae_name 6 rfl (ae_tup (aa_cons (ae_name 7 rfl (aa_nil ⟨Nat.le_of_ble_eq_true rfl, add_T ?_ ?_⟩)))))
          · have e : u.map D.str ++ [D.str x] = (u ++ [x]).map D.str := by rw [List.map_append]; rfl
            rw [e]
            exact q
          · rw [List.length_map, sl_eq]
            show u.length + 1 ≤ _
            omega
        · rw [List.length_map, List.length_map, sl_eq]; omega
        · have eA : (Y.map dW) ++ (ys.map fun x => dW (u ++ [x])) = (Y ++ ys.map fun x => u ++ [x]).map dW := by
            rw [List.map_append, List.map_map]
            rfl
          rw [eA]
          refine ⟨_, le_put2 (le_put hb) lg _, Y ++ ys.map fun x => u ++ [x], _, _, fun z hz4 => ?_, ?_, St2.putP hne, rfl⟩
          · rcases List.mem_append.mp hz4 with h | h
            · exact hY z h
            · obtain ⟨y, hy, rfl⟩ := List.mem_map.mp h
              refine ⟨by rw [List.length_append, List.length_singleton]; omega, fun x hx => ?_⟩
              rcases List.mem_append.mp hx with h2 | h2
              · exact hu.2 x h2
              · rw [List.mem_singleton.mp h2]; exact hy
          · rw [List.length_append, List.length_map]; omega
    · rintro Γ2 L2 ⟨Y, g6, g7, hY, hYl, rfl, rfl⟩
      rw [List.length_map] at hYl
      refine as_cons (as_set 3 (ae_name 5 rfl ?_))
      refine as_one (as_expr (ae_extL (ae_name 2 rfl ⟨fl, _, rfl, St2.n, ae_name 3 rfl ⟨_, lg, _, rfl, St2.n, St2.p hne, ?_, ?_⟩⟩)))
      · rw [List.length_map, List.length_map, sl_eq]; omega
      · rw [St2.putN, ← List.map_append]
        refine ⟨put M lg (.lst (Y.map dW)), lg, Y, X ++ Y, _, _, _, _, ⟨T1.le.trans (le_put hlg0), by rw [put_ne hne]; exact T1.f, le_put hlg0 _ _ T1.w, put_same⟩, hY, ?_, ?_, ?_, rfl, rfl⟩
        · intro z hz4
          rcases List.mem_append.mp hz4 with h | h
          · exact hX z h
          · exact ⟨by have := (hY z h).1; omega, (hY z h).2⟩
        · rw [Nat.pow_succ]; omega
        · rw [List.length_append]; omega
  · rintro Γ2 L2 ⟨M, lv, V, X, g4, g5, g6, g7, T1, hV, hX, hVl, hXl, rfl, rfl⟩
    rw [rangeD_len] at hXl
    exact as_one (as_ret (ae_name 2 rfl ⟨_, le_put2 T1.le fl _, q fl X hfl hX (by omega)⟩))
end
end K
namespace K
open PySem PySem.Spec PyProof.Rows L2 DL
/-! ### the machine that begins at another state -/
def turnP (n s : Nat) : List Nat := ((List.range n).set 0 s).set s 0
def turnR (n s : Nat) (r : RowM) : RowM := (r.1, r.2.1.map (fun g => (turnP n s).getD g 0), (turnP n s).getD r.2.2 0)
def turnM (rows : Rws) (s : Nat) : Rws := (turnP rows.length s).map fun i => turnR rows.length s (rowAt rows i)
theorem turnP_len (n s : Nat) : (turnP n s).length = n := by unfold turnP; simp
theorem turnP_get {n s i : Nat} (hi : i < n) : (turnP n s).getD i 0 = if i = s then 0 else if i = 0 then s else i := by
  unfold turnP
  rw [List.getD_eq_getElem?_getD, List.getElem?_set]
  by_cases h : s = i
  · rw [if_pos h, if_pos h.symm]
    subst h
    rw [if_pos (by simp; exact hi)]
    rfl
  · rw [if_neg h, if_neg (fun e => h e.symm), List.getElem?_set]
    by_cases h0 : 0 = i
    · subst h0
      rw [if_pos rfl, if_pos (by simp; exact hi), if_pos rfl]
      rfl
    · rw [if_neg h0, if_neg (fun e => h0 e.symm), List.getElem?_range hi]
      rfl
theorem turnP_lt {n s i : Nat} (hs : s < n) (hi : i < n) : (turnP n s).getD i 0 < n := by
  rw [turnP_get hi]
  split
  · omega
  · split <;> omega
theorem turnP_inv {n s i : Nat} (hs : s < n) (hi : i < n) : (turnP n s).getD ((turnP n s).getD i 0) 0 = i := by
  rw [turnP_get (turnP_lt hs hi), turnP_get hi]
  by_cases h : i = s
  · rw [if_pos h]
    by_cases h0 : 0 = s
    · rw [if_pos h0]; omega
    · rw [if_neg h0, if_pos rfl, h]
  · rw [if_neg h]
    by_cases h0 : i = 0
    · rw [if_pos h0, if_pos rfl, h0]
    · rw [if_neg h0, if_neg h, if_neg h0]
theorem turnM_row {rows : Rws} {s i : Nat} (hi : i < rows.length) : rowAt (turnM rows s) i = turnR rows.length s (rowAt rows ((turnP rows.length s).getD i 0)) := by
  have hg : (turnP rows.length s)[i]? = some ((turnP rows.length s).getD i 0) := by
    rw [List.getD_eq_getElem?_getD, List.getElem?_eq_getElem (by rw [turnP_len]; exact hi)]
    rfl
  unfold turnM
  conv => lhs; unfold rowAt
  exact DL.getD_some (by rw [List.getElem?_map, hg]; rfl)
theorem turnM_len (rows : Rws) (s : Nat) : (turnM rows s).length = rows.length := by unfold turnM; rw [List.length_map, turnP_len]
theorem turnM_ok {k : Nat} {rows : Rws} {s : Nat} (hM : MOk k rows) (hs : s < rows.length) : MOk k (turnM rows s) := by
  have key : ∀ r ∈ turnM rows s, ∃ r0 ∈ rows, r = turnR rows.length s r0 := fun r hr => by
    obtain ⟨i, hi, rfl⟩ := List.mem_map.mp hr
    refine ⟨rowAt rows i, ?_, rfl⟩
    obtain ⟨j, hj⟩ := List.getElem?_of_mem hi
    have hjl := (List.getElem?_eq_some_iff.mp hj).1
    rw [turnP_len] at hjl
    have := turnP_lt hs hjl
    rw [DL.getD_some hj] at this
    exact rowAt_mem this
  refine ⟨fun r hr => ?_, fun r hr g hg => ?_, fun r hr => ?_⟩ <;> obtain ⟨r0, h0, rfl⟩ := key r hr
  · unfold turnR
    rw [List.length_map]
    exact hM.len r0 h0
  · rw [turnM_len]
    obtain ⟨g0, hg0, rfl⟩ := List.mem_map.mp hg
    exact turnP_lt hs (hM.go r0 h0 g0 hg0)
  · rw [turnM_len]
    exact turnP_lt hs (hM.oth r0 h0)
theorem turn_lang {ws : List Str} {rows : Rws} {s : Nat} (hM : MOk ws.length rows) (hs : s < rows.length) (t : List Str) : accM ws (turnM rows s) 0 t = accM ws rows s t := by
  refine acc_sim (fun i j => i < rows.length ∧ j = (turnP rows.length s).getD i 0) (fun i j h => ?_) (fun i j w h => ?_) t 0 s ⟨by omega, ?_⟩
  · obtain ⟨hi, rfl⟩ := h
    rw [turnM_row hi]
    rfl
  · obtain ⟨hi, rfl⟩ := h
    have hp := turnP_lt hs hi
    have hg : stepM rows ((turnP rows.length s).getD i 0) (colW ws w) < rows.length := hM.gl hp _ colW_lt
    have e : stepM (turnM rows s) i (colW ws w) = (turnP rows.length s).getD (stepM rows ((turnP rows.length s).getD i 0) (colW ws w)) 0 := by
      unfold stepM
      rw [turnM_row hi]
      unfold turnR
      cases ec : colW ws w with
      | none => rfl
      | some c =>
        have hc : c < (rowAt rows ((turnP rows.length s).getD i 0)).2.1.length := by
          rw [hM.len _ (rowAt_mem hp)]
          exact colW_lt c ec
        show (List.map _ _).getD c 0 = _
        exact DL.getD_some (by rw [List.getElem?_map, getD_mem (d := 0) hc]; rfl)
    rw [e]
    exact ⟨turnP_lt hs hg, (turnP_inv hs hg).symm⟩
  · rw [turnP_get (by omega)]
    by_cases h : 0 = s
    · rw [if_pos h]; omega
    · rw [if_neg h, if_pos rfl]
/-! ### least machines over parts of one list of words -/
theorem sub_same {α : Type} [DecidableEq α] : ∀ {l a b : List α}, l.Nodup → a.Sublist l → b.Sublist l → (∀ x ∈ a, x ∈ b) → (∀ x ∈ b, x ∈ a) → a = b
  | [], a, b, _, ha, hb, _, _ => by rw [List.sublist_nil.mp ha, List.sublist_nil.mp hb]
  | x :: l, a, b, hn, ha, hb, h1, h2 => by
    obtain ⟨hx, hn2⟩ := List.nodup_cons.mp hn
    cases ha with
    | cons _ ha =>
      have hxa : x ∉ a := fun h => hx (ha.subset h)
      cases hb with
      | cons _ hb => exact sub_same hn2 ha hb h1 h2
      | cons_cons _ hb => exact absurd (h2 x List.mem_cons_self) hxa
    | cons_cons _ ha =>
      rename_i a
      cases hb with
      | cons _ hb => exact absurd (hb.subset (h1 x List.mem_cons_self)) hx
      | cons_cons _ hb =>
        rename_i b
        congr 1
        refine sub_same hn2 ha hb (fun y hy => ?_) fun y hy => ?_
        · rcases List.mem_cons.mp (h1 y (List.mem_cons_of_mem _ hy)) with e | h
          · exact absurd (ha.subset hy) (by rw [e]; exact hx)
          · exact h
        · rcases List.mem_cons.mp (h2 y (List.mem_cons_of_mem _ hy)) with e | h
          · exact absurd (hb.subset hy) (by rw [e]; exact hx)
          · exact h
theorem fresh_str (l : List Str) : ∃ x : Str, x ∉ l := by
  have key : ∀ l : List Str, ∀ x ∈ l, x.cps.toList.headD 0 ≤ (l.map fun x => x.cps.toList.headD 0).sum := by
    intro l
    induction l with
    | nil => intro x hx; cases hx
    | cons y l ih =>
      intro x hx
      rw [List.map_cons, List.sum_cons]
      rcases List.mem_cons.mp hx with rfl | hx
      · omega
      · have := ih x hx
        omega
  refine ⟨⟨#[(l.map fun x => x.cps.toList.headD 0).sum + 1]⟩, fun h => ?_⟩
  have := key l _ h
  have e : ((⟨#[(l.map fun x => x.cps.toList.headD 0).sum + 1]⟩ : Str).cps.toList.headD 0) = (l.map fun x => x.cps.toList.headD 0).sum + 1 := rfl
  omega
/-- one language over parts of one list: one least machine -/
theorem least_eq {base : List Str} {m n : List Str × Rws} {f g : Nat} (hb : base.Nodup) (h1 : m.1.Sublist base) (h2 : n.1.Sublist base) (hM : MOk m.1.length m.2) (hN : MOk n.1.length n.2) (hf : f < m.2.length) (hg : g < n.2.length)
    (he : ∀ t, accM m.1 m.2 f t = accM n.1 n.2 g t) : leastM m.1 m.2 f = leastM n.1 n.2 g := by
  have n1 := hb.sublist h1
  have n2 := hb.sublist h2
  have s1 := (least_ok n1 hM hf).1.trans h1
  have s2 := (least_ok n2 hN hg).1.trans h2
  refine least_same fresh_str n1 hM hf n2 hN hg he ?_
  exact sub_same hb s1 s2 (words_sub fresh_str n1 hM hf n2 hN hg he) (words_sub fresh_str n2 hN hg n1 hM hf fun t => (he t).symm)
section
variable {P : Program} {w : World} {K : PySem.W.Frag} {mg : Str → Option Value} {base : Heap} {f : Addr} {fd : FuncData}
def sp_from : SpA := fun ds L Q _ => ∃ (m : List Str × Rws) (s : Nat), ds = [dLm m, .int (s : Nat)] ∧ MOk m.1.length m.2 ∧ s < m.2.length ∧ m.2.length ≤ 1000 ∧ Q (dLm (m.1, turnM m.2 s)) L
set_option maxHeartbeats 0 in
theorem ok_from (F : Fun K "_law_from" "_law_from" s__law_from f fd) (hb : Binds K fd ["_law_machine_here", "_law_state"] []) (B : Bl mg) : FnA P w K mg base 1 f sp_from := by
  refine fnA F sc__law_from hb (fun ds L Q R h => by obtain ⟨_, _, rfl, _⟩ := h; rfl) fun cdv A outer s H E ds L Q R hr h => ?_
  obtain ⟨m, st, rfl, hM, hs, hz, q⟩ := h
  refine as_cons (as_asg (ae_name 0 rfl ⟨_, _, ag_tup (ags_cons (ag_name 2) (ags_cons (ag_name 3) ags_nil)), ?_⟩))
  refine as_cons (as_asg (ae_tup (aa_cons (ae_listRange B.list B.range (ae_c_len B.len (ae_name 3 rfl (len_T ⟨_, rfl, by omega, by rw [List.length_map]; omega, fun nm hnm => aa_cons (ae_lst (aa_nil ⟨Nat.zero_le _, fun fl hfl => aa_nil ⟨Nat.le_of_ble_eq_true rfl, _, _, ag_tup (ags_cons (ag_name 4) (ags_cons (ag_name 5) ags_nil)), ?_⟩⟩))⟩)))))))
  have eR : ((List.range (((m.2.map dRw).length : Int)).toNat).map fun (i : Nat) => D.int (i : Int)) = iN (List.range m.2.length) := by rw [Int.toNat_natCast, List.length_map]; rfl
  rw [eR]
  have hne : nm ≠ fl := fun e => by rw [e, put_same] at hfl; cases hfl
  have hfl0 : L fl = none := by rw [put_ne hne.symm] at hfl; exact hfl
  have hN : ∀ o, put (put L nm (.lst o)) fl (.lst []) nm = some (.lst o) := fun o => by rw [put_ne hne]; exact put_same
  have e0 : atI (iN (List.range m.2.length)) 0 = atI (iN (List.range m.2.length)) 0 := rfl
  refine as_cons (as_sub2 set_list set_list (ae_tup (aa_cons (ae_name 1 rfl (aa_cons (ae_int (aa_nil ⟨Nat.le_of_ble_eq_true rfl, _, _, rfl, ae_name 4 rfl (ae_int (w_list (j := 0) (hN _) (ixN_nat (j := 0) (by rw [iN_len, List.length_range]; omega)) (ae_name 4 rfl (ae_name 1 rfl (w_list (j := st) put_same (ixN_nat (by rw [List.length_set, iN_len, List.length_range]; exact hs)) ?_)))))⟩)))))))
  rw [put_put]
  have eP : ((iN (List.range m.2.length)).set 0 (.int (st : Nat))).set st (.int 0) = iN (turnP m.2.length st) := by
    unfold iN turnP
    rw [List.map_set, List.map_set]
    rfl
  rw [eP]
  have e1 : put (put (put L nm (.lst (iN (List.range m.2.length)))) fl (.lst [])) nm (.lst (iN (turnP m.2.length st))) = St2 L nm (.lst (iN (turnP m.2.length st))) fl (.lst (([] : Rws).map dRw)) := by
    unfold St2
    rw [put_comm hne.symm, put_put]
    rfl
  rw [e1]
  have hfn := hne.symm
  refine as_cons (as_for (ai_lst (ae_name 4 rfl ⟨nm, _, rfl, St2.p hfn, fun hz2 => ?_⟩)))
  refine ⟨fun i Γ2 L2 => ∃ g6 g7 : Option D, L2 = St2 L nm (.lst (iN (turnP m.2.length st))) fl (.lst (((turnM m.2 st).take i).map dRw)) ∧ Γ2 = [some (dLm m), some (.int (st : Nat)), some (.wds m.1), some (dMw m.2), some (.ptr nm), some (.ptr fl), g6, g7, none], ⟨none, none, rfl, rfl⟩, ?_, ?_, ?_⟩
  · rintro i Γ2 L2 ⟨_, _, rfl, _⟩
    exact St2.p hfn
  · rintro i d Γ2 L2 hd ⟨g6, g7, rfl, rfl⟩
    obtain ⟨g, hg, rfl⟩ := iN_inv hd
    have hi := (List.getElem?_eq_some_iff.mp hg).1
    rw [turnP_len] at hi
    have hgm : g < m.2.length := by
      have := turnP_lt hs hi
      rwa [DL.getD_some hg] at this
    have et : (turnM m.2 st).take (i + 1) = (turnM m.2 st).take i ++ [turnR m.2.length st (rowAt m.2 g)] := by
      rw [List.take_add_one]
      congr 1
      unfold turnM
      rw [List.getElem?_map, hg]
      rfl
    have hr0 := rw_get hgm
    have hrm := rowAt_mem hgm
    generalize rowAt m.2 g = r at hr0 hrm et
    have e1 : atI ([.bl r.1, dI r.2.1, .int (r.2.2 : Nat)] : List D) ((0 : Nat) : Int) = some (.bl r.1) := atI_nat rfl
    have e2 : atI ([.bl r.1, dI r.2.1, .int (r.2.2 : Nat)] : List D) ((1 : Nat) : Int) = some (dI r.2.1) := atI_nat rfl
    have e3 : atI ([.bl r.1, dI r.2.1, .int (r.2.2 : Nat)] : List D) ((2 : Nat) : Int) = some (.int (r.2.2 : Nat)) := atI_nat rfl
    have pg : ∀ g, g < m.2.length → atI (iN (turnP m.2.length st)) (g : Int) = some (.int ((turnP m.2.length st).getD g 0 : Nat)) := fun g h => iN_get (getD_mem (by rw [turnP_len]; exact h))
    refine ⟨_, _, ag_name 6, ?_⟩
    refine as_cons (as_set 7 (ae_ix (ix_A (u1 hr)) (ae_name 3 rfl (ae_name 6 rfl (ixa_T ?_ hr0)))))
    refine as_one (as_expr (ae_append (ae_name 5 rfl ⟨fl, _, rfl, St2.n, ae_tup (aa_cons (ae_ix (ix_A (u1 hr)) (ae_name 7 rfl (ae_int (ixa_T ?_ e1)))))⟩)))
    refine aa_cons (ae_tupL B.tuple (al_map1 8 (ai_tup (ae_ix (ix_A (u1 hr)) (ae_name 7 rfl (ae_int (ixa_T ⟨_, rfl, fun hz3 => ⟨_, r.2.1, fun (g : Nat) => .int (g : Int), fun (g : Nat) => .int ((turnP m.2.length st).getD g 0 : Nat), rfl, trivial, hz3, fun y hy s H Cc cl2 fp Q q => ?_, ?_⟩⟩ e2)))))))
    · exact ae_ix (ix_A (u1 hr)) (ae_name 4 rfl (ae_name 8 rfl (ixa_R (.st (St2.p hfn)) q (pg y (hM.go r hrm y hy)))))
    refine aa_cons (ae_ix (ix_A (u1 hr)) (ae_name 4 rfl (ae_ix (ix_A (u1 hr)) (ae_name 7 rfl (ae_int (ixa_T (ixa_R (.st (St2.p hfn)) (aa_nil ⟨Nat.le_of_ble_eq_true rfl, _, St2.n, by rw [List.length_map, List.length_take, sl_eq]; omega, ?_⟩) (pg r.2.2 (hM.oth r hrm))) e3))))))
    have eFr : D.tup [D.bl r.1, D.tup (r.2.1.map fun (g : Nat) => D.int ((turnP m.2.length st).getD g 0 : Nat)), D.int ((turnP m.2.length st).getD r.2.2 0 : Nat)] = dRw (turnR m.2.length st r) := by
      unfold dRw turnR dI
      rw [List.map_map]
      rfl
    rw [eFr, St2.putN]
    refine ⟨_, _, ?_, rfl⟩
    rw [et, List.map_append]
    rfl
  · rintro Γ2 L2 ⟨g6, g7, rfl, rfl⟩
    rw [iN_len, turnP_len, List.take_of_length_le (by rw [turnM_len]; exact Nat.le_refl _)]
    refine as_one (as_ret (ae_tup (aa_cons (ae_name 2 rfl (aa_cons (ae_c_tuple B.tuple (ae_name 5 rfl (lr_tup (.st St2.n) (aa_nil ⟨Nat.le_of_ble_eq_true rfl, L, ?_, q⟩)))))))))
    exact (le_put hnm).trans (St2.le hfl0 hfn)
end
end K
namespace K
open PySem PySem.Spec PyProof.Rows L2 DL
theorem le_out {L0 L : Lp} (h : Le L0 L) {a : Addr} (z : L0 a = none) (o : MO) : Le L0 (put L a o) := fun b u e => by
  have : b ≠ a := fun q => by rw [q, z] at e; cases e
  rw [put_ne this]
  exact h b u e
/-! ### what stands behind, in plain Lean -/
def divM (t : List Str × Rws) (us : List Str) : List Str × Rws := leastM t.1 t.2 (runM t.1 t.2 0 us)
structure Tx (m t : List Str × Rws) : Prop where
  sub : t.1.Sublist m.1
  ok : MOk t.1.length t.2
  pos : 0 < t.2.length
  len : t.2.length ≤ m.2.length
theorem Tx.div {m t : List Str × Rws} (hw : m.1.Nodup) (T : Tx m t) (us : List Str) : Tx m (divM t us) := by
  obtain ⟨a, b, c, d⟩ := least_ok (hw.sublist T.sub) T.ok (runM_in T.ok us 0 T.pos)
  exact ⟨a.trans T.sub, b, c, Nat.le_trans d T.len⟩
theorem Tx.lang {m t : List Str × Rws} (hw : m.1.Nodup) (T : Tx m t) (us v : List Str) : accM (divM t us).1 (divM t us).2 0 v = accM t.1 t.2 0 (us ++ v) := by
  rw [accM_add]
  exact least_lang (hw.sublist T.sub) T.ok (runM_in T.ok us 0 T.pos) v
theorem least_tx {m : List Str × Rws} (hw : m.1.Nodup) (hM : MOk m.1.length m.2) {s : Nat} (hs : s < m.2.length) : Tx m (leastM m.1 m.2 s) := by
  obtain ⟨a, b, c, d⟩ := least_ok hw hM hs
  exact ⟨a, b, c, d⟩
/-- behind a text: as the law turns the machine -/
theorem div_due {m t : List Str × Rws} (hw : m.1.Nodup) (hM : MOk m.1.length m.2) (h0 : 0 < m.2.length) (T : Tx m t) (ht : ∀ v, accM t.1 t.2 0 v = accM m.1 m.2 0 v) (us : List Str) : divM t us = leastM m.1 (turnM m.2 (runM m.1 m.2 0 us)) 0 := by
  have hs := runM_in hM us 0 h0
  refine least_eq (m := t) (n := (m.1, turnM m.2 (runM m.1 m.2 0 us))) hw T.sub (List.Sublist.refl _) T.ok (turnM_ok hM hs) (runM_in T.ok us 0 T.pos) (by show 0 < (turnM m.2 _).length; rw [turnM_len]; exact h0) fun v => ?_
  show accM t.1 t.2 _ v = accM m.1 (turnM m.2 _) 0 v
  rw [turn_lang hM hs, ← accM_add, ← accM_add, ht]
theorem div_div {m t : List Str × Rws} (hw : m.1.Nodup) (T : Tx m t) (us vs : List Str) : divM (divM t us) vs = divM t (us ++ vs) := by
  have D := T.div hw us
  refine least_eq (m := divM t us) (n := t) hw D.sub T.sub D.ok T.ok (runM_in D.ok vs 0 D.pos) (runM_in T.ok _ 0 T.pos) fun v => ?_
  rw [← accM_add, T.lang hw, ← accM_add, List.append_assoc]
theorem div_nil {m : List Str × Rws} (hw : m.1.Nodup) (hM : MOk m.1.length m.2) (h0 : 0 < m.2.length) : divM (leastM m.1 m.2 0) [] = leastM m.1 m.2 0 := by
  have T := least_tx hw hM h0
  exact least_eq (m := leastM m.1 m.2 0) (n := m) hw T.sub (List.Sublist.refl _) T.ok hM T.pos h0 fun v => least_lang hw hM h0 v
structure TxL (P : Program) (w : World) (K : PySem.W.Frag) (mg : Str → Option Value) (base : Heap) (TX pW pR pO gO gE gC gF : Addr) (mc : Value) (rc : Option Value) : Prop where
  tc : TxC K TX pW pR
  si : SlX.SIsi K TX
  nm : mg "Texts" = some (.ref TX)
  rd : ClX.CRead K TX mc
  cm : ClX.CMet K TX mc "of" pO gO
  fo : FnA P w K mg base 4 gO (sp_Texts_of TX)
  ei : PySem.W.findIn K (.ref TX) "__eq__" = some (some (.ref gE))
  ef : PySem.W.isFn K (.ref gE) = true
  fe : FnA P w K mg base 2 gE (sp_Texts_eq TX)
  ci : PySem.W.findIn K (.ref TX) "__contains__" = some (some (.ref gC))
  cf : PySem.W.isFn K (.ref gC) = true
  fc : FnA P w K mg base 3 gC (sp_Texts_in TX)
  sf : PySem.W.selfFirst K TX = true
  fl : PySem.W.findIn K (.ref TX) "__floordiv__" = some (some (.ref gF))
  flf : PySem.W.isFn K (.ref gF) = true
  ff : FnA P w K mg base 4 gF (sp_Texts_fdiv TX)
  rh : PySem.W.findIn K (.ref TX) "__rfloordiv__" = some rc
  rp : rc = none ∨ ∃ z : Addr, rc = some (.ref z)
  t1 : PySem.W.findIn K (.type "tuple") "__floordiv__" = some none
  t2 : PySem.W.findIn K (.type "tuple") "__rfloordiv__" = some none
  ts : PySem.W.subIn K (.type "tuple") (.ref TX) = some false
section
variable {P : Program} {w : World} {K : PySem.W.Frag} {mg : Str → Option Value} {base : Heap} {f : Addr} {fd : FuncData} {TX pW pR pO gO gE gC gF : Addr} {mc : Value} {rc : Option Value}
theorem TxL.nf (T : TxL P w K mg base TX pW pR pO gO gE gC gF mc rc) : PySem.W.notFirst K TX (.ref TX) = true := by
  unfold PySem.W.notFirst
  rw [beq_self_eq_true]
  rfl
/-- one == other -/
theorem TxL.eq (T : TxL P w K mg base TX pW pR pO gO gE gC gF mc rc) {C : DL.Ctx} {Γ : Gm} {L : Lp} {Q : D → Lp → Prop} {m n : List Str × Rws} (hP : C.X.prog = P) (hw : C.X.w = w) (hK : C.X.K = K) (hm : C.X.mg = mg) (hb : C.X.base = base) (hr : Room 2 C.X.A) (q : Q (.bl (decide (m = n))) L) : OpJ C (.cmp .Eq) Γ (dTx TX m) (dTx TX n) L Q := by
  subst hP hw hK hm hb
  exact j_cmpO T.ei T.ef T.fe hr dTx.ins (.ins T.tc.sc T.si dTx.ins) T.nf ⟨m, n, rfl, q⟩
/-- one // text -/
theorem TxL.dv (T : TxL P w K mg base TX pW pR pO gO gE gC gF mc rc) {C : DL.Ctx} {Γ : Gm} {L : Lp} {Q : D → Lp → Prop} {m t : List Str × Rws} {us : List Str} (hP : C.X.prog = P) (hw : C.X.w = w) (hK : C.X.K = K) (hm : C.X.mg = mg) (hb : C.X.base = base) (hr : Room 4 C.X.A) (H : Tx m t) (hl : m.2.length ≤ 100) (hv : m.1.length ≤ 20) (hu : ∀ x ∈ us, wdS x = true) {ds : List D} (hd : ds = us.map D.str) (q : Q (dTx TX (divM t us)) L) : OpJ C (.bin .FloorDiv) Γ (dTx TX t) (.tup ds) L Q := by
  subst hP hw hK hm hb hd
  have h1 := H.sub.length_le
  have h2 := H.len
  exact j_binT T.sf T.fl T.flf T.rh T.rp T.t1 T.t2 T.ts T.ff hr dTx.ins ⟨t, _, us, rfl, ⟨.inr rfl, hu⟩, H.ok, H.pos, by omega, by omega, q⟩
def sp_right : SpA := fun ds L Q _ => ∃ (p : Addr) (mo : MO) (L0 : Lp), ds = [.ptr p] ∧ L = put L0 p mo ∧ L0 p = none ∧ isPot 0 mo ∧ Q (.bl true) L0
set_option maxHeartbeats 0 in
theorem ok_right (F : Fun K "_law_right" "_law_right" s__law_right f fd) (hb : Binds K fd ["_law_pot_here"] []) (B : Bl mg) (T : TxL P w K mg base TX pW pR pO gO gE gC gF mc rc) (d1 : Def P w K mg base "_law_take" 1 sp_take) (d2 : Def P w K mg base "_law_names" 4 sp_names) (d3 : Def P w K mg base "_law_machine" 2 sp_machine) (d4 : Def P w K mg base "_law_strange" 1 sp_strange) (d5 : Def P w K mg base "_law_row" 3 sp_row) (d6 : Def P w K mg base "_law_from" 1 sp_from) (d7 : Def P w K mg base "_law_behind" 2 sp_behind) (d8 : Def P w K mg base "_law_texts" 1 sp_texts) : FnA P w K mg base 6 f sp_right := by
  refine fnA F sc__law_right hb (fun ds L Q R h => by obtain ⟨_, _, _, rfl, _⟩ := h; rfl) fun cdv A outer s H E ds L Q R hr h => ?_
  obtain ⟨p, mo, L0, rfl, rfl, hp0, hpot, q⟩ := h
  refine as_cons (as_set 1 (ae_call d2 (hr.mono (by omega)) (aa_cons (ae_name 0 rfl (aa_cons (ae_add (ae_int (ae_call d1 (hr.mono (by omega)) (aa_cons (ae_name 0 rfl (aa_cons (ae_int (aa_nil ⟨p, mo, 0, 3, rfl, put_same, hpot, by omega, by omega, by omega, fun j mo1 hj h1 => add_I (aa_nil ⟨p, mo1, 1, 1 + j, rfl, put_same, h1, by omega, by omega, by omega, fun nl ys mo2 hnl hnp hyl hyw hnd h2 => ?_⟩)⟩)))))))))))))
  rw [put_put] at hnl ⊢
  have hnl0 : L0 nl = none := by rw [put_ne hnp] at hnl; exact hnl
  have eS : St2 (put L0 p mo1) p mo2 nl (.lst (ys.map .str)) = St2 L0 p mo2 nl (.lst (ys.map .str)) := by
    unfold St2
    rw [put_put]
  rw [eS]
  have hN : St2 L0 p mo2 nl (.lst (ys.map .str)) nl = some (.lst (ys.map .str)) := St2.n
  have hP : St2 L0 p mo2 nl (.lst (ys.map .str)) p = some mo2 := St2.p hnp
  have hle : Le L0 (St2 L0 p mo2 nl (.lst (ys.map .str))) := (le_put hp0).trans (St2.le hnl0 hnp)
  generalize St2 L0 p mo2 nl (.lst (ys.map .str)) = L3 at hN hP hle
  refine as_cons (as_set 2 (ae_add (ae_name 1 rfl (ae_call d4 (hr.mono (by omega)) (aa_cons (ae_name 1 rfl (aa_cons (ae_int (aa_nil ⟨nl, 2, ys, rfl, hN, fun sl zs hsl hzl hzw hznd hzd => add_L (le_put hsl _ _ hN) put_same (fun ev hev => ?_) ?_⟩)))))))))
  rotate_left
  · rw [List.length_map, List.length_map, sl_eq]
    omega
  rw [← List.map_append]
  have hevp : ev ≠ p := (ne_of_free (le_put hsl _ _ hP) hev).symm
  have hE : put (put L3 sl (.lst (zs.map .str))) ev (.lst ((ys ++ zs).map .str)) ev = some (.lst ((ys ++ zs).map .str)) := put_same
  have hN := le_put hev (o := .lst ((ys ++ zs).map .str)) _ _ (le_put hsl (o := .lst (zs.map .str)) _ _ hN)
  have hP := le_put hev (o := .lst ((ys ++ zs).map .str)) _ _ (le_put hsl (o := .lst (zs.map .str)) _ _ hP)
  have hle := hle.trans ((le_put hsl (o := .lst (zs.map .str))).trans (le_put hev (o := .lst ((ys ++ zs).map .str))))
  generalize put (put L3 sl (.lst (zs.map .str))) ev (.lst ((ys ++ zs).map .str)) = L4 at hE hN hP hle
  have hel : (ys ++ zs).length ≤ 8 := by rw [List.length_append]; omega
  have hew : ∀ x ∈ ys ++ zs, wdS x = true := fun x hx => (List.mem_append.mp hx).elim (hyw x) (hzw x)
  obtain ⟨e0, er, he0⟩ : ∃ e0 er, ys ++ zs = e0 :: er := by
    cases ys with
    | nil => simp at hyl; omega
    | cons a as => exact ⟨a, as ++ zs, rfl⟩
  generalize ys ++ zs = es at hE hel hew he0 ⊢
  refine as_cons (as_set 3 (ae_call d3 (hr.mono (by omega)) (aa_cons (ae_name 0 rfl (aa_cons (ae_slice sl_A (ae_name 1 rfl (ao_none (ao_some (ae_call d1 (hr.mono (by omega)) (aa_cons (ae_name 0 rfl (aa_cons (ae_add (ae_c_len B.len (ae_name 1 rfl (len_L (.st hN) (ae_int (add_I (aa_nil ⟨p, mo2, 501, ys.length + 1, by rw [List.length_map]; rfl, hP, h2, by omega, by omega, by omega, fun j2 mo3 hj2 h3 => ⟨_, rfl, sla_L (by rw [put_ne hnp]; exact hN) fun wl hwl => aa_cons (ae_int (aa_nil ⟨p, wl, mo3, 502, 8, ys.take j2, rfl, ?_, h3, by omega, ?_, fresh_ne hwl, ?_, by omega, by omega, fun rows mo4 hM h0 hr8 h4 => ?_⟩))⟩⟩))))))))))))))))))))
  · rw [put_ne (fresh_ne hwl).symm]
    exact put_same
  · rw [cut_to, ← List.map_take]
    exact put_same
  · rw [List.length_take]; omega
  have hxs : (srtS (ys.take j2)).Nodup := (srtS_perm _).nodup_iff.mpr (hnd.sublist (List.take_sublist _ _))
  have hxl : (srtS (ys.take j2)).length ≤ 20 := by rw [srtS_len, List.length_take]; omega
  have hxw : ∀ x ∈ srtS (ys.take j2), wdS x = true := fun x hx => hyw x (List.mem_of_mem_take ((srtS_perm _).mem_iff.mp hx))
  have hxa : adj (srtS (ys.take j2)) = true := srtS_adj (hnd.sublist (List.take_sublist _ _))
  obtain ⟨m, hm⟩ : ∃ m : List Str × Rws, (srtS (ys.take j2), rows) = m := ⟨_, rfl⟩
  have hm1 : srtS (ys.take j2) = m.1 := by rw [← hm]
  have hm2 : rows = m.2 := by rw [← hm]
  rw [hm1] at hM hxs hxl hxw hxa
  rw [hm2] at hM h0 hr8
  rw [hm]
  have hwp := fresh_ne hwl
  obtain ⟨L5, e5⟩ : ∃ L5, put (put (put L4 p mo3) wl (.lst (cut (ys.map D.str) none (some (j2 : Int))))) p mo4 = L5 := ⟨_, rfl⟩
  have hL5 : Le L0 (put (put (put L4 p mo3) wl (.lst (cut (ys.map D.str) none (some (j2 : Int))))) p mo4) := le_out ((le_out hle hp0 mo3).trans (le_put hwl)) hp0 mo4
  have hE5 : put (put (put L4 p mo3) wl (.lst (cut (ys.map D.str) none (some (j2 : Int))))) p mo4 ev = some (.lst (es.map .str)) := by
    rw [put_ne hevp]
    refine le_put hwl _ _ ?_
    rw [put_ne hevp]
    exact hE
  have hP5 : put (put (put L4 p mo3) wl (.lst (cut (ys.map D.str) none (some (j2 : Int))))) p mo4 p = some mo4 := put_same
  rw [e5] at hL5 hE5 hP5 ⊢
  have em1 : atI ([.wds m.1, dMw m.2] : List D) ((0 : Nat) : Int) = some (.wds m.1) := atI_nat rfl
  have em2 : atI ([.wds m.1, dMw m.2] : List D) ((1 : Nat) : Int) = some (dMw m.2) := atI_nat rfl
  have hesl : 0 < es.length := by rw [he0]; exact Nat.succ_pos _
  refine as_cons (as_par3 4 5 6 (aa_cons (ae_cmeth T.rd T.cm T.fo (hr.mono (by omega)) (ae_glob (v := .ref TX) (d := .ptr TX) T.nm rfl (fun _ => .ptr _) ⟨rfl, aa_cons (ae_ix (ix_A (u1 hr)) (ae_name 3 rfl (ae_int (ixa_T (aa_cons (ae_ix (ix_A (u1 hr)) (ae_name 3 rfl (ae_int (ixa_T (aa_nil ⟨m, rfl, ⟨hM, h0, by omega, hxl, hxw, hxa⟩, ?_⟩) em2))))) em1))))⟩))))
  have Tt := least_tx hxs hM h0
  have htl := least_lang hxs hM h0
  have hdn := div_nil hxs hM h0
  have hdue := fun us => div_due hxs hM h0 Tt htl us
  obtain ⟨t, ht⟩ : ∃ t, leastM m.1 m.2 0 = t := ⟨_, rfl⟩
  rw [ht] at Tt htl hdn hdue ⊢
  refine aa_cons (ae_call d5 (hr.mono (by omega)) (aa_cons (ae_name 0 rfl (aa_cons (ae_name 2 rfl (aa_cons (ae_int (aa_nil ⟨p, ev, mo4, 1002, 4, es, rfl, hP5, h4, by omega, hE5, hevp, hesl, by omega, by omega, fun one mo5 hone hol h5 => aa_cons (ae_call d5 (hr.mono (by omega)) (aa_cons (ae_name 0 rfl (aa_cons (ae_name 2 rfl (aa_cons (ae_int (aa_nil ⟨p, ev, mo5, 1062, 4, es, rfl, put_same, h5, by omega, by rw [put_ne hevp]; exact hE5, hevp, hesl, by omega, by omega, fun oth mo6 hoth hotl h6 => aa_nil ⟨_, _, _, rfl, ?_⟩⟩))))))))⟩))))))))
  rw [put_put]
  have hE6 : put L5 p mo6 ev = some (.lst (es.map .str)) := by rw [put_ne hevp]; exact hE5
  have hL6 := le_out hL5 hp0 mo6
  generalize put L5 p mo6 = L6 at hE6 hL6 ⊢
  have w1 : ∀ x ∈ one, wdS x = true := fun x hx => hew x (hone x hx)
  have w2 : ∀ x ∈ oth, wdS x = true := fun x hx => hew x (hoth x hx)
  have w3 : wdS e0 = true := hew e0 (by rw [he0]; exact List.mem_cons_self)
  have hE0 : atI (es.map D.str) ((0 : Nat) : Int) = some (.str e0) := atI_nat (by rw [he0]; rfl)
  refine as_cons (as_par 7 8 (aa_cons (ae_binJ (ae_name 4 rfl (ae_name 5 rfl (T.dv rfl rfl rfl rfl rfl (hr.mono (by omega)) Tt (by omega) hxl w1 rfl ?_))))))
  refine aa_cons (ae_slice sl_A (ae_binJ (ae_add (ae_add (ae_name 5 rfl (ae_name 6 rfl (add_T (ae_tup (aa_cons (ae_ix (ix_A (u1 hr)) (ae_name 2 rfl (ae_int (ixa_R (.st hE6) (aa_nil ⟨Nat.le_of_ble_eq_true rfl, add_T (ae_int (j_mulA (by decide) (by decide) ?_ (ao_none (ao_some (ae_int ⟨40, rfl, sla_T (aa_nil ⟨_, _, rfl, ?_⟩)⟩))))) ?_⟩) hE0)))))) ?_)))))))
  · rw [List.length_append, List.length_append, List.length_map, List.length_map]
    show _ + 1 ≤ _
    omega
  rotate_left
  · rw [List.length_append, List.length_map, List.length_map, sl_eq]
    show _ + 1 ≤ _
    omega
  · rw [List.length_map, List.length_map, sl_eq]
    omega
  have eL : cut (List.replicate (40 : Int).toNat (one.map D.str ++ oth.map D.str ++ [D.str e0])).flatten none (some ((40 : Nat) : Int)) = ((List.replicate 40 (one ++ oth ++ [e0])).flatten.take 40).map D.str := by
    rw [cut_to, List.map_take, List.map_flatten, List.map_replicate, List.map_append, List.map_append]
    rfl
  have eL2 : cut (List.replicate (40 : Int).toNat (one.map D.str ++ oth.map D.str ++ [D.str e0])).flatten none (some (40 : Int)) = ((List.replicate 40 (one ++ oth ++ [e0])).flatten.take 40).map D.str := eL
  rw [eL2]
  have w4 : ∀ x ∈ (List.replicate 40 (one ++ oth ++ [e0])).flatten.take 40, wdS x = true := fun x hx => by
    obtain ⟨l, hl, hxl⟩ := List.mem_flatten.mp (List.mem_of_mem_take hx)
    rw [List.eq_of_mem_replicate hl] at hxl
    rcases List.mem_append.mp hxl with h | h
    · exact (List.mem_append.mp h).elim (w1 x) (w2 x)
    · rw [List.mem_singleton.mp h]; exact w3
  generalize (List.replicate 40 (one ++ oth ++ [e0])).flatten.take 40 = long at w4 ⊢
  have Tb := Tt.div hxs one
  refine as_cons (as_for (ai_tup (ae_tup (aa_cons (ae_tup (aa_cons (ae_name 5 rfl (aa_cons (ae_name 7 rfl (aa_nil ⟨Nat.le_of_ble_eq_true rfl, aa_cons (ae_tup (aa_cons (ae_name 8 rfl (aa_cons (ae_binJ (ae_name 4 rfl (ae_name 8 rfl (T.dv rfl rfl rfl rfl rfl (hr.mono (by omega)) Tt (by omega) hxl w4 rfl (aa_nil ⟨Nat.le_of_ble_eq_true rfl, aa_nil ⟨Nat.le_of_ble_eq_true rfl, _, rfl, fun hz => ?_⟩⟩)))))))))⟩))))))))))
  refine ⟨fun i Γ2 L2 => ∃ (g9 g10 g11 : Option D), L2 = L6 ∧ Γ2 = [some (.ptr p), some (.ptr nl), some (.ptr ev), some (dLm m), some (dTx TX t), some (dW one), some (dW oth), some (dTx TX (divM t one)), some (dW long), g9, g10, g11], ⟨none, none, none, rfl, rfl⟩, fun _ _ _ _ => trivial, ?_, ?_⟩
  · rintro i d Γ2 L2 hd ⟨g9, g10, g11, rfl, rfl⟩
    obtain ⟨us, hus, rfl⟩ : ∃ us : List Str, (∀ x ∈ us, wdS x = true) ∧ d = .tup [dW us, dTx TX (divM t us)] := by
      have hd := List.mem_of_getElem? hd
      simp only [List.mem_cons, List.not_mem_nil, or_false] at hd
      rcases hd with rfl | rfl
      · exact ⟨one, w1, rfl⟩
      · exact ⟨long, w4, rfl⟩
    refine ⟨_, _, ag_tup (ags_cons (ag_name 9) (ags_cons (ag_name 10) ags_nil)), ?_⟩
    have hs := runM_in hM us 0 h0
    refine as_cons (as_set 11 (ae_call d6 (hr.mono (by omega)) (aa_cons (ae_name 3 rfl (aa_cons (ae_call d7 (hr.mono (by omega)) (aa_cons (ae_name 3 rfl (aa_cons (ae_name 9 rfl (aa_nil ⟨m, _, us, rfl, .t _, hM, h0, aa_nil ⟨m, _, rfl, hM, hs, by omega, ?_⟩⟩)))))))))))
    have eq := hdue us
    have ok2 := turnM_ok hM hs
    have hl2 := turnM_len m.2 (runM m.1 m.2 0 us)
    generalize turnM m.2 (runM m.1 m.2 0 us) = trn at eq ok2 hl2 ⊢
    have ed1 : atI ([.wds m.1, dMw trn] : List D) ((0 : Nat) : Int) = some (.wds m.1) := atI_nat rfl
    have ed2 : atI ([.wds m.1, dMw trn] : List D) ((1 : Nat) : Int) = some (dMw trn) := atI_nat rfl
    refine as_one (as_if (at_not (at_cmpJ (ae_name 10 rfl (ae_cmeth T.rd T.cm T.fo (hr.mono (by omega)) (ae_glob (v := .ref TX) (d := .ptr TX) T.nm rfl (fun _ => .ptr _) ⟨rfl, aa_cons (ae_ix (ix_A (u1 hr)) (ae_name 11 rfl (ae_int (ixa_T (aa_cons (ae_ix (ix_A (u1 hr)) (ae_name 11 rfl (ae_int (ixa_T (aa_nil ⟨(m.1, trn), rfl, ⟨ok2, by show 0 < trn.length; omega, by show trn.length ≤ _; omega, hxl, hxw, hxa⟩, T.eq rfl rfl rfl rfl rfl (hr.mono (by omega)) ⟨_, rfl, fun z => ?_, fun _ => as_nil ⟨_, _, _, rfl, rfl⟩⟩⟩) ed2))))) ed1))))⟩))))))
    exfalso
    have z : (!decide (divM t us = leastM m.1 trn 0)) = true := z
    rw [decide_eq_true eq] at z
    cases z
  · rintro Γ2 L2 ⟨g9, g10, g11, rfl, rfl⟩
    refine as_cons (as_for (ai_lst (ae_call d8 (hr.mono (by omega)) (aa_cons (ae_name 2 rfl (aa_cons (ae_int (aa_nil ⟨ev, 2, es, rfl, hE6, hel, by omega, fun tl us htn hus hul => ⟨tl, _, rfl, put_same, fun hz2 => ?_⟩⟩))))))))
    have hL7 := hL6.trans (le_put htn (o := .lst (us.map dW)))
    have hT7 : put L2 tl (.lst (us.map dW)) tl = some (.lst (us.map dW)) := put_same
    generalize put L2 tl (.lst (us.map dW)) = L7 at hL7 hT7 ⊢
    refine ⟨fun i Γ2 L2 => ∃ (g9 : Option D), L2 = L7 ∧ Γ2 = [some (.ptr p), some (.ptr nl), some (.ptr ev), some (dLm m), some (dTx TX t), some (dW one), some (dW oth), some (dTx TX (divM t one)), some (dW long), g9, g10, g11], ⟨g9, rfl, rfl⟩, ?_, ?_, ?_⟩
    · rintro i Γ2 L2 ⟨_, rfl, _⟩
      exact hT7
    · rintro i d Γ2 L2 hd ⟨g9, rfl, rfl⟩
      rw [List.getElem?_map] at hd
      cases eu : us[i]? with
      | none => rw [eu] at hd; cases hd
      | some u =>
        rw [eu] at hd
        cases hd
        have hu := hus u (List.mem_of_getElem? eu)
        have w5 : ∀ x ∈ u, wdS x = true := fun x hx => hew x (hu.2 x hx)
        have hs := runM_in hM (one ++ u) 0 h0
        have hacc : accM (divM t one).1 (divM t one).2 0 u = (rowAt m.2 (runM m.1 m.2 0 (one ++ u))).1 := (Tt.lang hxs one u).trans (htl _)
        have hr0 := rw_get hs
        generalize rowAt m.2 (runM m.1 m.2 0 (one ++ u)) = r at hacc hr0
        have e1 : atI ([.bl r.1, dI r.2.1, .int (r.2.2 : Nat)] : List D) ((0 : Nat) : Int) = some (.bl r.1) := atI_nat rfl
        refine ⟨_, _, ag_name 9, ?_⟩
        refine as_one (as_if (at_ne (u64 hr) (ae_cmpJ (ae_name 9 rfl (ae_name 7 rfl (j_inO T.ci T.cf T.fc (hr.mono (by omega)) dTx.ins ⟨divM t one, _, u, rfl, ⟨.inr rfl, w5⟩, Tb.ok, Tb.pos, _, rfl, ae_ix (ix_A (u1 hr)) (ae_ix (ix_A (u1 hr)) (ae_ix (ix_A (u1 hr)) (ae_name 3 rfl (ae_int (ixa_T (ae_call d7 (hr.mono (by omega)) (aa_cons (ae_name 3 rfl (aa_cons (ae_add (ae_name 5 rfl (ae_name 9 rfl (add_T (aa_nil ⟨m, _, one ++ u, rfl, by rw [List.map_append]; exact .t _, hM, h0, ixa_T (ae_int (ixa_T (ne_B ⟨_, rfl, fun z => ?_, fun _ => as_nil ⟨_, rfl, rfl⟩⟩) e1)) hr0⟩) ?_)))))))) em2)))))⟩))))))
        · exfalso
          have z : (accM (divM t one).1 (divM t one).2 0 u != r.1) = true := z
          rw [hacc] at z
          simp at z
        · rw [List.length_map, List.length_map, sl_eq]
          have := hu.1
          omega
    · rintro Γ2 L2 ⟨g9, rfl, rfl⟩
      have Td := Tb.div hxs oth
      have hwo : ∀ x ∈ one ++ oth, wdS x = true := fun x hx => (List.mem_append.mp hx).elim (w1 x) (w2 x)
      refine as_cons (as_if (at_w (aw_or (at_not (at_cmpJ (ae_binJ (ae_name 7 rfl (ae_name 6 rfl (T.dv rfl rfl rfl rfl rfl (hr.mono (by omega)) Tb (by omega) hxl w2 rfl (ae_binJ (ae_name 4 rfl (ae_add (ae_name 5 rfl (ae_name 6 rfl (add_T (T.dv rfl rfl rfl rfl rfl (hr.mono (by omega)) Tt (by omega) hxl hwo (by rw [List.map_append]) (T.eq rfl rfl rfl rfl rfl (hr.mono (by omega)) ⟨_, rfl, fun z => ?_, fun _ => ?_⟩)) ?_)))))))))))))))
      · exfalso
        have z : (!decide (divM (divM t one) oth = divM t (one ++ oth))) = true := z
        rw [decide_eq_true (div_div hxs Tt one oth)] at z
        cases z
      rotate_left
      · rw [List.length_map, List.length_map, sl_eq]
        omega
      refine aw_or1 (at_not (at_cmpJ (ae_binJ (ae_name 4 rfl (ae_tup (aa_nil ⟨Nat.zero_le _, T.dv (us := []) rfl rfl rfl rfl rfl (hr.mono (by omega)) Tt (by omega) hxl (fun x hx => nomatch hx) rfl (ae_name 4 rfl (T.eq rfl rfl rfl rfl rfl (hr.mono (by omega)) ⟨_, rfl, fun z => ?_, fun _ => as_nil ?_⟩))⟩))))))
      · exfalso
        have z : (!decide (divM t [] = t)) = true := z
        rw [decide_eq_true hdn] at z
        cases z
      refine as_one (as_ret (ae_cmpJ (ae_name 4 rfl (ae_cmeth T.rd T.cm T.fo (hr.mono (by omega)) (ae_glob (v := .ref TX) (d := .ptr TX) T.nm rfl (fun _ => .ptr _) ⟨rfl, aa_cons (ae_ix (ix_A (u1 hr)) (ae_name 3 rfl (ae_int (ixa_T (aa_cons (ae_ix (ix_A (u1 hr)) (ae_name 3 rfl (ae_int (ixa_T (aa_nil ⟨m, rfl, ⟨hM, h0, by omega, hxl, hxw, hxa⟩, T.eq rfl rfl rfl rfl rfl (hr.mono (by omega)) ⟨L0, hL7, ?_⟩⟩) em2))))) em1))))⟩)))))
      rw [decide_eq_true ht.symm]
      exact q
end
end K
set_option maxHeartbeats 2000000
namespace K
open PySem PySem.Spec PyProof.Rows L2 DL
set_option hygiene false in
local macro_rules | `(tactic| k_get) => `(tactic| first
  | refine ae_name 0 rfl ?_ | refine ae_name 1 rfl ?_ | refine ae_name 2 rfl ?_ | refine ae_name 3 rfl ?_ | refine ae_name 4 rfl ?_ | refine ae_name 5 rfl ?_ | refine ae_name 6 rfl ?_ | refine ae_name 7 rfl ?_ | refine ae_name 8 rfl ?_ | refine ae_name 9 rfl ?_ | refine ae_name 10 rfl ?_ | refine ae_name 11 rfl ?_ | refine ae_name 12 rfl ?_
  | refine ae_int ?_ | refine ae_bl ?_ | refine ae_non ?_ | refine ae_str ?_ | refine ae_tup ?_ | refine ae_lst ?_
  | refine ae_and ?_ | refine ae_or ?_ | refine ae_one ?_ | refine ae_not ?_ | refine ae_neg ?_ | refine ae_ifExp ?_
  | refine ae_eq (u64 hr) ?_ | refine ae_ne (u64 hr) ?_ | refine ae_lt (u64 hr) ?_ | refine ae_le ?_ | refine ae_gt ?_ | refine ae_ge ?_ | refine ae_in (u1 hr) ?_ | refine ae_nin (u1 hr) ?_ | refine ae_is ?_ | refine ae_isn ?_
  | refine ae_lele ?_
  | refine ae_add ?_ | refine ae_sub ?_ | refine ae_mul ?_ | refine ae_mod ?_ | refine ae_div ?_
  | refine ae_slice sl_A ?_ | refine ae_ix (ix_A (u1 hr)) ?_
  | refine ae_c_len B.len ?_ | refine ae_c_int B.int ?_ | refine ae_c_abs B.abs ?_ | refine ae_c_max B.max ?_ | refine ae_c_min B.min ?_ | refine ae_c_isi B.isinstance ?_
  | refine ae_tupL B.tuple (?_ : AL _ (.ListComp _ _ _ _) _ _ _) | refine ae_c_tuple B.tuple ?_ | refine ae_allL B.all ?_ | refine ae_anyL B.any ?_
  | refine ae_call (by assumption) (hr.mono (by omega)) ?_
  | refine ae_append ?_
  | refine ae_bltn (T := "tuple") B.tuple (by decide +kernel) ?_ | refine ae_bltn (T := "str") B.str (by decide +kernel) ?_ | refine ae_bltn (T := "list") B.list (by decide +kernel) ?_ | refine ae_bltn (T := "int") B.int (by decide +kernel) ?_ | refine ae_bltn (T := "bool") B.bool (by decide +kernel) ?_ )
set_option hygiene false in
local macro_rules | `(tactic| k_put) => `(tactic| first
  | refine add_I ?_ | refine add_T ?_ ?_ | refine add_S ?_ ?_ | refine sub_I ?_ | refine eq_I ?_ | refine ne_I ?_ | refine eq_S ?_ | refine ne_S ?_ | refine lt_I ?_ | refine lt_S ?_ | refine le_I ?_ | refine gt_I ?_ | refine ge_I ?_
  | refine isa_N ?_ | refine isnota_N ?_ | refine ixa_T ?_ rfl | refine ixa_N ?_ rfl | refine ixa_R (by assumption) ?_ rfl | refine mod_I ?_ ?_ | refine div_I ?_ ?_ | refine mul_I ?_ ?_ | refine mul_S ?_ ?_ ?_ ?_ | refine in_W (by assumption) ?_ | refine notIn_W (by assumption) ?_ | refine in_sign ?_ | refine in_L (by assumption) ?_ | refine notIn_L (by assumption) ?_ | refine in_T ?_ | refine notIn_T ?_ | refine eq_W0 ?_ | refine eq_W ?_ | refine ne_W ?_ | refine eq_C ?_ | refine ne_C ?_ | refine r_ipI ?_ )
set_option hygiene false in
local macro_rules | `(tactic| k_go) => `(tactic| first
  | (show DL.ASs _ _ _ _ _; first | refine as_one ?_ | refine as_cons ?_ | refine as_nil ?_)
  | (show DL.AS _ _ _ _ _; first | refine as_ret ?_ | refine as_if ?_ | refine as_expr ?_ | refine as_set 0 ?_ | refine as_set 1 ?_ | refine as_set 2 ?_ | refine as_set 3 ?_ | refine as_set 4 ?_ | refine as_set 5 ?_ | refine as_set 6 ?_ | refine as_set 7 ?_ | refine as_set 8 ?_ | refine as_set 9 ?_ | refine as_set 10 ?_ | refine as_set 11 ?_ | refine as_aug 0 ip_add rfl ?_ | refine as_aug 1 ip_add rfl ?_ | refine as_aug 2 ip_add rfl ?_ | refine as_aug 3 ip_add rfl ?_ | refine as_aug 4 ip_add rfl ?_ | refine as_aug 5 ip_add rfl ?_ | refine as_aug 6 ip_add rfl ?_ | refine as_retN ?_ | refine as_pass ?_ | refine as_break ?_ | refine as_continue ?_)
  | (show AE _ _ _ _ _; k_get)
  | (show AT _ _ _ _ _; first | refine at_w (?_ : AW _ (.BoolOp _ _ _) _ _ _) | refine at_not ?_ | refine at_eq (u64 hr) ?_ | refine at_ne (u64 hr) ?_ | refine at_lt (u64 hr) ?_ | refine at_le ?_ | refine at_gt ?_ | refine at_ge ?_ | refine at_in (u1 hr) ?_ | refine at_nin (u1 hr) ?_ | refine at_is ?_ | refine at_isn ?_ | refine at_lele ?_ | refine at_val ?_)
  | (show AW _ _ _ _ _; first | refine aw_and ?_ | refine aw_or ?_ | refine aw_and1 ?_ | refine aw_or1 ?_)
  | (show AA _ _ _ _ _; first | refine aa_cons ?_ | refine aa_nil ?_)
  | (show AO _ _ _ _ _; first | refine ao_some ?_ | refine ao_none ?_)
  | (show L2R _ _ _ _ _ _; k_put)
  | (show LcR _ _ _ _ _; first | refine len_T ?_ | refine len_N ?_ | refine len_S ?_ | refine len_L (by assumption) ?_ | refine len_D (by assumption) ?_ | refine c_intI ?_ | refine c_intB ?_ | refine c_abs ?_ | refine c_max ?_ | refine c_min ?_ | refine c_tupT ?_ | refine lr_tup (by assumption) ?_ | refine isi_tt ?_ | refine isi_ii ?_ | refine isi_ib ?_ | refine isi_ss ?_ | refine isi_is ?_ | refine isi_ts ?_ | refine isi_st ?_ | refine isi_bb ?_)
  | (show LsR _ _ _ _ _ _ _; first | refine sla_T ?_ | refine sla_S ?_)
  | refine ⟨Nat.le_of_ble_eq_true rfl, ?_⟩
  | refine ⟨_, rfl, ?_⟩ | refine ⟨_, _, rfl, ?_⟩ | refine ⟨_, _, _, rfl, ?_⟩ | refine ⟨_, _, _, _, rfl, ?_⟩
  | exact ⟨_, .refl _, q⟩)
set_option hygiene false in
local macro_rules | `(tactic| walk) => `(tactic| repeat k_go)
set_option hygiene false in
local macro_rules | `(tactic| k_few) => `(tactic| first | refine ⟨fun _ => ?_, (fun z => Bool.noConfusion z)⟩ | refine ⟨(fun z => Bool.noConfusion z), fun _ => ?_⟩)
set_option hygiene false in
local macro_rules | `(tactic| k_not) => `(tactic| refine ⟨fun hk => ?_, fun hk => ?_⟩)
section
variable {P : Program} {w : World} {K : PySem.W.Frag} {mg : Str → Option Value} {base : Heap} {f : Addr} {fd : FuncData}
def sp_law : SpA := fun ds L Q _ => ∃ ns : List Int, ds = [.ilst ns] ∧ Q (.bl true) L
theorem ok_law (F : Fun K "law" "law" s_law f fd) (B : Bl mg) (d1 : Def P w K mg base "_law_pot" 1 sp_pot) (d2 : Def P w K mg base "_law_right" 6 sp_right) : FnOk P w K mg base (L2.CX P w) 7 f fd ["_law_script"] (toSp P w K sp_law) := by
  refine fnAok F sc_law (fun ds L Q R h => by obtain ⟨_, rfl, _⟩ := h; rfl) fun cdv A outer s H E ds L Q R hr h => ?_
  obtain ⟨ns, rfl, q⟩ := h
  walk
  refine al_map1 1 (ai_range1 B.range ?_)
  walk
  generalize hN : (if (if (ns.length : Int) < 2 then (ns.length : Int) else 2) > 1 then (if (ns.length : Int) < 2 then (ns.length : Int) else 2) else 1) = N
  have h1 : 1 ≤ N ∧ N ≤ 2 := by
    subst hN
    split <;> split at * <;> omega
  refine ⟨by omega, by omega, _, List.range N.toNat, fun k => .int (0 + (k : Nat)), fun _ => .bl true, rfl, trivial, by rw [rangeD_len, sl_eq]; omega, fun y hy s H Cc cl fp Q q => ?_, (List.range N.toNat).map fun _ => true, by rw [List.map_map]; rfl, L, .refl L, ?_⟩
  · have hy := List.mem_range.mp hy
    walk
    refine ⟨by show (0 : Nat) + y < 1000; omega, fun p mo hp hpot => ?_⟩
    walk
    exact ⟨p, mo, L, rfl, rfl, hp, hpot, q⟩
  · rw [show ((List.range N.toNat).map fun _ => true).all id = true by rw [List.all_map]; exact List.all_eq_true.mpr fun _ _ => rfl]
    exact q
end
end K
namespace K
open PySem PySem.Spec PyProof.Rows L2 DL
set_option maxHeartbeats 0 in
theorem all_mk {l : PySem.W.OpenLaw} {w : World} {K : PySem.W.Frag} {mg : Str → Option Value} {fa : Addr} {h : Heap} (X : K.In h) (G : h.Ns mainGlobals mg) (hfa : mg "law" = some (.ref fa))
    {f0 : Addr} {od0 an0 : Option Addr} {sl0 : Array (Option Value)} {oc0 kV0 dc0 pm0 cd0 ct0 : Value} {f1 : Addr} {od1 an1 : Option Addr} {sl1 : Array (Option Value)} {oc1 kV1 dc1 pm1 cd1 ct1 : Value} {f2 : Addr} {od2 an2 : Option Addr} {sl2 : Array (Option Value)} {oc2 kV2 dc2 pm2 cd2 ct2 : Value} {f3 : Addr} {od3 an3 : Option Addr} {sl3 : Array (Option Value)} {oc3 kV3 dc3 pm3 cd3 ct3 : Value} {f4 : Addr} {od4 an4 : Option Addr} {sl4 : Array (Option Value)} {oc4 kV4 dc4 pm4 cd4 ct4 : Value} {f5 : Addr} {od5 an5 : Option Addr} {sl5 : Array (Option Value)} {oc5 kV5 dc5 pm5 cd5 ct5 : Value} {f6 : Addr} {od6 an6 : Option Addr} {sl6 : Array (Option Value)} {oc6 kV6 dc6 pm6 cd6 ct6 : Value} {f7 : Addr} {od7 an7 : Option Addr} {sl7 : Array (Option Value)} {oc7 kV7 dc7 pm7 cd7 ct7 : Value} {f8 : Addr} {od8 an8 : Option Addr} {sl8 : Array (Option Value)} {oc8 kV8 dc8 pm8 cd8 ct8 : Value} {f9 : Addr} {od9 an9 : Option Addr} {sl9 : Array (Option Value)} {oc9 kV9 dc9 pm9 cd9 ct9 : Value} {f10 : Addr} {od10 an10 : Option Addr} {sl10 : Array (Option Value)} {oc10 kV10 dc10 pm10 cd10 ct10 : Value} {f11 : Addr} {od11 an11 : Option Addr} {sl11 : Array (Option Value)} {oc11 kV11 dc11 pm11 cd11 ct11 : Value} {f12 : Addr} {od12 an12 : Option Addr} {sl12 : Array (Option Value)} {oc12 kV12 dc12 pm12 cd12 ct12 : Value} {f18 : Addr} {od18 an18 : Option Addr} {sl18 : Array (Option Value)} {oc18 kV18 dc18 pm18 cd18 ct18 : Value} {f19 : Addr} {od19 an19 : Option Addr} {sl19 : Array (Option Value)} {oc19 kV19 dc19 pm19 cd19 ct19 : Value} {f20 : Addr} {od20 an20 : Option Addr} {sl20 : Array (Option Value)} {oc20 kV20 dc20 pm20 cd20 ct20 : Value} {f21 : Addr} {od21 an21 : Option Addr} {sl21 : Array (Option Value)} {oc21 kV21 dc21 pm21 cd21 ct21 : Value} {f22 : Addr} {od22 an22 : Option Addr} {sl22 : Array (Option Value)} {oc22 kV22 dc22 pm22 cd22 ct22 : Value} {f23 : Addr} {od23 an23 : Option Addr} {sl23 : Array (Option Value)} {oc23 kV23 dc23 pm23 cd23 ct23 : Value} {f24 : Addr} {od24 an24 : Option Addr} {sl24 : Array (Option Value)} {oc24 kV24 dc24 pm24 cd24 ct24 : Value} {f25 : Addr} {od25 an25 : Option Addr} {sl25 : Array (Option Value)} {oc25 kV25 dc25 pm25 cd25 ct25 : Value} {f26 : Addr} {od26 an26 : Option Addr} {sl26 : Array (Option Value)} {oc26 kV26 dc26 pm26 cd26 ct26 : Value} {f27 : Addr} {od27 an27 : Option Addr} {sl27 : Array (Option Value)} {oc27 kV27 dc27 pm27 cd27 ct27 : Value} {f28 : Addr} {od28 an28 : Option Addr} {sl28 : Array (Option Value)} {oc28 kV28 dc28 pm28 cd28 ct28 : Value} {f29 : Addr} {od29 an29 : Option Addr} {sl29 : Array (Option Value)} {oc29 kV29 dc29 pm29 cd29 ct29 : Value} {f30 : Addr} {od30 an30 : Option Addr} {sl30 : Array (Option Value)} {oc30 kV30 dc30 pm30 cd30 ct30 : Value} {f31 : Addr} {od31 an31 : Option Addr} {sl31 : Array (Option Value)} {oc31 kV31 dc31 pm31 cd31 ct31 : Value} {t_MOST_LETTERS : Tok} {t_LETTERS : Tok} {t_MOST_WORDS : Tok} {t_MOST_STATES : Tok} {TX : Addr} {p_Texts_own_rows : Addr} {p_Texts_own_words : Addr} {pp_Texts_of : Addr} {rr_Texts_of : List Value} {f13 : Addr} {od13 an13 : Option Addr} {sl13 : Array (Option Value)} {oc13 kV13 dc13 pm13 cd13 ct13 : Value} {f14 : Addr} {od14 an14 : Option Addr} {sl14 : Array (Option Value)} {oc14 kV14 dc14 pm14 cd14 ct14 : Value} {f15 : Addr} {od15 an15 : Option Addr} {sl15 : Array (Option Value)} {oc15 kV15 dc15 pm15 cd15 ct15 : Value} {f16 : Addr} {od16 an16 : Option Addr} {sl16 : Array (Option Value)} {oc16 kV16 dc16 pm16 cd16 ct16 : Value} {f17 : Addr} {od17 an17 : Option Addr} {sl17 : Array (Option Value)} {oc17 kV17 dc17 pm17 cd17 ct17 : Value}
    (a0 : PySem.W.nsIn K mainGlobals "is_integer" = some (some (.ref f0)))
    (l0 : K.lookup f0 = some ⟨oc0, od0, .func (PySem.W.fnOf "is_integer" "is_integer" (defArgs s_is_integer) (defBody s_is_integer) (defScope s_is_integer) .none kV0 dc0 pm0 an0 cd0 ct0), sl0⟩)
    (c0 : PySem.W.codeIn K cd0 "is_integer" = true)
    (k0 : PySem.W.keepIn K (.ref f0) = true)
    (a1 : PySem.W.nsIn K mainGlobals "is_word" = some (some (.ref f1)))
    (l1 : K.lookup f1 = some ⟨oc1, od1, .func (PySem.W.fnOf "is_word" "is_word" (defArgs s_is_word) (defBody s_is_word) (defScope s_is_word) .none kV1 dc1 pm1 an1 cd1 ct1), sl1⟩)
    (c1 : PySem.W.codeIn K cd1 "is_word" = true)
    (k1 : PySem.W.keepIn K (.ref f1) = true)
    (a2 : PySem.W.nsIn K mainGlobals "is_text" = some (some (.ref f2)))
    (l2 : K.lookup f2 = some ⟨oc2, od2, .func (PySem.W.fnOf "is_text" "is_text" (defArgs s_is_text) (defBody s_is_text) (defScope s_is_text) .none kV2 dc2 pm2 an2 cd2 ct2), sl2⟩)
    (c2 : PySem.W.codeIn K cd2 "is_text" = true)
    (k2 : PySem.W.keepIn K (.ref f2) = true)
    (a3 : PySem.W.nsIn K mainGlobals "is_rising" = some (some (.ref f3)))
    (l3 : K.lookup f3 = some ⟨oc3, od3, .func (PySem.W.fnOf "is_rising" "is_rising" (defArgs s_is_rising) (defBody s_is_rising) (defScope s_is_rising) .none kV3 dc3 pm3 an3 cd3 ct3), sl3⟩)
    (c3 : PySem.W.codeIn K cd3 "is_rising" = true)
    (k3 : PySem.W.keepIn K (.ref f3) = true)
    (a4 : PySem.W.nsIn K mainGlobals "is_words" = some (some (.ref f4)))
    (l4 : K.lookup f4 = some ⟨oc4, od4, .func (PySem.W.fnOf "is_words" "is_words" (defArgs s_is_words) (defBody s_is_words) (defScope s_is_words) .none kV4 dc4 pm4 an4 cd4 ct4), sl4⟩)
    (c4 : PySem.W.codeIn K cd4 "is_words" = true)
    (k4 : PySem.W.keepIn K (.ref f4) = true)
    (a5 : PySem.W.nsIn K mainGlobals "is_row" = some (some (.ref f5)))
    (l5 : K.lookup f5 = some ⟨oc5, od5, .func (PySem.W.fnOf "is_row" "is_row" (defArgs s_is_row) (defBody s_is_row) (defScope s_is_row) .none kV5 dc5 pm5 an5 cd5 ct5), sl5⟩)
    (c5 : PySem.W.codeIn K cd5 "is_row" = true)
    (k5 : PySem.W.keepIn K (.ref f5) = true)
    (a6 : PySem.W.nsIn K mainGlobals "is_rows" = some (some (.ref f6)))
    (l6 : K.lookup f6 = some ⟨oc6, od6, .func (PySem.W.fnOf "is_rows" "is_rows" (defArgs s_is_rows) (defBody s_is_rows) (defScope s_is_rows) .none kV6 dc6 pm6 an6 cd6 ct6), sl6⟩)
    (c6 : PySem.W.codeIn K cd6 "is_rows" = true)
    (k6 : PySem.W.keepIn K (.ref f6) = true)
    (a7 : PySem.W.nsIn K mainGlobals "column_of" = some (some (.ref f7)))
    (l7 : K.lookup f7 = some ⟨oc7, od7, .func (PySem.W.fnOf "column_of" "column_of" (defArgs s_column_of) (defBody s_column_of) (defScope s_column_of) .none kV7 dc7 pm7 an7 cd7 ct7), sl7⟩)
    (c7 : PySem.W.codeIn K cd7 "column_of" = true)
    (k7 : PySem.W.keepIn K (.ref f7) = true)
    (a8 : PySem.W.nsIn K mainGlobals "goal_of" = some (some (.ref f8)))
    (l8 : K.lookup f8 = some ⟨oc8, od8, .func (PySem.W.fnOf "goal_of" "goal_of" (defArgs s_goal_of) (defBody s_goal_of) (defScope s_goal_of) .none kV8 dc8 pm8 an8 cd8 ct8), sl8⟩)
    (c8 : PySem.W.codeIn K cd8 "goal_of" = true)
    (k8 : PySem.W.keepIn K (.ref f8) = true)
    (a9 : PySem.W.nsIn K mainGlobals "state_behind" = some (some (.ref f9)))
    (l9 : K.lookup f9 = some ⟨oc9, od9, .func (PySem.W.fnOf "state_behind" "state_behind" (defArgs s_state_behind) (defBody s_state_behind) (defScope s_state_behind) .none kV9 dc9 pm9 an9 cd9 ct9), sl9⟩)
    (c9 : PySem.W.codeIn K cd9 "state_behind" = true)
    (k9 : PySem.W.keepIn K (.ref f9) = true)
    (a10 : PySem.W.nsIn K mainGlobals "reached" = some (some (.ref f10)))
    (l10 : K.lookup f10 = some ⟨oc10, od10, .func (PySem.W.fnOf "reached" "reached" (defArgs s_reached) (defBody s_reached) (defScope s_reached) .none kV10 dc10 pm10 an10 cd10 ct10), sl10⟩)
    (c10 : PySem.W.codeIn K cd10 "reached" = true)
    (k10 : PySem.W.keepIn K (.ref f10) = true)
    (a11 : PySem.W.nsIn K mainGlobals "blocks_of" = some (some (.ref f11)))
    (l11 : K.lookup f11 = some ⟨oc11, od11, .func (PySem.W.fnOf "blocks_of" "blocks_of" (defArgs s_blocks_of) (defBody s_blocks_of) (defScope s_blocks_of) .none kV11 dc11 pm11 an11 cd11 ct11), sl11⟩)
    (c11 : PySem.W.codeIn K cd11 "blocks_of" = true)
    (k11 : PySem.W.keepIn K (.ref f11) = true)
    (a12 : PySem.W.nsIn K mainGlobals "least_machine" = some (some (.ref f12)))
    (l12 : K.lookup f12 = some ⟨oc12, od12, .func (PySem.W.fnOf "least_machine" "least_machine" (defArgs s_least_machine) (defBody s_least_machine) (defScope s_least_machine) .none kV12 dc12 pm12 an12 cd12 ct12), sl12⟩)
    (c12 : PySem.W.codeIn K cd12 "least_machine" = true)
    (k12 : PySem.W.keepIn K (.ref f12) = true)
    (a18 : PySem.W.nsIn K mainGlobals "_law_pot" = some (some (.ref f18)))
    (l18 : K.lookup f18 = some ⟨oc18, od18, .func (PySem.W.fnOf "_law_pot" "_law_pot" (defArgs s__law_pot) (defBody s__law_pot) (defScope s__law_pot) .none kV18 dc18 pm18 an18 cd18 ct18), sl18⟩)
    (c18 : PySem.W.codeIn K cd18 "_law_pot" = true)
    (k18 : PySem.W.keepIn K (.ref f18) = true)
    (a19 : PySem.W.nsIn K mainGlobals "_law_take" = some (some (.ref f19)))
    (l19 : K.lookup f19 = some ⟨oc19, od19, .func (PySem.W.fnOf "_law_take" "_law_take" (defArgs s__law_take) (defBody s__law_take) (defScope s__law_take) .none kV19 dc19 pm19 an19 cd19 ct19), sl19⟩)
    (c19 : PySem.W.codeIn K cd19 "_law_take" = true)
    (k19 : PySem.W.keepIn K (.ref f19) = true)
    (a20 : PySem.W.nsIn K mainGlobals "_law_of" = some (some (.ref f20)))
    (l20 : K.lookup f20 = some ⟨oc20, od20, .func (PySem.W.fnOf "_law_of" "_law_of" (defArgs s__law_of) (defBody s__law_of) (defScope s__law_of) .none kV20 dc20 pm20 an20 cd20 ct20), sl20⟩)
    (c20 : PySem.W.codeIn K cd20 "_law_of" = true)
    (k20 : PySem.W.keepIn K (.ref f20) = true)
    (a21 : PySem.W.nsIn K mainGlobals "_law_word" = some (some (.ref f21)))
    (l21 : K.lookup f21 = some ⟨oc21, od21, .func (PySem.W.fnOf "_law_word" "_law_word" (defArgs s__law_word) (defBody s__law_word) (defScope s__law_word) .none kV21 dc21 pm21 an21 cd21 ct21), sl21⟩)
    (c21 : PySem.W.codeIn K cd21 "_law_word" = true)
    (k21 : PySem.W.keepIn K (.ref f21) = true)
    (a22 : PySem.W.nsIn K mainGlobals "_law_names" = some (some (.ref f22)))
    (l22 : K.lookup f22 = some ⟨oc22, od22, .func (PySem.W.fnOf "_law_names" "_law_names" (defArgs s__law_names) (defBody s__law_names) (defScope s__law_names) .none kV22 dc22 pm22 an22 cd22 ct22), sl22⟩)
    (c22 : PySem.W.codeIn K cd22 "_law_names" = true)
    (k22 : PySem.W.keepIn K (.ref f22) = true)
    (a23 : PySem.W.nsIn K mainGlobals "_law_strange" = some (some (.ref f23)))
    (l23 : K.lookup f23 = some ⟨oc23, od23, .func (PySem.W.fnOf "_law_strange" "_law_strange" (defArgs s__law_strange) (defBody s__law_strange) (defScope s__law_strange) .none kV23 dc23 pm23 an23 cd23 ct23), sl23⟩)
    (c23 : PySem.W.codeIn K cd23 "_law_strange" = true)
    (k23 : PySem.W.keepIn K (.ref f23) = true)
    (a24 : PySem.W.nsIn K mainGlobals "_law_machine" = some (some (.ref f24)))
    (l24 : K.lookup f24 = some ⟨oc24, od24, .func (PySem.W.fnOf "_law_machine" "_law_machine" (defArgs s__law_machine) (defBody s__law_machine) (defScope s__law_machine) .none kV24 dc24 pm24 an24 cd24 ct24), sl24⟩)
    (c24 : PySem.W.codeIn K cd24 "_law_machine" = true)
    (k24 : PySem.W.keepIn K (.ref f24) = true)
    (a25 : PySem.W.nsIn K mainGlobals "_law_goal" = some (some (.ref f25)))
    (l25 : K.lookup f25 = some ⟨oc25, od25, .func (PySem.W.fnOf "_law_goal" "_law_goal" (defArgs s__law_goal) (defBody s__law_goal) (defScope s__law_goal) .none kV25 dc25 pm25 an25 cd25 ct25), sl25⟩)
    (c25 : PySem.W.codeIn K cd25 "_law_goal" = true)
    (k25 : PySem.W.keepIn K (.ref f25) = true)
    (a26 : PySem.W.nsIn K mainGlobals "_law_behind" = some (some (.ref f26)))
    (l26 : K.lookup f26 = some ⟨oc26, od26, .func (PySem.W.fnOf "_law_behind" "_law_behind" (defArgs s__law_behind) (defBody s__law_behind) (defScope s__law_behind) .none kV26 dc26 pm26 an26 cd26 ct26), sl26⟩)
    (c26 : PySem.W.codeIn K cd26 "_law_behind" = true)
    (k26 : PySem.W.keepIn K (.ref f26) = true)
    (a27 : PySem.W.nsIn K mainGlobals "_law_row" = some (some (.ref f27)))
    (l27 : K.lookup f27 = some ⟨oc27, od27, .func (PySem.W.fnOf "_law_row" "_law_row" (defArgs s__law_row) (defBody s__law_row) (defScope s__law_row) .none kV27 dc27 pm27 an27 cd27 ct27), sl27⟩)
    (c27 : PySem.W.codeIn K cd27 "_law_row" = true)
    (k27 : PySem.W.keepIn K (.ref f27) = true)
    (a28 : PySem.W.nsIn K mainGlobals "_law_texts" = some (some (.ref f28)))
    (l28 : K.lookup f28 = some ⟨oc28, od28, .func (PySem.W.fnOf "_law_texts" "_law_texts" (defArgs s__law_texts) (defBody s__law_texts) (defScope s__law_texts) .none kV28 dc28 pm28 an28 cd28 ct28), sl28⟩)
    (c28 : PySem.W.codeIn K cd28 "_law_texts" = true)
    (k28 : PySem.W.keepIn K (.ref f28) = true)
    (a29 : PySem.W.nsIn K mainGlobals "_law_from" = some (some (.ref f29)))
    (l29 : K.lookup f29 = some ⟨oc29, od29, .func (PySem.W.fnOf "_law_from" "_law_from" (defArgs s__law_from) (defBody s__law_from) (defScope s__law_from) .none kV29 dc29 pm29 an29 cd29 ct29), sl29⟩)
    (c29 : PySem.W.codeIn K cd29 "_law_from" = true)
    (k29 : PySem.W.keepIn K (.ref f29) = true)
    (a30 : PySem.W.nsIn K mainGlobals "_law_right" = some (some (.ref f30)))
    (l30 : K.lookup f30 = some ⟨oc30, od30, .func (PySem.W.fnOf "_law_right" "_law_right" (defArgs s__law_right) (defBody s__law_right) (defScope s__law_right) .none kV30 dc30 pm30 an30 cd30 ct30), sl30⟩)
    (c30 : PySem.W.codeIn K cd30 "_law_right" = true)
    (k30 : PySem.W.keepIn K (.ref f30) = true)
    (a31 : PySem.W.nsIn K mainGlobals "law" = some (some (.ref f31)))
    (l31 : K.lookup f31 = some ⟨oc31, od31, .func (PySem.W.fnOf "law" "law" (defArgs s_law) (defBody s_law) (defScope s_law) .none kV31 dc31 pm31 an31 cd31 ct31), sl31⟩)
    (c31 : PySem.W.codeIn K cd31 "law" = true)
    (k31 : PySem.W.keepIn K (.ref f31) = true)
    (n_MOST_LETTERS : PySem.W.nsIn K mainGlobals "MOST_LETTERS" = some (some (.int 8 t_MOST_LETTERS)))
    (n_LETTERS : PySem.W.nsIn K mainGlobals "LETTERS" = some (some (.str "abcdefghijklmnopqrstuvwxyz" t_LETTERS)))
    (n_MOST_WORDS : PySem.W.nsIn K mainGlobals "MOST_WORDS" = some (some (.int 20 t_MOST_WORDS)))
    (n_MOST_STATES : PySem.W.nsIn K mainGlobals "MOST_STATES" = some (some (.int 100 t_MOST_STATES)))
    (z_tuple : PySem.W.nsIn K mainGlobals "tuple" = some none)
    (z_list : PySem.W.nsIn K mainGlobals "list" = some none)
    (z_len : PySem.W.nsIn K mainGlobals "len" = some none)
    (z_any : PySem.W.nsIn K mainGlobals "any" = some none)
    (z_all : PySem.W.nsIn K mainGlobals "all" = some none)
    (z_range : PySem.W.nsIn K mainGlobals "range" = some none)
    (z_zip : PySem.W.nsIn K mainGlobals "zip" = some none)
    (z_isinstance : PySem.W.nsIn K mainGlobals "isinstance" = some none)
    (z_str : PySem.W.nsIn K mainGlobals "str" = some none)
    (z_sorted : PySem.W.nsIn K mainGlobals "sorted" = some none)
    (z_set : PySem.W.nsIn K mainGlobals "set" = some none)
    (z_dict : PySem.W.nsIn K mainGlobals "dict" = some none)
    (z_max : PySem.W.nsIn K mainGlobals "max" = some none)
    (z_min : PySem.W.nsIn K mainGlobals "min" = some none)
    (z_abs : PySem.W.nsIn K mainGlobals "abs" = some none)
    (z_int : PySem.W.nsIn K mainGlobals "int" = some none)
    (z_bool : PySem.W.nsIn K mainGlobals "bool" = some none)
    (z_sum : PySem.W.nsIn K mainGlobals "sum" = some none)
    (z_repr : PySem.W.nsIn K mainGlobals "repr" = some none)
    (z_enumerate : PySem.W.nsIn K mainGlobals "enumerate" = some none)
    (A_Texts : PySem.W.nsIn K mainGlobals "Texts" = some (some (.ref TX)))
    (Pg_Texts : PySem.W.plainGet K TX Str.empty = true)
    (Ic_Texts : PySem.W.isClsIn K TX = true)
    (Po_Texts : PySem.W.plainOver K TX = true)
    (Sa_Texts : PySem.W.findIn K (.ref TX) "__setattr__" = some (some (.builtin "object.__setattr__")))
    (sA_Texts_own_rows : PySem.W.findIn K (.ref TX) "own_rows" = some (some (.ref p_Texts_own_rows)))
    (sG_Texts_own_rows : PySem.W.specialIn K (.ref p_Texts_own_rows) "__get__" = some (some (.builtin "member_descriptor.__get__")))
    (sT_Texts_own_rows : PySem.W.takesIn K (.ref p_Texts_own_rows) = some true)
    (sY_Texts_own_rows : PySem.W.typeIn K (.ref p_Texts_own_rows) = some (.type "member_descriptor"))
    (sI_Texts_own_rows : PySem.W.slotIn K p_Texts_own_rows TX = some 0)
    (sA_Texts_own_words : PySem.W.findIn K (.ref TX) "own_words" = some (some (.ref p_Texts_own_words)))
    (sG_Texts_own_words : PySem.W.specialIn K (.ref p_Texts_own_words) "__get__" = some (some (.builtin "member_descriptor.__get__")))
    (sT_Texts_own_words : PySem.W.takesIn K (.ref p_Texts_own_words) = some true)
    (sY_Texts_own_words : PySem.W.typeIn K (.ref p_Texts_own_words) = some (.type "member_descriptor"))
    (sI_Texts_own_words : PySem.W.slotIn K p_Texts_own_words TX = some 1)
    (Ja_Texts : PySem.W.findIn K (.ref TX) "__class__" = some (some (.builtin "object.__class__")))
    (Jn : PySem.W.specialIn K (.builtin "object.__class__") "__get__" = some (some (.builtin "getset_descriptor.__get__")))
    (Jt : PySem.W.takesIn K (.builtin "object.__class__") = some true)
    (Jm_Texts : PySem.W.mroIn K TX (.type "object") = some true)
    (mM_Texts___init__ : PySem.W.makesIn K TX = true)
    (mA_Texts___init__ : PySem.W.findIn K (.ref TX) "__init__" = some (some (.ref f13)))
    (mF_Texts___init__ : PySem.W.isFn K (.ref f13) = true)
    (mK_Texts___init__ : PySem.W.keepIn K (.ref TX) = true)
    (cRd_Texts : PySem.W.readsIn K TX (.type "type") = true)
    (cGa_Texts : PySem.W.specialIn K (.ref TX) "__getattribute__" = some (some (.builtin "type.__getattribute__")))
    (mA_Texts_of : PySem.W.findCls K (.ref TX) (.type "type") "of" = some (.get (.builtin "classmethod.__get__") (.ref pp_Texts_of) .none (.ref TX)))
    (mR_Texts_of : PySem.W.recIn K pp_Texts_of "classmethod" = some (.ref f14 :: rr_Texts_of))
    (mN_Texts_of : PySem.W.fnIn K f14 = true)
    (mA_Texts___eq__ : PySem.W.findIn K (.ref TX) "__eq__" = some (some (.ref f15)))
    (mF_Texts___eq__ : PySem.W.isFn K (.ref f15) = true)
    (mA_Texts___contains__ : PySem.W.findIn K (.ref TX) "__contains__" = some (some (.ref f17)))
    (mF_Texts___contains__ : PySem.W.isFn K (.ref f17) = true)
    (Sf_Texts : PySem.W.selfFirst K TX = true)
    (mA_Texts___floordiv__ : PySem.W.findIn K (.ref TX) "__floordiv__" = some (some (.ref f16)))
    (mF_Texts___floordiv__ : PySem.W.isFn K (.ref f16) = true)
    (rh0 : PySem.W.findIn K (.ref TX) "__rfloordiv__" = some none)
    (tt1 : PySem.W.findIn K (.type "tuple") "__floordiv__" = some none)
    (tt2 : PySem.W.findIn K (.type "tuple") "__rfloordiv__" = some none)
    (tt3 : PySem.W.subIn K (.type "tuple") (.ref TX) = some false)
    (l13 : K.lookup f13 = some ⟨oc13, od13, .func (PySem.W.fnOf "__init__" "Texts.__init__" (defArgs s_Texts___init__) (defBody s_Texts___init__) (defScope s_Texts___init__) .none kV13 dc13 pm13 an13 cd13 ct13), sl13⟩)
    (c13 : PySem.W.codeIn K cd13 "Texts.__init__" = true)
    (k13 : PySem.W.keepIn K (.ref f13) = true)
    (l14 : K.lookup f14 = some ⟨oc14, od14, .func (PySem.W.fnOf "of" "Texts.of" (defArgs s_Texts_of) (defBody s_Texts_of) (defScope s_Texts_of) .none kV14 dc14 pm14 an14 cd14 ct14), sl14⟩)
    (c14 : PySem.W.codeIn K cd14 "Texts.of" = true)
    (k14 : PySem.W.keepIn K (.ref f14) = true)
    (l15 : K.lookup f15 = some ⟨oc15, od15, .func (PySem.W.fnOf "__eq__" "Texts.__eq__" (defArgs s_Texts___eq__) (defBody s_Texts___eq__) (defScope s_Texts___eq__) .none kV15 dc15 pm15 an15 cd15 ct15), sl15⟩)
    (c15 : PySem.W.codeIn K cd15 "Texts.__eq__" = true)
    (k15 : PySem.W.keepIn K (.ref f15) = true)
    (l16 : K.lookup f16 = some ⟨oc16, od16, .func (PySem.W.fnOf "__floordiv__" "Texts.__floordiv__" (defArgs s_Texts___floordiv__) (defBody s_Texts___floordiv__) (defScope s_Texts___floordiv__) .none kV16 dc16 pm16 an16 cd16 ct16), sl16⟩)
    (c16 : PySem.W.codeIn K cd16 "Texts.__floordiv__" = true)
    (k16 : PySem.W.keepIn K (.ref f16) = true)
    (l17 : K.lookup f17 = some ⟨oc17, od17, .func (PySem.W.fnOf "__contains__" "Texts.__contains__" (defArgs s_Texts___contains__) (defBody s_Texts___contains__) (defScope s_Texts___contains__) .none kV17 dc17 pm17 an17 cd17 ct17), sl17⟩)
    (c17 : PySem.W.codeIn K cd17 "Texts.__contains__" = true)
    (k17 : PySem.W.keepIn K (.ref f17) = true)
    : ∃ fd : FuncData, (∀ (s : Shared) (v : Value), BindsTo s fd ⟨[v], []⟩ [("_law_script", v)]) ∧ ∀ base : Heap, K.In base → base.Ns mainGlobals mg → FnOk l.prog w K mg base (L2.CX l.prog w) 7 fa fd ["_law_script"] (toSp l.prog w K sp_law) := by
  have e := hfa.symm.trans (PySem.W.mg_of X G a31)
  cases e
  refine ⟨PySem.W.fnOf "law" "law" (defArgs s_law) (defBody s_law) (defScope s_law) .none kV31 dc31 pm31 an31 cd31 ct31, fun s v => .of_eq rfl, fun base _ _ => ?_⟩
  have B : Bl mg := ⟨PySem.W.mg_none_of X G z_tuple, PySem.W.mg_none_of X G z_list, PySem.W.mg_none_of X G z_len, PySem.W.mg_none_of X G z_any, PySem.W.mg_none_of X G z_all, PySem.W.mg_none_of X G z_range, PySem.W.mg_none_of X G z_zip, PySem.W.mg_none_of X G z_isinstance, PySem.W.mg_none_of X G z_str, PySem.W.mg_none_of X G z_sorted, PySem.W.mg_none_of X G z_set, PySem.W.mg_none_of X G z_dict, PySem.W.mg_none_of X G z_max, PySem.W.mg_none_of X G z_min, PySem.W.mg_none_of X G z_abs, PySem.W.mg_none_of X G z_int, PySem.W.mg_none_of X G z_bool, PySem.W.mg_none_of X G z_sum, PySem.W.mg_none_of X G z_repr, PySem.W.mg_none_of X G z_enumerate⟩
  have g_MOST_LETTERS : GI mg "MOST_LETTERS" 8 := ⟨_, PySem.W.mg_of X G n_MOST_LETTERS⟩
  have g_LETTERS : GS mg "LETTERS" "abcdefghijklmnopqrstuvwxyz" := ⟨_, PySem.W.mg_of X G n_LETTERS⟩
  have g_MOST_WORDS : GI mg "MOST_WORDS" 20 := ⟨_, PySem.W.mg_of X G n_MOST_WORDS⟩
  have g_MOST_STATES : GI mg "MOST_STATES" 100 := ⟨_, PySem.W.mg_of X G n_MOST_STATES⟩
  have tc : TxC K TX p_Texts_own_words p_Texts_own_rows := ⟨⟨Pg_Texts, Ic_Texts, Po_Texts, Sa_Texts⟩, ⟨sA_Texts_own_words, sG_Texts_own_words, sT_Texts_own_words, sY_Texts_own_words, sI_Texts_own_words, by decide⟩, ⟨sA_Texts_own_rows, sG_Texts_own_rows, sT_Texts_own_rows, sY_Texts_own_rows, sI_Texts_own_rows, by decide⟩⟩
  have F0 := fun_mk (st := s_is_integer) l0 c0 k0
  have b0 := F0.binds (ps := ["value", "least", "most"]) fun _ _ _ _ _ _ us hl => match us, hl with | [_, _, _], _ => rfl
  have d_is_integer : Def l.prog w K mg base "is_integer" 1 sp_is_integer := ⟨f0, PySem.W.mg_of X G a0, k0, ok_is_integer F0 b0 B⟩
  have F1 := fun_mk (st := s_is_word) l1 c1 k1
  have b1 := F1.binds (ps := ["value"]) fun _ _ _ _ _ _ us hl => match us, hl with | [_], _ => rfl
  have d_is_word : Def l.prog w K mg base "is_word" 1 sp_is_word := ⟨f1, PySem.W.mg_of X G a1, k1, ok_is_word F1 b1 B g_MOST_LETTERS g_LETTERS⟩
  have F2 := fun_mk (st := s_is_text) l2 c2 k2
  have b2 := F2.binds (ps := ["value"]) fun _ _ _ _ _ _ us hl => match us, hl with | [_], _ => rfl
  have d_is_text : Def l.prog w K mg base "is_text" 2 sp_is_text := ⟨f2, PySem.W.mg_of X G a2, k2, ok_is_text F2 b2 B d_is_word⟩
  have F3 := fun_mk (st := s_is_rising) l3 c3 k3
  have b3 := F3.binds (ps := ["values"]) fun _ _ _ _ _ _ us hl => match us, hl with | [_], _ => rfl
  have d_is_rising : Def l.prog w K mg base "is_rising" 1 sp_is_rising := ⟨f3, PySem.W.mg_of X G a3, k3, ok_is_rising F3 b3 B⟩
  have F4 := fun_mk (st := s_is_words) l4 c4 k4
  have b4 := F4.binds (ps := ["value", "most"]) fun _ _ _ _ _ _ us hl => match us, hl with | [_, _], _ => rfl
  have d_is_words : Def l.prog w K mg base "is_words" 3 sp_is_words := ⟨f4, PySem.W.mg_of X G a4, k4, ok_is_words F4 b4 B d_is_text d_is_rising⟩
  have F5 := fun_mk (st := s_is_row) l5 c5 k5
  have b5 := F5.binds (ps := ["row", "many", "count"]) fun _ _ _ _ _ _ us hl => match us, hl with | [_, _, _], _ => rfl
  have d_is_row : Def l.prog w K mg base "is_row" 2 sp_is_row := ⟨f5, PySem.W.mg_of X G a5, k5, ok_is_row F5 b5 B d_is_integer⟩
  have F6 := fun_mk (st := s_is_rows) l6 c6 k6
  have b6 := F6.binds (ps := ["rows", "many", "most"]) fun _ _ _ _ _ _ us hl => match us, hl with | [_, _, _], _ => rfl
  have d_is_rows : Def l.prog w K mg base "is_rows" 3 sp_is_rows := ⟨f6, PySem.W.mg_of X G a6, k6, ok_is_rows F6 b6 B d_is_row⟩
  have F7 := fun_mk (st := s_column_of) l7 c7 k7
  have b7 := F7.binds (ps := ["words", "word"]) fun _ _ _ _ _ _ us hl => match us, hl with | [_, _], _ => rfl
  have d_column_of : Def l.prog w K mg base "column_of" 1 sp_column_of := ⟨f7, PySem.W.mg_of X G a7, k7, ok_column_of F7 b7 ⟩
  have F8 := fun_mk (st := s_goal_of) l8 c8 k8
  have b8 := F8.binds (ps := ["row", "column"]) fun _ _ _ _ _ _ us hl => match us, hl with | [_, _], _ => rfl
  have d_goal_of : Def l.prog w K mg base "goal_of" 1 sp_goal_of := ⟨f8, PySem.W.mg_of X G a8, k8, ok_goal_of F8 b8 ⟩
  have F9 := fun_mk (st := s_state_behind) l9 c9 k9
  have b9 := F9.binds (ps := ["words", "rows", "text"]) fun _ _ _ _ _ _ us hl => match us, hl with | [_, _, _], _ => rfl
  have d_state_behind : Def l.prog w K mg base "state_behind" 2 sp_state_behind := ⟨f9, PySem.W.mg_of X G a9, k9, ok_state_behind F9 b9 d_column_of d_goal_of⟩
  have F10 := fun_mk (st := s_reached) l10 c10 k10
  have b10 := F10.binds (ps := ["columns", "rows", "first"]) fun _ _ _ _ _ _ us hl => match us, hl with | [_, _, _], _ => rfl
  have d_reached : Def l.prog w K mg base "reached" 2 sp_reached := ⟨f10, PySem.W.mg_of X G a10, k10, ok_reached F10 b10 B d_goal_of⟩
  have F11 := fun_mk (st := s_blocks_of) l11 c11 k11
  have b11 := F11.binds (ps := ["rows"]) fun _ _ _ _ _ _ us hl => match us, hl with | [_], _ => rfl
  have d_blocks_of : Def l.prog w K mg base "blocks_of" 1 sp_blocks_of := ⟨f11, PySem.W.mg_of X G a11, k11, ok_blocks_of F11 b11 B⟩
  have F12 := fun_mk (st := s_least_machine) l12 c12 k12
  have b12 := F12.binds (ps := ["words", "rows", "first"]) fun _ _ _ _ _ _ us hl => match us, hl with | [_, _, _], _ => rfl
  have d_least_machine : Def l.prog w K mg base "least_machine" 3 sp_least_machine := ⟨f12, PySem.W.mg_of X G a12, k12, ok_least_machine F12 b12 B d_reached d_blocks_of⟩
  have F13 := fun_mk (st := s_Texts___init__) l13 c13 k13
  have b13 := F13.binds (ps := ["self", "words", "rows"]) fun _ _ _ _ _ _ us hl => match us, hl with | [_, _, _], _ => rfl
  have m13 : FnA l.prog w K mg base 1 f13 (sp_Texts_init TX) := ok_Texts_init F13 b13 tc
  have F14 := fun_mk (st := s_Texts_of) l14 c14 k14
  have b14 := F14.binds (ps := ["cls", "words", "rows"]) fun _ _ _ _ _ _ us hl => match us, hl with | [_, _, _], _ => rfl
  have m14 : FnA l.prog w K mg base 4 f14 (sp_Texts_of TX) := ok_Texts_of F14 b14 B ⟨mM_Texts___init__, mA_Texts___init__, mF_Texts___init__, mK_Texts___init__⟩ m13 g_MOST_WORDS g_MOST_STATES d_is_words d_is_rows d_least_machine
  have F15 := fun_mk (st := s_Texts___eq__) l15 c15 k15
  have b15 := F15.binds (ps := ["self", "other"]) fun _ _ _ _ _ _ us hl => match us, hl with | [_, _], _ => rfl
  have m15 : FnA l.prog w K mg base 2 f15 (sp_Texts_eq TX) := ok_Texts_eq F15 b15 B tc ⟨Ja_Texts, Jn, Jt, Jm_Texts⟩ (PySem.W.mg_of X G A_Texts)
  have F16 := fun_mk (st := s_Texts___floordiv__) l16 c16 k16
  have b16 := F16.binds (ps := ["self", "other"]) fun _ _ _ _ _ _ us hl => match us, hl with | [_, _], _ => rfl
  have m16 : FnA l.prog w K mg base 4 f16 (sp_Texts_fdiv TX) := ok_Texts_fdiv F16 b16 B tc ⟨mM_Texts___init__, mA_Texts___init__, mF_Texts___init__, mK_Texts___init__⟩ (PySem.W.mg_of X G A_Texts) m13 d_is_text d_state_behind d_least_machine
  have F17 := fun_mk (st := s_Texts___contains__) l17 c17 k17
  have b17 := F17.binds (ps := ["self", "value"]) fun _ _ _ _ _ _ us hl => match us, hl with | [_, _], _ => rfl
  have m17 : FnA l.prog w K mg base 3 f17 (sp_Texts_in TX) := ok_Texts_in F17 b17 B tc d_is_text d_state_behind
  have TL : TxL l.prog w K mg base TX p_Texts_own_words p_Texts_own_rows _ _ _ _ _ (.type "type") none := ⟨tc, ⟨Ja_Texts, Jn, Jt, Jm_Texts⟩, (PySem.W.mg_of X G A_Texts), ⟨cRd_Texts, cGa_Texts⟩, ⟨mA_Texts_of, ⟨_, mR_Texts_of⟩, mN_Texts_of⟩, m14, mA_Texts___eq__, mF_Texts___eq__, m15, mA_Texts___contains__, mF_Texts___contains__, m17, Sf_Texts, mA_Texts___floordiv__, mF_Texts___floordiv__, m16, rh0, .inl rfl, tt1, tt2, tt3⟩
  have F18 := fun_mk (st := s__law_pot) l18 c18 k18
  have b18 := F18.binds (ps := ["_law_script", "_law_k"]) fun _ _ _ _ _ _ us hl => match us, hl with | [_, _], _ => rfl
  have d__law_pot : Def l.prog w K mg base "_law_pot" 1 sp_pot := ⟨f18, PySem.W.mg_of X G a18, k18, ok_pot F18 b18 B⟩
  have F19 := fun_mk (st := s__law_take) l19 c19 k19
  have b19 := F19.binds (ps := ["_law_pot_here", "_law_upto"]) fun _ _ _ _ _ _ us hl => match us, hl with | [_, _], _ => rfl
  have d__law_take : Def l.prog w K mg base "_law_take" 1 sp_take := ⟨f19, PySem.W.mg_of X G a19, k19, ok_take F19 b19 B⟩
  have F20 := fun_mk (st := s__law_of) l20 c20 k20
  have b20 := F20.binds (ps := ["_law_pot_here", "_law_some"]) fun _ _ _ _ _ _ us hl => match us, hl with | [_, _], _ => rfl
  have d__law_of : Def l.prog w K mg base "_law_of" 2 sp_of := ⟨f20, PySem.W.mg_of X G a20, k20, ok_of F20 b20 B d__law_take⟩
  have F21 := fun_mk (st := s__law_word) l21 c21 k21
  have b21 := F21.binds (ps := ["_law_pot_here"]) fun _ _ _ _ _ _ us hl => match us, hl with | [_], _ => rfl
  have d__law_word : Def l.prog w K mg base "_law_word" 3 sp_word := ⟨f21, PySem.W.mg_of X G a21, k21, ok_word F21 b21 B d__law_take d__law_of⟩
  have F22 := fun_mk (st := s__law_names) l22 c22 k22
  have b22 := F22.binds (ps := ["_law_pot_here", "_law_many"]) fun _ _ _ _ _ _ us hl => match us, hl with | [_, _], _ => rfl
  have d__law_names : Def l.prog w K mg base "_law_names" 4 sp_names := ⟨f22, PySem.W.mg_of X G a22, k22, ok_names F22 b22 B d__law_take d__law_word⟩
  have F23 := fun_mk (st := s__law_strange) l23 c23 k23
  have b23 := F23.binds (ps := ["_law_words", "_law_many"]) fun _ _ _ _ _ _ us hl => match us, hl with | [_, _], _ => rfl
  have d__law_strange : Def l.prog w K mg base "_law_strange" 1 sp_strange := ⟨f23, PySem.W.mg_of X G a23, k23, ok_strange F23 b23 B⟩
  have F24 := fun_mk (st := s__law_machine) l24 c24 k24
  have b24 := F24.binds (ps := ["_law_pot_here", "_law_names_here", "_law_most"]) fun _ _ _ _ _ _ us hl => match us, hl with | [_, _, _], _ => rfl
  have d__law_machine : Def l.prog w K mg base "_law_machine" 2 sp_machine := ⟨f24, PySem.W.mg_of X G a24, k24, ok_machine F24 b24 B d__law_take⟩
  have F25 := fun_mk (st := s__law_goal) l25 c25 k25
  have b25 := F25.binds (ps := ["_law_machine_here", "_law_state", "_law_word_here"]) fun _ _ _ _ _ _ us hl => match us, hl with | [_, _, _], _ => rfl
  have d__law_goal : Def l.prog w K mg base "_law_goal" 1 sp_lgoal := ⟨f25, PySem.W.mg_of X G a25, k25, ok_lgoal F25 b25 ⟩
  have F26 := fun_mk (st := s__law_behind) l26 c26 k26
  have b26 := F26.binds (ps := ["_law_machine_here", "_law_text"]) fun _ _ _ _ _ _ us hl => match us, hl with | [_, _], _ => rfl
  have d__law_behind : Def l.prog w K mg base "_law_behind" 2 sp_behind := ⟨f26, PySem.W.mg_of X G a26, k26, ok_behind F26 b26 d__law_goal⟩
  have F27 := fun_mk (st := s__law_row) l27 c27 k27
  have b27 := F27.binds (ps := ["_law_pot_here", "_law_words", "_law_most"]) fun _ _ _ _ _ _ us hl => match us, hl with | [_, _, _], _ => rfl
  have d__law_row : Def l.prog w K mg base "_law_row" 3 sp_row := ⟨f27, PySem.W.mg_of X G a27, k27, ok_row F27 b27 B d__law_take d__law_of⟩
  have F28 := fun_mk (st := s__law_texts) l28 c28 k28
  have b28 := F28.binds (ps := ["_law_words", "_law_most"]) fun _ _ _ _ _ _ us hl => match us, hl with | [_, _], _ => rfl
  have d__law_texts : Def l.prog w K mg base "_law_texts" 1 sp_texts := ⟨f28, PySem.W.mg_of X G a28, k28, ok_texts F28 b28 B⟩
  have F29 := fun_mk (st := s__law_from) l29 c29 k29
  have b29 := F29.binds (ps := ["_law_machine_here", "_law_state"]) fun _ _ _ _ _ _ us hl => match us, hl with | [_, _], _ => rfl
  have d__law_from : Def l.prog w K mg base "_law_from" 1 sp_from := ⟨f29, PySem.W.mg_of X G a29, k29, ok_from F29 b29 B⟩
  have F30 := fun_mk (st := s__law_right) l30 c30 k30
  have b30 := F30.binds (ps := ["_law_pot_here"]) fun _ _ _ _ _ _ us hl => match us, hl with | [_], _ => rfl
  have d__law_right : Def l.prog w K mg base "_law_right" 6 sp_right := ⟨f30, PySem.W.mg_of X G a30, k30, ok_right F30 b30 B TL d__law_take d__law_names d__law_machine d__law_strange d__law_row d__law_from d__law_behind d__law_texts⟩
  exact ok_law (fun_mk (st := s_law) l31 c31 k31) B d__law_pot d__law_right
theorem walkL {l : PySem.W.OpenLaw} {q : Program} {loose : List Str} {XP : (Str → Option Value) → Heap → Prop} {YP : World → Heap → Prop} {d : DefRec} {K : Params → PySem.W.Frag} (hn : l.most = some 63) (hdf : d.params.defaults = [])
    (hY : ∀ (w : World) (h : Heap), YP w h → (K w.params).In h)
    (F : ∀ (w : World) (mg : Str → Option Value) (fa : Addr) (h : Heap), (K w.params).In h → h.Ns mainGlobals mg → mg d.name = some (.ref fa) →
      ∃ fd : FuncData, (∀ (s : Shared) (u : Value), BindsTo s fd ⟨[u], []⟩ [("_law_script", u)]) ∧ ∀ base : Heap, (K w.params).In base → base.Ns mainGlobals mg → FnOk l.prog w (K w.params) mg base (L2.CX l.prog w) 7 fa fd ["_law_script"] (toSp l.prog w (K w.params) sp_law)) :
    PySem.W.WalkO q loose XP YP l.row.toRowW d [] (fun f vs => PySem.call f vs) :=
  L2.walk_of (n := 63) (k := 7) (x := "_law_script") (CX := fun w => L2.CX l.prog w) (sp := fun w => toSp l.prog w (K w.params) sp_law) hn (by decide) hdf ⟨rfl, by decide, by decide⟩ hY F (fun w H a ns _ hO hS => law_sp hO hS fun Q R q => ⟨ns, rfl, q⟩) fun w H s e s2 z => law_cx z
end K
open PySem PySem.W PyProof.Rows in
set_option maxRecDepth 100000 in
set_option maxHeartbeats 0 in
theorem PySem.Challenge.cw_widenedwords_k24_what_may_stand_behind_holds : PySem.Challenge.rw_widenedwords_k24_what_may_stand_behind.Holds := by
  w_on; o_law; k_head; (case hw => w_witness2)
  k_fill
  refine K.walkL (l := PySem.Challenge.rw_widenedwords_k24_what_may_stand_behind) rfl rfl (fun w h Y => PySem.W.kIn_of Y) ?F
  case F =>
    intro w mg fa h KX G hmg
    refine' K.all_mk KX G hmg ?a0 ?l0 ?c0 ?k0 ?a1 ?l1 ?c1 ?k1 ?a2 ?l2 ?c2 ?k2 ?a3 ?l3 ?c3 ?k3 ?a4 ?l4 ?c4 ?k4 ?a5 ?l5 ?c5 ?k5 ?a6 ?l6 ?c6 ?k6 ?a7 ?l7 ?c7 ?k7 ?a8 ?l8 ?c8 ?k8 ?a9 ?l9 ?c9 ?k9 ?a10 ?l10 ?c10 ?k10 ?a11 ?l11 ?c11 ?k11 ?a12 ?l12 ?c12 ?k12 ?a18 ?l18 ?c18 ?k18 ?a19 ?l19 ?c19 ?k19 ?a20 ?l20 ?c20 ?k20 ?a21 ?l21 ?c21 ?k21 ?a22 ?l22 ?c22 ?k22 ?a23 ?l23 ?c23 ?k23 ?a24 ?l24 ?c24 ?k24 ?a25 ?l25 ?c25 ?k25 ?a26 ?l26 ?c26 ?k26 ?a27 ?l27 ?c27 ?k27 ?a28 ?l28 ?c28 ?k28 ?a29 ?l29 ?c29 ?k29 ?a30 ?l30 ?c30 ?k30 ?a31 ?l31 ?c31 ?k31 ?n_MOST_LETTERS ?n_LETTERS ?n_MOST_WORDS ?n_MOST_STATES ?z_tuple ?z_list ?z_len ?z_any ?z_all ?z_range ?z_zip ?z_isinstance ?z_str ?z_sorted ?z_set ?z_dict ?z_max ?z_min ?z_abs ?z_int ?z_bool ?z_sum ?z_repr ?z_enumerate ?A_Texts ?Pg_Texts ?Ic_Texts ?Po_Texts ?Sa_Texts ?sA_Texts_own_rows ?sG_Texts_own_rows ?sT_Texts_own_rows ?sY_Texts_own_rows ?sI_Texts_own_rows ?sA_Texts_own_words ?sG_Texts_own_words ?sT_Texts_own_words ?sY_Texts_own_words ?sI_Texts_own_words ?Ja_Texts ?Jn ?Jt ?Jm_Texts ?mM_Texts___init__ ?mA_Texts___init__ ?mF_Texts___init__ ?mK_Texts___init__ ?cRd_Texts ?cGa_Texts ?mA_Texts_of ?mR_Texts_of ?mN_Texts_of ?mA_Texts___eq__ ?mF_Texts___eq__ ?mA_Texts___contains__ ?mF_Texts___contains__ ?Sf_Texts ?mA_Texts___floordiv__ ?mF_Texts___floordiv__ ?rh0 ?tt1 ?tt2 ?tt3 ?l13 ?c13 ?k13 ?l14 ?c14 ?k14 ?l15 ?c15 ?k15 ?l16 ?c16 ?k16 ?l17 ?c17 ?k17
    (case a0 => k_is)
    (case l0 => k_is)
    (case c0 => k_is)
    (case k0 => k_is)
    (case a1 => k_is)
    (case l1 => k_is)
    (case c1 => k_is)
    (case k1 => k_is)
    (case a2 => k_is)
    (case l2 => k_is)
    (case c2 => k_is)
    (case k2 => k_is)
    (case a3 => k_is)
    (case l3 => k_is)
    (case c3 => k_is)
    (case k3 => k_is)
    (case a4 => k_is)
    (case l4 => k_is)
    (case c4 => k_is)
    (case k4 => k_is)
    (case a5 => k_is)
    (case l5 => k_is)
    (case c5 => k_is)
    (case k5 => k_is)
    (case a6 => k_is)
    (case l6 => k_is)
    (case c6 => k_is)
    (case k6 => k_is)
    (case a7 => k_is)
    (case l7 => k_is)
    (case c7 => k_is)
    (case k7 => k_is)
    (case a8 => k_is)
    (case l8 => k_is)
    (case c8 => k_is)
    (case k8 => k_is)
    (case a9 => k_is)
    (case l9 => k_is)
    (case c9 => k_is)
    (case k9 => k_is)
    (case a10 => k_is)
    (case l10 => k_is)
    (case c10 => k_is)
    (case k10 => k_is)
    (case a11 => k_is)
    (case l11 => k_is)
    (case c11 => k_is)
    (case k11 => k_is)
    (case a12 => k_is)
    (case l12 => k_is)
    (case c12 => k_is)
    (case k12 => k_is)
    (case a18 => k_is)
    (case l18 => k_is)
    (case c18 => k_is)
    (case k18 => k_is)
    (case a19 => k_is)
    (case l19 => k_is)
    (case c19 => k_is)
    (case k19 => k_is)
    (case a20 => k_is)
    (case l20 => k_is)
    (case c20 => k_is)
    (case k20 => k_is)
    (case a21 => k_is)
    (case l21 => k_is)
    (case c21 => k_is)
    (case k21 => k_is)
    (case a22 => k_is)
    (case l22 => k_is)
    (case c22 => k_is)
    (case k22 => k_is)
    (case a23 => k_is)
    (case l23 => k_is)
    (case c23 => k_is)
    (case k23 => k_is)
    (case a24 => k_is)
    (case l24 => k_is)
    (case c24 => k_is)
    (case k24 => k_is)
    (case a25 => k_is)
    (case l25 => k_is)
    (case c25 => k_is)
    (case k25 => k_is)
    (case a26 => k_is)
    (case l26 => k_is)
    (case c26 => k_is)
    (case k26 => k_is)
    (case a27 => k_is)
    (case l27 => k_is)
    (case c27 => k_is)
    (case k27 => k_is)
    (case a28 => k_is)
    (case l28 => k_is)
    (case c28 => k_is)
    (case k28 => k_is)
    (case a29 => k_is)
    (case l29 => k_is)
    (case c29 => k_is)
    (case k29 => k_is)
    (case a30 => k_is)
    (case l30 => k_is)
    (case c30 => k_is)
    (case k30 => k_is)
    (case a31 => k_is)
    (case l31 => k_is)
    (case c31 => k_is)
    (case k31 => k_is)
    (case n_MOST_LETTERS => k_is)
    (case n_LETTERS => k_is)
    (case n_MOST_WORDS => k_is)
    (case n_MOST_STATES => k_is)
    (case z_tuple => k_is)
    (case z_list => k_is)
    (case z_len => k_is)
    (case z_any => k_is)
    (case z_all => k_is)
    (case z_range => k_is)
    (case z_zip => k_is)
    (case z_isinstance => k_is)
    (case z_str => k_is)
    (case z_sorted => k_is)
    (case z_set => k_is)
    (case z_dict => k_is)
    (case z_max => k_is)
    (case z_min => k_is)
    (case z_abs => k_is)
    (case z_int => k_is)
    (case z_bool => k_is)
    (case z_sum => k_is)
    (case z_repr => k_is)
    (case z_enumerate => k_is)
    (case A_Texts => k_is)
    (case Pg_Texts => k_is)
    (case Ic_Texts => k_is)
    (case Po_Texts => k_is)
    (case Sa_Texts => k_is)
    (case sA_Texts_own_rows => k_is)
    (case sG_Texts_own_rows => k_is)
    (case sT_Texts_own_rows => k_is)
    (case sY_Texts_own_rows => k_is)
    (case sI_Texts_own_rows => k_is)
    (case sA_Texts_own_words => k_is)
    (case sG_Texts_own_words => k_is)
    (case sT_Texts_own_words => k_is)
    (case sY_Texts_own_words => k_is)
    (case sI_Texts_own_words => k_is)
    (case Ja_Texts => k_is)
    (case Jn => k_is)
    (case Jt => k_is)
    (case Jm_Texts => k_is)
    (case mM_Texts___init__ => k_is)
    (case mA_Texts___init__ => k_is)
    (case mF_Texts___init__ => k_is)
    (case mK_Texts___init__ => k_is)
    (case cRd_Texts => k_is)
    (case cGa_Texts => k_is)
    (case mA_Texts_of => k_is)
    (case mR_Texts_of => k_is)
    (case mN_Texts_of => k_is)
    (case mA_Texts___eq__ => k_is)
    (case mF_Texts___eq__ => k_is)
    (case mA_Texts___contains__ => k_is)
    (case mF_Texts___contains__ => k_is)
    (case Sf_Texts => k_is)
    (case mA_Texts___floordiv__ => k_is)
    (case mF_Texts___floordiv__ => k_is)
    (case rh0 => k_is)
    (case tt1 => k_is)
    (case tt2 => k_is)
    (case tt3 => k_is)
    (case l13 => k_is)
    (case c13 => k_is)
    (case k13 => k_is)
    (case l14 => k_is)
    (case c14 => k_is)
    (case k14 => k_is)
    (case l15 => k_is)
    (case c15 => k_is)
    (case k15 => k_is)
    (case l16 => k_is)
    (case c16 => k_is)
    (case k16 => k_is)
    (case l17 => k_is)
    (case c17 => k_is)
    (case k17 => k_is)
