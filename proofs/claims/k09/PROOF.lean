import PyProof.Rows.All
import Wide.All
import OpenK.AllK
import Wide.FinOn
import HandS.ForMost
import HandS.Exc
import HandS.ExcOwn
import HandS.WordsExc
import HandS.CallSlots
import HandS.Slots
import HandS.Set
import HandS.TupAny
import HandS.IsInst
import HandS.Wide
import HandS.Flow
import HandS.Style
import HandS.More
import HandS.Zip
import KE.SortData
import PyProof.ListStr
import PyProof.StrOps2
import HandS.DictComp
import HandS.TupLen
import KE.KDictKeyed
import KE.KDictSum
import PyProof.Transfer
import HandS.SetFor
import HandS.SetTxt0
import HandS.Strs
import HandS.Star
import HandS.SlotsOwn
import HandS.Defaults
import OpenK.KMeth
import KE.KOpsOwn
import KE.KFmtOwn
import HandS.OwnEq
import KE.KSuper
import OpenK.KDescr
import HandS.ExcInit
import HandS.ExcField
import HandS.TryMany
import KE.KDictWalk
import HandS.SetBool
import PyProof.FactsAll.subtypes_4
import PyProof.WalksMore
import HandS.Ends
import PyProof.ReprRoads
import PyProof.ReprBulk
import PyProof.Rows.ReprShort
import PyProof.DictDisplay
import PyProof.NeKinds
import HandS.Rev
import HandS.TupMul
import HandS.Codes
import HandS.ExcIs
import PySem.Challenge.RW_widenedwords_k09_values_that_are_no_text
set_option Elab.async false
set_option linter.all false
set_option maxRecDepth 100000
namespace DL
open PySem PySem.Spec PyProof.Rows L2

/-! ### data -/
inductive D where
  | non | bl (b : Bool) | int (i : Int) | str (x : Str) | ty (n : String) | ptr (a : Addr) | ilst (ns : List Int) | tup (ds : List D)
  /-- an instance of a class with slots, a list, a dict that nobody writes any more -/
  | obj (C : Addr) (fs : List D) | flst (ds : List D) | fdct (kds : List (List Key × D)) | kdct (kds : List (Key × D))

/-- a text that is not too long, of real signs -/
structure SOk (x : Str) : Prop where
  len : x.length ≤ sizeLine
  sgn : PyData.strOk x = true
theorem SOk.mem {x : Str} (h : SOk x) {k : Nat} (hk : k ∈ x.cps.toList) : k < 0x110000 := by
  have := h.sgn
  unfold PyData.strOk at this
  rw [← Array.all_toList, List.all_eq_true] at this
  exact of_decide_eq_true (this k hk)
theorem SOk.of {x : Str} (h : x.length ≤ sizeLine) (hk : ∀ k ∈ x.cps.toList, k < 0x110000) : SOk x := by
  refine ⟨h, ?_⟩
  unfold PyData.strOk
  rw [← Array.all_toList, List.all_eq_true]
  exact fun k hh => decide_eq_true (hk k hh)

/-- a list of the module's written part -/
def Kl (K : PySem.W.Frag) (a : Addr) (xs : List V) : Prop :=
  ∃ (o : Obj) (its : Array Value) (n : Nat), K.lookup a = some o ∧ o.cls = .type "list" ∧ o.dict = none ∧ o.data = .seq its n ∧ its.size ≤ sizeLine ∧ Vals xs its.toList

/-! ### sets of texts, raw -/
def txOf (e : Int × Value) : Str := match e.2 with | .str k _ => k | _ => Str.empty
def TxE (w : World) (e : Int × Value) : Prop := ∃ k tk, e.2 = Value.str k tk ∧ e.1 = hashStr w k
/-- the set at a: S its texts, n their number; it can be walked -/
def SetX (w : World) (h : Heap) (a : Addr) (S : Str → Bool) (n : Nat) : Prop :=
  ∃ o es ep t, h.get? a = some o ∧ o.ExactSet ∧ o.data = .set es ep t ∧ (∀ e ∈ es.toList, TxE w e) ∧ (es.toList.map txOf).Nodup ∧ (∀ k, S k = true ↔ k ∈ es.toList.map txOf) ∧
    es.size < scanBound ∧ t.fits es.size = true ∧ es.size = n ∧ Ris t.place.toList ∧ (w.params.followText "set-order" = true ∨ t.led = true)

/-! ### the store: mutable objects by address -/
inductive MO where
  | lst (ds : List D)
  | dct (kds : List (List Key × D))
  | ins (C : Addr) (fs : List (Option D))
  | set (S : Key → Bool) (n : Nat)
  | txs (S : Str → Bool) (n : Nat)
  | kd (kds : List (Key × D))
abbrev Lp := Addr → Option MO
def put (L : Lp) (a : Addr) (o : MO) : Lp := fun b => if b = a then some o else L b
theorem put_same {L : Lp} {a : Addr} {o : MO} : put L a o a = some o := if_pos rfl
theorem put_ne {L : Lp} {a b : Addr} {o : MO} (h : b ≠ a) : put L a o b = L b := if_neg h
theorem put_put {L : Lp} {a : Addr} {o u : MO} : put (put L a o) a u = put L a u := by
  funext b
  unfold put
  split <;> rfl
theorem put_comm {L : Lp} {a b : Addr} {o u : MO} (h : a ≠ b) : put (put L a o) b u = put (put L b u) a o := by
  funext c
  unfold put
  by_cases h1 : c = b
  · rw [if_pos h1, if_neg (fun e => h (e.symm.trans h1)), if_pos h1]
  · rw [if_neg h1, if_neg h1]
theorem put_self {L : Lp} {a : Addr} {o : MO} (h : L a = some o) : put L a o = L := by
  funext b
  unfold put
  by_cases e : b = a
  · rw [if_pos e, e, h]
  · rw [if_neg e]
theorem ne_of_free {L : Lp} {a b : Addr} {o : MO} (h : L a = some o) (h' : L b = none) : a ≠ b := fun e => by
  rw [e, h'] at h
  cases h

/-- a key of real texts -/
structure KOk (k : List Key) : Prop where
  len : k.length ≤ sizeLine
  txt : ∀ x, Sum.inr x ∈ k → SOk x
/-- what nobody writes any more -/
abbrev Fz := Addr → Prop
inductive Rep (K : PySem.W.Frag) (F : Fz) (H : Hp) : V → D → Prop where
  | non : Rep K F H .non .non
  | bl (b : Bool) : Rep K F H (.bl b) (.bl b)
  | int (i : Int) : Rep K F H (.int i) (.int i)
  | str (x : Str) (h : SOk x) : Rep K F H (.str x) (.str x)
  | ty (n : String) : Rep K F H (.ty n) (.ty n)
  | ptr (a : Addr) : Rep K F H (.ref a) (.ptr a)
  | ilst {a : Addr} {ns : List Int} (h : (∃ o, H a = some (.frz o (.lst (ns.map V.int)))) ∨ Kl K a (ns.map V.int)) : Rep K F H (.ref a) (.ilst ns)
  | tup {a : Addr} {vs : List V} {ds : List D} (h : H a = some (.tup vs)) (hz : vs.length ≤ sizeLine) (hl : vs.length = ds.length) (hi : ∀ (i : Nat) (v : V) (d : D), vs[i]? = some v → ds[i]? = some d → Rep K F H v d) : Rep K F H (.ref a) (.tup ds)
  | obj {a C dx : Addr} {us : List (Option V)} {vs : List V} {ds : List D} (hl : F a) (h : H a = some (SlX.SlO a C dx us)) (hx : H dx = some (.xd [])) (hu : ∀ (i : Nat) (v : V), vs[i]? = some v → us[i]? = some (some v)) (hn : vs.length = ds.length) (hi : ∀ (i : Nat) (v : V) (d : D), vs[i]? = some v → ds[i]? = some d → Rep K F H v d) : Rep K F H (.ref a) (.obj C ds)
  | flst {a : Addr} {vs : List V} {ds : List D} (hl : F a) (h : H a = some (.lst vs)) (hz : vs.length ≤ sizeLine) (hn : vs.length = ds.length) (hi : ∀ (i : Nat) (v : V) (d : D), vs[i]? = some v → ds[i]? = some d → Rep K F H v d) : Rep K F H (.ref a) (.flst ds)
  | fdct {a : Addr} {kvs : List (List Key × V)} {kds : List (List Key × D)} {o : Obj} (hl : F a) (h : H a = some (.frz o (.dT kvs))) (hk : ∀ q ∈ kds, KOk q.1) (hn : kvs.length = kds.length) (he : ∀ (i : Nat) (v : List Key × V) (d : List Key × D), kvs[i]? = some v → kds[i]? = some d → v.1 = d.1) (hi : ∀ (i : Nat) (v : List Key × V) (d : List Key × D), kvs[i]? = some v → kds[i]? = some d → Rep K F H v.2 d.2) : Rep K F H (.ref a) (.fdct kds)
  | kdct {a : Addr} {kvs : List (Key × V)} {kds : List (Key × D)} {o : Obj} (hl : F a) (h : H a = some (.frz o (.dK kvs))) (hn : kvs.length = kds.length) (he : ∀ (i : Nat) (v : Key × V) (d : Key × D), kvs[i]? = some v → kds[i]? = some d → v.1 = d.1) (hi : ∀ (i : Nat) (v : Key × V) (d : Key × D), kvs[i]? = some v → kds[i]? = some d → Rep K F H v.2 d.2) : Rep K F H (.ref a) (.kdct kds)

/-- tuples and known things stay -/
structure Stay (H H' : Hp) : Prop where
  tup : ∀ a vs, H a = some (.tup vs) → H' a = some (.tup vs)
  frz : ∀ a o xs, H a = some (.frz o (.lst xs)) → H' a = some (.frz o (.lst xs))
  xd : ∀ a, H a = some (.xd []) → H' a = some (.xd [])
theorem Stay.refl (H : Hp) : Stay H H := ⟨fun _ _ h => h, fun _ _ _ h => h, fun _ h => h⟩
theorem Stay.trans {H H1 H2 : Hp} (a : Stay H H1) (b : Stay H1 H2) : Stay H H2 := ⟨fun c v h => b.tup c v (a.tup c v h), fun c o u h => b.frz c o u (a.frz c o u h), fun c h => b.xd c (a.xd c h)⟩

/-- from (L, F, H) to (L', F', H') -/
structure Fr (L : Lp) (F : Fz) (H : Hp) (L' : Lp) (F' : Fz) (H' : Hp) : Prop where
  keep : ∀ a o, H a = some o → (∀ y, o ≠ .own y) → L a = none → H' a = some o
  live : ∀ a, H a ≠ none → H' a ≠ none
  stay : Stay H H'
  dom : ∀ a, L' a ≠ none → L a ≠ none ∨ H a = none
  fz : ∀ a, F a → F' a
  fk : ∀ a o, F a → H a = some o → H' a = some o
  off : ∀ a, F' a → F a ∨ L a ≠ none ∨ H a = none
theorem Fr.refl (L : Lp) {F : Fz} (H : Hp) : Fr L F H L F H := ⟨fun _ _ h _ _ => h, fun _ h => h, .refl H, fun _ h => .inl h, fun _ h => h, fun _ _ _ h => h, fun _ h => .inl h⟩
theorem Fr.trans {L L1 L2 : Lp} {F F1 F2 : Fz} {H H1 H2 : Hp} (a : Fr L F H L1 F1 H1) (b : Fr L1 F1 H1 L2 F2 H2) : Fr L F H L2 F2 H2 := by
  have dn : ∀ c, H1 c = none → H c = none := fun c z => by
    cases e : H c with
    | none => rfl
    | some o => exact absurd z (a.live c (by rw [e]; simp))
  refine ⟨fun c o h q n => ?_, fun c h => b.live c (a.live c h), a.stay.trans b.stay, fun c h => ?_, fun c h => b.fz c (a.fz c h), fun c o h e => b.fk c o (a.fz c h) (a.fk c o h e), fun c h => ?_⟩
  · refine b.keep c o (a.keep c o h q n) q ?_
    cases e : L1 c with
    | none => rfl
    | some u =>
      rcases a.dom c (by rw [e]; simp) with z | z
      · exact absurd n z
      · rw [h] at z
        cases z
  · rcases b.dom c h with z | z
    · exact a.dom c z
    · exact .inr (dn c z)
  · rcases b.off c h with z | z | z
    · exact a.off c z
    · exact .inr (a.dom c z)
    · exact .inr (.inr (dn c z))
theorem upd_live {H : Hp} {p a : Addr} {o : HO} (h : H a ≠ none) : upd H p o a ≠ none := by
  by_cases e : a = p
  · rw [e, upd_same]; simp
  · rw [upd_ne e]; exact h
/-- forgetting -/
def Le (L L' : Lp) : Prop := ∀ a o, L a = some o → L' a = some o
theorem Le.refl (L : Lp) : Le L L := fun _ _ h => h
theorem Le.trans {L L1 L2 : Lp} (a : Le L L1) (b : Le L1 L2) : Le L L2 := fun x o h => b x o (a x o h)
theorem Le.ne {L L' : Lp} (h : Le L L') {a : Addr} (n : L a ≠ none) : L' a ≠ none := by
  cases e : L a with
  | none => exact absurd e n
  | some o =>
    rw [h a o e]
    simp
theorem Le.none {L L' : Lp} (h : Le L L') {a : Addr} (n : L' a = none) : L a = none := by
  cases e : L a with
  | none => rfl
  | some o =>
    rw [h a o e] at n
    cases n
theorem le_put {L : Lp} {a : Addr} {o : MO} (h : L a = none) : Le L (put L a o) := fun b u e => by
  rw [put_ne (ne_of_free e h)]
  exact e
/-- what data need -/
structure Mv (F : Fz) (H : Hp) (F' : Fz) (H' : Hp) : Prop where
  stay : Stay H H'
  fz : ∀ a, F a → F' a
  fk : ∀ a o, F a → H a = some o → H' a = some o
theorem Fr.mv {L L' : Lp} {F F' : Fz} {H H' : Hp} (f : Fr L F H L' F' H') : Mv F H F' H' := ⟨f.stay, f.fz, f.fk⟩
instance frMv {L L' : Lp} {F F' : Fz} {H H' : Hp} : CoeOut (Fr L F H L' F' H') (Mv F H F' H') := ⟨Fr.mv⟩
theorem Rep.mono {K : PySem.W.Frag} {F F' : Fz} {H H' : Hp} (s : Mv F H F' H') {v : V} {d : D} (r : Rep K F H v d) : Rep K F' H' v d := by
  induction r with
  | non => exact .non
  | bl b => exact .bl b
  | int i => exact .int i
  | str x h => exact .str x h
  | ty n => exact .ty n
  | ptr a => exact .ptr a
  | ilst h =>
    refine .ilst ?_
    rcases h with ⟨o, h⟩ | h
    · exact .inl ⟨o, s.stay.frz _ _ _ h⟩
    · exact .inr h
  | tup h hz hl hi ih => exact .tup (s.stay.tup _ _ h) hz hl ih
  | obj hl h hx hu hn hi ih => exact .obj (s.fz _ hl) (s.fk _ _ hl h) (s.stay.xd _ hx) hu hn ih
  | flst hl h hz hn hi ih => exact .flst (s.fz _ hl) (s.fk _ _ hl h) hz hn ih
  | fdct hl h hk hn he hi ih => exact .fdct (s.fz _ hl) (s.fk _ _ hl h) hk hn he ih
  | kdct hl h hn he hi ih => exact .kdct (s.fz _ hl) (s.fk _ _ hl h) hn he ih
abbrev Reps (K : PySem.W.Frag) (F : Fz) (H : Hp) : List V → List D → Prop := Paired (Rep K F H)
theorem Reps.mono {K : PySem.W.Frag} {F F' : Fz} {H H' : Hp} (s : Mv F H F' H') : ∀ {vs : List V} {ds : List D}, Reps K F H vs ds → Reps K F' H' vs ds
  | _, _, .nil => .nil
  | _, _, .cons r t => .cons (r.mono s) (Reps.mono s t)
theorem Reps.length {K : PySem.W.Frag} {F : Fz} {H : Hp} {vs : List V} {ds : List D} (r : Reps K F H vs ds) : vs.length = ds.length := Paired.length r
theorem Reps.get : ∀ {K : PySem.W.Frag} {F : Fz} {H : Hp} {vs : List V} {ds : List D} {i : Nat} {d : D}, Reps K F H vs ds → ds[i]? = some d → ∃ v, vs[i]? = some v ∧ Rep K F H v d
  | _, _, _, _, _, _, _, .nil, e => by simp at e
  | _, _, _, _, _, 0, _, .cons r _, e => by simp at e; subst e; exact ⟨_, rfl, r⟩
  | K, _, H, _, _, i + 1, d, .cons _ t, e => by
    obtain ⟨v, h1, h2⟩ := Reps.get (i := i) (d := d) t (by simpa using e)
    exact ⟨v, by simpa using h1, h2⟩
theorem Reps.getV : ∀ {K : PySem.W.Frag} {F : Fz} {H : Hp} {vs : List V} {ds : List D} {i : Nat} {v : V}, Reps K F H vs ds → vs[i]? = some v → ∃ d, ds[i]? = some d ∧ Rep K F H v d
  | _, _, _, _, _, _, _, .nil, e => by simp at e
  | _, _, _, _, _, 0, _, .cons r _, e => by simp at e; subst e; exact ⟨_, rfl, r⟩
  | K, _, H, _, _, i + 1, v, .cons _ t, e => by
    obtain ⟨d, h1, h2⟩ := Reps.getV (i := i) (v := v) t (by simpa using e)
    exact ⟨d, by simpa using h1, h2⟩
theorem Reps.of_get : ∀ {K : PySem.W.Frag} {F : Fz} {H : Hp} {vs : List V} {ds : List D}, vs.length = ds.length → (∀ (i : Nat) (v : V) (d : D), vs[i]? = some v → ds[i]? = some d → Rep K F H v d) → Reps K F H vs ds
  | _, _, _, [], [], _, _ => .nil
  | _, _, _, [], _ :: _, h, _ => by simp at h
  | _, _, _, _ :: _, [], h, _ => by simp at h
  | K, _, H, v :: vs, d :: ds, h, hi => .cons (hi 0 v d rfl rfl) (Reps.of_get (by simpa using h) fun i x y h1 h2 => hi (i + 1) x y (by simpa using h1) (by simpa using h2))
theorem Reps.append : ∀ {K : PySem.W.Frag} {F : Fz} {H : Hp} {vs ws : List V} {ds es : List D}, Reps K F H vs ds → Reps K F H ws es → Reps K F H (vs ++ ws) (ds ++ es)
  | _, _, _, _, _, _, _, .nil, s => s
  | _, _, _, _, _, _, _, .cons r t, s => .cons r (Reps.append t s)
theorem Reps.take : ∀ {K : PySem.W.Frag} {F : Fz} {H : Hp} {vs : List V} {ds : List D} (n : Nat), Reps K F H vs ds → Reps K F H (vs.take n) (ds.take n)
  | _, _, _, _, _, 0, _ => .nil
  | _, _, _, _, _, _ + 1, .nil => .nil
  | _, _, _, _, _, n + 1, .cons r t => .cons r (Reps.take n t)
theorem Reps.drop : ∀ {K : PySem.W.Frag} {F : Fz} {H : Hp} {vs : List V} {ds : List D} (n : Nat), Reps K F H vs ds → Reps K F H (vs.drop n) (ds.drop n)
  | _, _, _, _, _, 0, r => r
  | _, _, _, _, _, _ + 1, .nil => .nil
  | _, _, _, _, _, n + 1, .cons _ t => Reps.drop n t
theorem Reps.set {K : PySem.W.Frag} {F : Fz} {H : Hp} {v : V} {d : D} (r : Rep K F H v d) : ∀ {vs : List V} {ds : List D} (i : Nat), Reps K F H vs ds → Reps K F H (vs.set i v) (ds.set i d)
  | _, _, _, .nil => .nil
  | _, _, 0, .cons _ t => .cons r t
  | _, _, i + 1, .cons q t => .cons q (Reps.set r i t)
theorem Rep.tupI {K : PySem.W.Frag} {F : Fz} {H : Hp} {a : Addr} {vs : List V} {ds : List D} (h : H a = some (.tup vs)) (r : Reps K F H vs ds) (hz : ds.length ≤ sizeLine) : Rep K F H (.ref a) (.tup ds) :=
  .tup h (by rw [r.length]; exact hz) r.length fun i v d h1 h2 => by
    obtain ⟨d', e, q⟩ := r.getV h1
    rw [h2] at e
    cases e
    exact q
theorem Rep.tupE {K : PySem.W.Frag} {F : Fz} {H : Hp} {v : V} {ds : List D} (r : Rep K F H v (.tup ds)) : ∃ a vs, v = .ref a ∧ H a = some (.tup vs) ∧ Reps K F H vs ds := by
  cases r with
  | tup h hz hl hi => exact ⟨_, _, rfl, h, Reps.of_get hl hi⟩
/-- sizes -/
def Bnd : D → Prop
  | .str x => SOk x
  | .tup ds => ds.length ≤ sizeLine
  | _ => True
theorem Rep.bnd {K : PySem.W.Frag} {F : Fz} {H : Hp} {v : V} {d : D} (r : Rep K F H v d) : Bnd d := by
  cases r with
  | str x h => exact h
  | tup h hz hl hi =>
    show _ ≤ _
    rw [← hl]
    exact hz
  | _ => exact True.intro
theorem Rep.intE {K : PySem.W.Frag} {F : Fz} {H : Hp} {v : V} {i : Int} (r : Rep K F H v (.int i)) : v = .int i := by cases r; rfl
theorem Rep.blE {K : PySem.W.Frag} {F : Fz} {H : Hp} {v : V} {b : Bool} (r : Rep K F H v (.bl b)) : v = .bl b := by cases r; rfl
theorem Rep.strE {K : PySem.W.Frag} {F : Fz} {H : Hp} {v : V} {x : Str} (r : Rep K F H v (.str x)) : v = .str x := by cases r; rfl
theorem Rep.nonE {K : PySem.W.Frag} {F : Fz} {H : Hp} {v : V} (r : Rep K F H v .non) : v = .non := by cases r; rfl
theorem Rep.ptrE {K : PySem.W.Frag} {F : Fz} {H : Hp} {v : V} {a : Addr} (r : Rep K F H v (.ptr a)) : v = .ref a := by cases r; rfl
theorem Rep.tyE {K : PySem.W.Frag} {F : Fz} {H : Hp} {v : V} {n : String} (r : Rep K F H v (.ty n)) : v = .ty n := by cases r; rfl
theorem Rep.ilstE {K : PySem.W.Frag} {F : Fz} {H : Hp} {v : V} {ns : List Int} (r : Rep K F H v (.ilst ns)) : ∃ a, v = .ref a ∧ SqL K H a (ns.map V.int) := by
  cases r with
  | ilst h =>
    refine ⟨_, rfl, ?_⟩
    rcases h with ⟨o, h⟩ | h
    · exact .inl (.inr ⟨o, h⟩)
    · exact .inr h

def SlotR (K : PySem.W.Frag) (F : Fz) (H : Hp) (vs : List (Option V)) (fs : List (Option D)) : Prop := ∀ (i : Nat) (d : D), fs[i]? = some (some d) → ∃ v, vs[i]? = some (some v) ∧ Rep K F H v d
/-- what stands at a -/
def At (P : Program) (w : World) (K : PySem.W.Frag) (F : Fz) (H : Hp) (a : Addr) : MO → Prop
  | .lst ds => ∃ vs, H a = some (.lst vs) ∧ Reps K F H vs ds ∧ ds.length ≤ sizeLine
  | .dct kds => ∃ kvs, H a = some (.dT kvs) ∧ Paired (fun (p : List Key × V) (q : List Key × D) => p.1 = q.1 ∧ Rep K F H p.2 q.2) kvs kds ∧ ∀ q ∈ kds, KOk q.1
  | .ins C fs => ∃ dx vs, SlX.Slt H a C dx vs ∧ SlotR K F H vs fs
  | .set S n => H a = some (.ext fun h => h.SetOf (mixKind P w) a S n)
  | .txs S n => H a = some (.ext fun h => SetX w h a S n) ∧ ∀ k, S k = true → SOk k
  | .kd kds => ∃ kvs, H a = some (.dK kvs) ∧ Paired (fun (p : Key × V) (q : Key × D) => p.1 = q.1 ∧ Rep K F H p.2 q.2) kvs kds
theorem Paired.mono {α β : Type} {F G : α → β → Prop} : ∀ {l1 : List α} {l2 : List β}, Paired F l1 l2 → (∀ a b, F a b → G a b) → Paired G l1 l2
  | _, _, .nil, _ => .nil
  | _, _, .cons r t, f => .cons (f _ _ r) (Paired.mono t f)
theorem SlotR.mono {K : PySem.W.Frag} {F F' : Fz} {H H' : Hp} {vs : List (Option V)} {fs : List (Option D)} (s : Mv F H F' H') (r : SlotR K F H vs fs) : SlotR K F' H' vs fs := fun i d e => by
  obtain ⟨v, h1, h2⟩ := r i d e
  exact ⟨v, h1, h2.mono s⟩
theorem At.mono {P : Program} {w : World} {K : PySem.W.Frag} {F F' : Fz} {H H' : Hp} {a : Addr} {o : MO} (x : At P w K F H a o) (s : Mv F H F' H') (e : H' a = H a) : At P w K F' H' a o := by
  cases o with
  | lst ds =>
    obtain ⟨vs, h, r, z⟩ := x
    exact ⟨vs, e.trans h, r.mono s, z⟩
  | dct kds =>
    obtain ⟨kvs, h, r, z⟩ := x
    exact ⟨kvs, e.trans h, Paired.mono r fun p q z => ⟨z.1, z.2.mono s⟩, z⟩
  | ins C fs =>
    obtain ⟨dx, vs, h, r⟩ := x
    refine ⟨dx, vs, ?_, r.mono s⟩
    rcases h with ⟨h, h2⟩ | ⟨h, hd⟩
    · exact .inl ⟨e.trans h, h2⟩
    · exact .inr ⟨e.trans h, s.stay.xd _ hd⟩
  | set S n => exact e.trans x
  | txs S n => exact ⟨e.trans x.1, x.2⟩
  | kd kds =>
    obtain ⟨kvs, h, r⟩ := x
    exact ⟨kvs, e.trans h, Paired.mono r fun p q z => ⟨z.1, z.2.mono s⟩⟩
theorem At.some {P : Program} {w : World} {K : PySem.W.Frag} {F : Fz} {H : Hp} {a : Addr} {o : MO} (x : At P w K F H a o) : ∃ u, H a = some u ∧ (∀ vs, u ≠ .tup vs) ∧ (∀ z y, u ≠ .frz z y) ∧ u ≠ .xd [] := by
  cases o with
  | lst ds =>
    obtain ⟨vs, h, r, z⟩ := x
    exact ⟨_, h, fun _ z => (nomatch z), fun _ _ z => (nomatch z), fun z => (nomatch z)⟩
  | dct kds =>
    obtain ⟨kvs, h, r, z⟩ := x
    exact ⟨_, h, fun _ z => (nomatch z), fun _ _ z => (nomatch z), fun z => (nomatch z)⟩
  | ins C fs =>
    obtain ⟨dx, vs, h, r⟩ := x
    rcases h with ⟨h, h2⟩ | ⟨h, hd⟩
    · exact ⟨_, h, fun _ z => (nomatch z), fun _ _ z => (nomatch z), fun z => (nomatch z)⟩
    · refine ⟨_, h, fun _ z => ?_, fun _ _ z => ?_, fun z => ?_⟩ <;> (unfold SlX.SlO at z; cases z)
  | set S n => exact ⟨_, x, fun _ z => (nomatch z), fun _ _ z => (nomatch z), fun z => (nomatch z)⟩
  | txs S n => exact ⟨_, x.1, fun _ z => (nomatch z), fun _ _ z => (nomatch z), fun z => (nomatch z)⟩
  | kd kds =>
    obtain ⟨kvs, h, r⟩ := x
    exact ⟨_, h, fun _ z => (nomatch z), fun _ _ z => (nomatch z), fun z => (nomatch z)⟩

/-- the store is held; what is frozen stands apart -/
structure Con (P : Program) (w : World) (K : PySem.W.Frag) (L : Lp) (F : Fz) (H : Hp) : Prop where
  at_ : ∀ a o, L a = some o → At P w K F H a o
  fz : ∀ a, F a → L a = none ∧ ∃ o, H a = some o ∧ (∀ y, o ≠ .own y) ∧ o ≠ .xd []
section
variable {P : Program} {w : World} {K : PySem.W.Frag} {L L' : Lp} {F F' : Fz} {H : Hp} {p : Addr} {o : HO} {mo mo' : MO}
theorem Con.free (c : Con P w K L F H) {a : Addr} (h : H a = none) : L a = none := by
  cases e : L a with
  | none => rfl
  | some o =>
    obtain ⟨u, q, _⟩ := (c.at_ a o e).some
    rw [h] at q
    cases q
theorem Con.nf (c : Con P w K L F H) (h : H p = none) : ¬ F p := fun z => by
  obtain ⟨_, o, e, _⟩ := c.fz p z
  rw [h] at e
  cases e
theorem Con.nw (c : Con P w K L F H) (h : L p = some mo) : ¬ F p := fun z => by
  rw [(c.fz p z).1] at h
  cases h
theorem Con.le (c : Con P w K L' F H) (h : Le L L') : Con P w K L F H := ⟨fun a o e => c.at_ a o (h a o e), fun a z => ⟨h.none (c.fz a z).1, (c.fz a z).2⟩⟩
theorem Fr.leR {L L1 L2 : Lp} {F F1 : Fz} {H H1 : Hp} (f : Fr L F H L1 F1 H1) (h : Le L2 L1) : Fr L F H L2 F1 H1 := ⟨f.keep, f.live, f.stay, fun a n => f.dom a (h.ne n), f.fz, f.fk, f.off⟩
theorem Fr.leL {L L1 L2 : Lp} {F F1 : Fz} {H H1 : Hp} (f : Fr L F H L1 F1 H1) (h : Le L L2) : Fr L2 F H L1 F1 H1 := ⟨fun a o e q n => f.keep a o e q (h.none n), f.live, f.stay, fun a n => (f.dom a n).imp (fun z => h.ne z) id, f.fz, f.fk, fun a z => (f.off a z).imp id (Or.imp (fun z => h.ne z) id)⟩

/-- a new object laid: a tuple (not in the store) -/
theorem Stay.new {H : Hp} {p : Addr} {o : HO} (h : H p = none) : Stay H (upd H p o) :=
  ⟨fun a vs e => by rw [upd_ne (ne_of_none e h)]; exact e, fun a ob u e => by rw [upd_ne (ne_of_none e h)]; exact e, fun a e => by rw [upd_ne (ne_of_none e h)]; exact e⟩
theorem Fr.new (h : H p = none) : Fr L F H L F (upd H p o) :=
  ⟨fun a u e _ _ => by rw [upd_ne (ne_of_none e h)]; exact e, fun a z => upd_live z, .new h, fun _ z => .inl z, fun _ z => z, fun a u _ e => by rw [upd_ne (ne_of_none e h)]; exact e, fun _ z => .inl z⟩
theorem Mv.new (h : H p = none) : Mv F H F (upd H p o) := ⟨.new h, fun _ z => z, fun a u _ e => by rw [upd_ne (ne_of_none e h)]; exact e⟩
theorem Con.new (c : Con P w K L F H) (h : H p = none) : Con P w K L F (upd H p o) := ⟨fun a u e => by
  obtain ⟨x, q, _⟩ := (c.at_ a u e).some
  exact (c.at_ a u e).mono (Mv.new h) (upd_ne (ne_of_none q h)), fun a z => by
  obtain ⟨n, u, e, q⟩ := c.fz a z
  exact ⟨n, u, by rw [upd_ne (ne_of_none e h)]; exact e, q⟩⟩
/-- .. one that goes into the store -/
theorem Fr.newL (h : H p = none) : Fr L F H (put L p mo) F (upd H p o) :=
  ⟨fun a u e _ _ => by rw [upd_ne (ne_of_none e h)]; exact e, fun a z => upd_live z, .new h, fun a z => by
    by_cases e : a = p
    · exact .inr (by rw [e]; exact h)
    · rw [put_ne e] at z
      exact .inl z, fun _ z => z, fun a u _ e => by rw [upd_ne (ne_of_none e h)]; exact e, fun _ z => .inl z⟩
theorem Con.newL (c : Con P w K L F H) (h : H p = none) (x : At P w K F (upd H p o) p mo) : Con P w K (put L p mo) F (upd H p o) := ⟨fun a u e => by
  by_cases ep : a = p
  · subst ep
    rw [put_same] at e
    cases e
    exact x
  · rw [put_ne ep] at e
    exact (c.new h).at_ a u e, fun a z => by
  have ep : a ≠ p := fun e => c.nf h (e ▸ z)
  rw [put_ne ep]
  exact (c.new h).fz a z⟩
/-- an object of the store is written -/
theorem Stay.write (x : At P w K F H p mo) : Stay H (upd H p o) := by
  obtain ⟨u, h, n1, n2, n3⟩ := x.some
  refine ⟨fun a vs e => ?_, fun a ob z e => ?_, fun a e => ?_⟩
  · rw [upd_ne (fun q => by rw [q, h] at e; exact n1 vs (Option.some.inj e))]; exact e
  · rw [upd_ne (fun q => by rw [q, h] at e; exact n2 _ _ (Option.some.inj e))]; exact e
  · rw [upd_ne (fun q => by rw [q, h] at e; exact n3 (Option.some.inj e))]; exact e
theorem Mv.write (c : Con P w K L F H) (h : L p = some mo) : Mv F H F (upd H p o) := ⟨.write (c.at_ p mo h), fun _ z => z, fun a u z e => by
  have ea : a ≠ p := fun q => c.nw h (q ▸ z)
  rw [upd_ne ea]; exact e⟩
theorem Mv.trans {F F1 F2 : Fz} {H H1 H2 : Hp} (a : Mv F H F1 H1) (b : Mv F1 H1 F2 H2) : Mv F H F2 H2 := ⟨a.stay.trans b.stay, fun c h => b.fz c (a.fz c h), fun c o h e => b.fk c o (a.fz c h) (a.fk c o h e)⟩
theorem Fr.write (c : Con P w K L F H) (h : L p = some mo) : Fr L F H (put L p mo') F (upd H p o) :=
  ⟨fun a u e _ n => by rw [upd_ne (fun q => by rw [q, h] at n; cases n)]; exact e, fun a z => upd_live z, .write (c.at_ p mo h), fun a z => by
    by_cases e : a = p
    · exact .inl (by rw [e, h]; simp)
    · rw [put_ne e] at z
      exact .inl z, fun _ z => z, fun a u z e => by
    have ea : a ≠ p := fun q => c.nw h (q ▸ z)
    rw [upd_ne ea]; exact e, fun _ z => .inl z⟩
theorem Con.write (c : Con P w K L F H) (h : L p = some mo) (x : At P w K F (upd H p o) p mo') : Con P w K (put L p mo') F (upd H p o) := ⟨fun a u e => by
  by_cases ep : a = p
  · subst ep
    rw [put_same] at e
    cases e
    exact x
  · rw [put_ne ep] at e
    exact (c.at_ a u e).mono (Mv.write c h) (upd_ne ep), fun a z => by
  have ep : a ≠ p := fun e => c.nw h (e ▸ z)
  rw [put_ne ep, upd_ne ep]
  exact c.fz a z⟩
end

/-! ### slots -/
abbrev Gm := List (Option D)
structure Sl (K : PySem.W.Frag) (F : Fz) (H : Hp) (σ : L2.St) (Γ : Gm) : Prop where
  len : σ.length = Γ.length
  get : ∀ (i : Nat) (d : D), Γ[i]? = some (some d) → ∃ v, σ[i]? = some (some v) ∧ Rep K F H v d
theorem Sl.mono {K : PySem.W.Frag} {F F' : Fz} {H H' : Hp} {σ : L2.St} {Γ : Gm} (x : Sl K F H σ Γ) (s : Mv F H F' H') : Sl K F' H' σ Γ := ⟨x.len, fun i d e => by
  obtain ⟨v, h, r⟩ := x.get i d e
  exact ⟨v, h, r.mono s⟩⟩
theorem Sl.set {K : PySem.W.Frag} {F : Fz} {H : Hp} {σ : L2.St} {Γ : Gm} (x : Sl K F H σ Γ) (i : Nat) {v : V} {d : D} (r : Rep K F H v d) : Sl K F H (σ.set i (some v)) (Γ.set i (some d)) := by
  refine ⟨by simpa using x.len, fun j d' e => ?_⟩
  by_cases h : j = i
  · subst h
    by_cases hl : j < Γ.length
    · rw [List.getElem?_set_self hl] at e
      cases e
      exact ⟨v, List.getElem?_set_self (by rw [x.len]; exact hl), r⟩
    · rw [List.getElem?_eq_none (by simp; omega)] at e
      cases e
  · rw [List.getElem?_set_ne (Ne.symm h)] at e
    rw [List.getElem?_set_ne (Ne.symm h)]
    exact x.get j d' e
theorem Sl.forget {K : PySem.W.Frag} {F : Fz} {H : Hp} {σ : L2.St} {Γ Γ' : Gm} (x : Sl K F H σ Γ) (hl : Γ'.length = Γ.length) (h : ∀ (i : Nat) (d : D), Γ'[i]? = some (some d) → Γ[i]? = some (some d)) : Sl K F H σ Γ' :=
  ⟨x.len.trans hl.symm, fun i d e => x.get i d (h i d e)⟩
end DL
namespace DL
open PySem PySem.Spec PyProof.Rows L2

/-! ### the meanings themselves as readings -/
section
variable {X : Cx} {σ : L2.St} {H : Hp}
structure WE (X : Cx) (e : Expr) (σ : L2.St) (H : Hp) (Q : VK) : Prop where
  run : ∀ (pins : List (Addr × Obj)) (s : Shared), Inv X pins σ H s → wpAny (model X.prog X.w) X.A (eval e X.env) (EP X pins σ Q) X.xe s
structure WT (X : Cx) (e : Expr) (σ : L2.St) (H : Hp) (Q : Bool → Hp → Prop) : Prop where
  run : ∀ (pins : List (Addr × Obj)) (s : Shared), Inv X pins σ H s → wpAny (model X.prog X.w) X.A (isTrue e X.env (eval e X.env)) (TP X pins σ Q) X.xe s
structure WA (X : Cx) (es : List Expr) (σ : L2.St) (H : Hp) (Q : List V → Hp → Prop) : Prop where
  run : ∀ (pos : Pos) (pins : List (Addr × Obj)) (s : Shared), Inv X pins σ H s → wpAny (model X.prog X.w) X.A (spliced (backTo pos (starEach es X.env))) (AP X pins σ Q) X.xe s
structure WSs (X : Cx) (st : List Stmt) (D : Ends) (σ : L2.St) (H : Hp) : Prop where
  run : ∀ (pins : List (Addr × Obj)) (s : Shared), Inv X pins σ H s → wpAny (model X.prog X.w) X.A (execs st X.env) (SP X pins D) X.xe s
structure WS (X : Cx) (st : Stmt) (D : Ends) (σ : L2.St) (H : Hp) : Prop where
  run : ∀ (pins : List (Addr × Obj)) (s : Shared), Inv X pins σ H s → wpAny (model X.prog X.w) X.A (exec st X.env) (SP X pins D) X.xe s
theorem pe_we {e : Expr} : PE X e (WE X e) := ⟨fun pins s σ H Q I h => h.run pins s I⟩
theorem pt_we {e : Expr} : PT X e (WT X e) := ⟨fun pins s σ H Q I h => h.run pins s I⟩
theorem pa_we {es : List Expr} : PA X es (WA X es) := ⟨fun pos pins s σ H Q I h => h.run pos pins s I⟩
theorem ps_we {st : Stmt} : PS X st (WS X st) := ⟨fun pins s σ H D I h => h.run pins s I⟩
theorem pss_we {st : List Stmt} : PSs X st (WSs X st) := ⟨fun pins s σ H D I h => h.run pins s I⟩
theorem we_of {e : Expr} {t : TE} {Q : VK} (h : PE X e t) (q : t σ H Q) : WE X e σ H Q := ⟨fun pins s I => h.run pins s σ H Q I q⟩
theorem wt_of {e : Expr} {t : TT} {Q : Bool → Hp → Prop} (h : PT X e t) (q : t σ H Q) : WT X e σ H Q := ⟨fun pins s I => h.run pins s σ H Q I q⟩
theorem wa_of {es : List Expr} {t : TA} {Q : List V → Hp → Prop} (h : PA X es t) (q : t σ H Q) : WA X es σ H Q := ⟨fun pos pins s I => h.run pos pins s σ H Q I q⟩
theorem ws_of {st : Stmt} {t : TS} {D : Ends} (h : PS X st t) (q : t D σ H) : WS X st D σ H := ⟨fun pins s I => h.run pins s σ H D I q⟩
theorem wss_of {st : List Stmt} {t : TS} {D : Ends} (h : PSs X st t) (q : t D σ H) : WSs X st D σ H := ⟨fun pins s I => h.run pins s σ H D I q⟩
end

/-! ### the context, and what is known -/
structure Ctx where
  X : Cx
  W : WX
  R : Gm → Value → List (Str × D) → Lp → Prop
  tk : Takes X W
  po : PassesOwn (model X.prog X.w) X.A X.env X.xe
  calm : X.calm = true
  nd : X.N.Nodup
abbrev Ctx.Con (C : Ctx) (L : Lp) (F : Fz) (H : Hp) : Prop := DL.Con C.X.prog C.X.w C.X.K L F H
/-- the exception's own dict -/
def XdAt (K : PySem.W.Frag) (F : Fz) (H : Hp) (d : Addr) (fs : List (Str × D)) : Prop := ∃ fvs, H d = some (.xd fvs) ∧ Paired (fun (p : Str × V) (q : Str × D) => p.1 = q.1 ∧ Rep K F H p.2 q.2) fvs fs
structure LinkR (C : Ctx) (L : Lp) (F : Fz) (H : Hp) : Prop where
  of : ∀ {F'} cls d σ' H' Γ' L' fs, Sl C.X.K F' H' σ' Γ' → C.Con L' F' H' → Fr L F H L' F' H' → XdAt C.X.K F' H' d fs → C.R Γ' cls fs L' → C.W cls (some d) σ' H'
structure Ok (C : Ctx) (Γ : Gm) (L : Lp) (F : Fz) (σ : L2.St) (H : Hp) : Prop where
  sl : Sl C.X.K F H σ Γ
  con : C.Con L F H
  lr : LinkR C L F H
theorem LinkR.step {C : Ctx} {L L' : Lp} {F F' : Fz} {H H' : Hp} (x : LinkR C L F H) (f : Fr L F H L' F' H') : LinkR C L' F' H' := ⟨fun cls d σ' H2 Γ' L2 fs s c f2 xd r => x.of cls d σ' H2 Γ' L2 fs s c (f.trans f2) xd r⟩
theorem Ok.step {C : Ctx} {Γ : Gm} {L L' : Lp} {σ : L2.St} {F F' : Fz} {H H' : Hp} (x : Ok C Γ L F σ H) (c : C.Con L' F' H') (f : Fr L F H L' F' H') : Ok C Γ L' F' σ H' := ⟨x.sl.mono f.mv, c, x.lr.step f⟩
theorem Ok.le {C : Ctx} {Γ : Gm} {L L' : Lp} {σ : L2.St} {F : Fz} {H : Hp} (x : Ok C Γ L F σ H) (h : Le L' L) : Ok C Γ L' F σ H := ⟨x.sl, x.con.le h, ⟨fun cls d σ' H2 Γ' L2 fs s c f2 xd r => x.lr.of cls d σ' H2 Γ' L2 fs s c (f2.leL h) xd r⟩⟩

def Go (C : Ctx) (L : Lp) (F : Fz) (H : Hp) (Q : D → Lp → Prop) (QV : VK) : Prop := ∀ {F'} v d H' L', Rep C.X.K F' H' v d → C.Con L' F' H' → Fr L F H L' F' H' → Q d L' → QV v H'
def GoT (C : Ctx) (L : Lp) (F : Fz) (H : Hp) (Q : Bool → Lp → Prop) (QV : Bool → Hp → Prop) : Prop := ∀ {F'} b H' L', C.Con L' F' H' → Fr L F H L' F' H' → Q b L' → QV b H'
def GoA (C : Ctx) (L : Lp) (F : Fz) (H : Hp) (Q : List D → Lp → Prop) (QV : List V → Hp → Prop) : Prop := ∀ {F'} vs ds H' L', Reps C.X.K F' H' vs ds → C.Con L' F' H' → Fr L F H L' F' H' → Q ds L' → QV vs H'
theorem Go.after {C : Ctx} {L L' : Lp} {F F' : Fz} {H H' : Hp} {Q : D → Lp → Prop} {QV : VK} (g : Go C L F H Q QV) (f : Fr L F H L' F' H') : Go C L' F' H' Q QV := fun v d H2 L2 r c f2 q => g v d H2 L2 r c (f.trans f2) q
theorem GoT.after {C : Ctx} {L L' : Lp} {F F' : Fz} {H H' : Hp} {Q : Bool → Lp → Prop} {QV : Bool → Hp → Prop} (g : GoT C L F H Q QV) (f : Fr L F H L' F' H') : GoT C L' F' H' Q QV := fun v H2 L2 c f2 q => g v H2 L2 c (f.trans f2) q
theorem GoA.after {C : Ctx} {L L' : Lp} {F F' : Fz} {H H' : Hp} {Q : List D → Lp → Prop} {QV : List V → Hp → Prop} (g : GoA C L F H Q QV) (f : Fr L F H L' F' H') : GoA C L' F' H' Q QV := fun v d H2 L2 r c f2 q => g v d H2 L2 r c (f.trans f2) q

structure AEnds where
  nx : Gm → Lp → Prop
  rt : D → Lp → Prop
  bk : Gm → Lp → Prop := fun _ _ => False
  ct : Gm → Lp → Prop := fun _ _ => False
structure GoS (C : Ctx) (L : Lp) (F : Fz) (H : Hp) (E : AEnds) (DD : Ends) : Prop where
  nx : ∀ {F'} σ' H' Γ' L', Ok C Γ' L' F' σ' H' → Fr L F H L' F' H' → E.nx Γ' L' → DD.nx σ' H'
  rt : ∀ {F'} v d H' L', Rep C.X.K F' H' v d → C.Con L' F' H' → Fr L F H L' F' H' → E.rt d L' → DD.rt v H'
  bk : ∀ {F'} σ' H' Γ' L', Ok C Γ' L' F' σ' H' → Fr L F H L' F' H' → E.bk Γ' L' → DD.bk σ' H'
  ct : ∀ {F'} σ' H' Γ' L', Ok C Γ' L' F' σ' H' → Fr L F H L' F' H' → E.ct Γ' L' → DD.ct σ' H'
theorem GoS.after {C : Ctx} {L L' : Lp} {F F' : Fz} {H H' : Hp} {E : AEnds} {DD : Ends} (g : GoS C L F H E DD) (f : Fr L F H L' F' H') : GoS C L' F' H' E DD :=
  ⟨fun s H2 Γ L2 o f2 q => g.nx s H2 Γ L2 o (f.trans f2) q, fun v d H2 L2 r c f2 q => g.rt v d H2 L2 r c (f.trans f2) q, fun s H2 Γ L2 o f2 q => g.bk s H2 Γ L2 o (f.trans f2) q, fun s H2 Γ L2 o f2 q => g.ct s H2 Γ L2 o (f.trans f2) q⟩

/-! ### the judgements over data -/
def AE (C : Ctx) (e : Expr) (Γ : Gm) (L : Lp) (Q : D → Lp → Prop) : Prop := ∀ F σ H, Ok C Γ L F σ H → ∀ QV, Go C L F H Q QV → WE C.X e σ H QV
def AT (C : Ctx) (e : Expr) (Γ : Gm) (L : Lp) (Q : Bool → Lp → Prop) : Prop := ∀ F σ H, Ok C Γ L F σ H → ∀ QV, GoT C L F H Q QV → WT C.X e σ H QV
def AA (C : Ctx) (es : List Expr) (Γ : Gm) (L : Lp) (Q : List D → Lp → Prop) : Prop := ∀ F σ H, Ok C Γ L F σ H → ∀ QV, GoA C L F H Q QV → WA C.X es σ H QV
def AS (C : Ctx) (st : Stmt) (Γ : Gm) (L : Lp) (E : AEnds) : Prop := ∀ F σ H, Ok C Γ L F σ H → ∀ DD, GoS C L F H E DD → WS C.X st DD σ H
def ASs (C : Ctx) (st : List Stmt) (Γ : Gm) (L : Lp) (E : AEnds) : Prop := ∀ F σ H, Ok C Γ L F σ H → ∀ DD, GoS C L F H E DD → WSs C.X st DD σ H

section
variable {C : Ctx} {Γ : Gm} {L : Lp} {e a b c : Expr} {es : List Expr} {pos : Pos} {st : Stmt} {sts : List Stmt} {E : AEnds} {Q : D → Lp → Prop}
theorem AE.mono {Q' : D → Lp → Prop} (h : AE C e Γ L Q) (m : ∀ d L', Q d L' → Q' d L') : AE C e Γ L Q' := fun F σ H ok QV go => h _ σ H ok QV fun v d H' L' r c f q => go v d H' L' r c f (m d L' q)
theorem AT.mono {Q Q' : Bool → Lp → Prop} (h : AT C e Γ L Q) (m : ∀ d L', Q d L' → Q' d L') : AT C e Γ L Q' := fun F σ H ok QV go => h _ σ H ok QV fun d H' L' c f q => go d H' L' c f (m d L' q)
theorem AA.mono {Q Q' : List D → Lp → Prop} (h : AA C es Γ L Q) (m : ∀ d L', Q d L' → Q' d L') : AA C es Γ L Q' := fun F σ H ok QV go => h _ σ H ok QV fun v d H' L' r c f q => go v d H' L' r c f (m d L' q)
/-- forgetting a part of the store: ahead, behind -/
theorem AE.forget {L' : Lp} (le : Le L' L) (h : AE C e Γ L' Q) : AE C e Γ L Q := fun F σ H ok QV go => h _ σ H (ok.le le) QV fun v d H' L2 r c f q => go v d H' L2 r c (f.leL le) q
theorem AE.drop (h : AE C e Γ L fun d L' => ∃ L2, Le L2 L' ∧ Q d L2) : AE C e Γ L Q := fun F σ H ok QV go => h _ σ H ok QV fun v d H' L' r c f ⟨L2, le, q⟩ => go v d H' L2 r (c.le le) (f.leR le) q
theorem ASs.forget {L' : Lp} (le : Le L' L) (h : ASs C sts Γ L' E) : ASs C sts Γ L E := fun F σ H ok DD go => h _ σ H (ok.le le) DD
  ⟨fun s H2 Γ L2 o f2 q => go.nx s H2 Γ L2 o (f2.leL le) q, fun v d H2 L2 r c f2 q => go.rt v d H2 L2 r c (f2.leL le) q, fun s H2 Γ L2 o f2 q => go.bk s H2 Γ L2 o (f2.leL le) q, fun s H2 Γ L2 o f2 q => go.ct s H2 Γ L2 o (f2.leL le) q⟩
theorem ASs.mono {E' : AEnds} (h : ASs C sts Γ L E) (m1 : ∀ Γ L, E.nx Γ L → E'.nx Γ L) (m2 : ∀ d L, E.rt d L → E'.rt d L) (m3 : ∀ Γ L, E.bk Γ L → E'.bk Γ L) (m4 : ∀ Γ L, E.ct Γ L → E'.ct Γ L) : ASs C sts Γ L E' := fun F σ H ok DD go => h _ σ H ok DD
  ⟨fun s H2 Γ L2 o f2 q => go.nx s H2 Γ L2 o f2 (m1 _ _ q), fun v d H2 L2 r c f2 q => go.rt v d H2 L2 r c f2 (m2 _ _ q), fun s H2 Γ L2 o f2 q => go.bk s H2 Γ L2 o f2 (m3 _ _ q), fun s H2 Γ L2 o f2 q => go.ct s H2 Γ L2 o f2 (m4 _ _ q)⟩

theorem AE.bnd (h : AE C e Γ L fun d L' => Bnd d → Q d L') : AE C e Γ L Q := fun F σ H ok QV go => h _ σ H ok QV fun v d H' L' r c f q => go v d H' L' r c f (q r.bnd)
theorem AA.bnd {Q : List D → Lp → Prop} (h : AA C es Γ L fun ds L' => (∀ d ∈ ds, Bnd d) → Q ds L') : AA C es Γ L Q := fun F σ H ok QV go => h _ σ H ok QV fun vs ds H' L' r c f q => go vs ds H' L' r c f (q fun d hd => by
  obtain ⟨i, hi⟩ := List.getElem?_of_mem hd
  obtain ⟨v, _, rv⟩ := r.get hi
  exact rv.bnd)
theorem ASs.slot {i : Nat} {d : D} (hg : Γ[i]? = some (some d)) (h : Bnd d → ASs C sts Γ L E) : ASs C sts Γ L E := fun F σ H ok DD go => by
  obtain ⟨v, _, r⟩ := ok.sl.get i d hg
  exact h r.bnd _ σ H ok DD go
theorem ASs.list {p : Addr} {ds : List D} (hp : L p = some (.lst ds)) (h : ds.length ≤ sizeLine → ASs C sts Γ L E) : ASs C sts Γ L E := fun F σ H ok DD go => by
  obtain ⟨vs, _, _, z⟩ := ok.con.at_ p _ hp
  exact h z _ σ H ok DD go
theorem AE.list {p : Addr} {ds : List D} (hp : L p = some (.lst ds)) (h : ds.length ≤ sizeLine → AE C e Γ L Q) : AE C e Γ L Q := fun F σ H ok DD go => by
  obtain ⟨vs, _, _, z⟩ := ok.con.at_ p _ hp
  exact h z _ σ H ok DD go

/-! ### names and constants -/
theorem ae_name (i : Nat) {x : Str} {d : D} (hg : Γ[i]? = some (some d)) (q : Q d L) (hN : C.X.N[i]? = some x := by rfl) (hv : Vis C.X.env.scope x := by first | exact Or.inl rfl | exact Or.inr (Or.inl rfl) | exact Or.inr (Or.inr rfl))
    (hd : (x == ("__debug__" : Str)) = false := by decide) (hcd : (x == ("__classdict__" : Str)) = false := by decide) : AE C (.Name x pos) Γ L Q := fun F σ H ok QV go => by
  obtain ⟨v, e, r⟩ := ok.sl.get i d hg
  exact we_of (pe_var hN hv hd hcd) ⟨v, e, go v d H L r ok.con (.refl L H) q⟩
theorem ae_int {i : Int} {j : Nat} (q : Q (.int i) L) : AE C (.Constant (.int i) j pos) Γ L Q := fun F σ H ok QV go => we_of pe_int (go _ _ H L (.int i) ok.con (.refl L H) q)
theorem ae_bl {b : Bool} {j : Nat} (q : Q (.bl b) L) : AE C (.Constant (.bool b) j pos) Γ L Q := fun F σ H ok QV go => we_of pe_bl (go _ _ H L (.bl b) ok.con (.refl L H) q)
theorem ae_non {j : Nat} (q : Q .non L) : AE C (.Constant .none j pos) Γ L Q := fun F σ H ok QV go => we_of pe_non (go _ _ H L .non ok.con (.refl L H) q)
theorem ae_str {x : Str} {j : Nat} (q : Q (.str x) L) (hz : SOk x := by exact ⟨by decide +kernel, by decide +kernel⟩) : AE C (.Constant (.str x) j pos) Γ L Q := fun F σ H ok QV go => we_of pe_str (go _ _ H L (.str x hz) ok.con (.refl L H) q)
/-- a constant of the module -/
theorem ae_glob {x : Str} {v : V} {u : Value} {d : D} (hm : C.X.mg x = some u) (r : RelV v u) (rd : ∀ {F} H, Rep C.X.K F H v d) (q : Q d L) (hg : Gl C.X x := by rfl) (hd : (x == ("__debug__" : Str)) = false := by decide) : AE C (.Name x pos) Γ L Q := fun F σ H ok QV go =>
  we_of (pe_glob hg hm r hd) (go _ _ H L (rd H) ok.con (.refl L H) q)
theorem ae_globI {x : Str} {i : Int} {t : Tok} (hm : C.X.mg x = some (.int i t)) (q : Q (.int i) L) (hg : Gl C.X x := by rfl) (hd : (x == ("__debug__" : Str)) = false := by decide) : AE C (.Name x pos) Γ L Q := ae_glob (v := .int i) hm ⟨t, rfl⟩ (fun _ => .int i) q hg hd
theorem ae_globS {x y : Str} {t : Tok} (hm : C.X.mg x = some (.str y t)) (q : Q (.str y) L) (hz : SOk y := by exact ⟨by decide +kernel, by decide +kernel⟩) (hg : Gl C.X x := by rfl) (hd : (x == ("__debug__" : Str)) = false := by decide) : AE C (.Name x pos) Γ L Q := ae_glob (v := .str y) hm ⟨t, rfl⟩ (fun _ => .str y hz) q hg hd
theorem ae_bltn {x : Str} {T : String} (hm : C.X.mg x = none) (hv : bootBuiltins x = some (.type T)) (q : Q (.ty T) L) (hg : Gl C.X x := by rfl) (hn : x ≠ "__name__" := by decide) (hd : (x == ("__debug__" : Str)) = false := by decide) : AE C (.Name x pos) Γ L Q := fun F σ H ok QV go =>
  we_of (pe_bltn hg hm hv (v := .ty T) rfl hn hd) (go _ _ H L (.ty T) ok.con (.refl L H) q)

/-! ### operators by their rules -/
/-- r, on values, does what Q wants of the data x, y -/
def L2R (C : Ctx) (r : R2) (x y : D) (L : Lp) (Q : D → Lp → Prop) : Prop := ∀ F vx vy H, C.Con L F H → Rep C.X.K F H vx x → Rep C.X.K F H vy y → ∀ QV, Go C L F H Q QV → r vx vy H QV
theorem ae_two {t : Expr} {r : R2} (hp : PE C.X t (tOp r (WE C.X a) (WE C.X b))) (h : AE C a Γ L fun x L1 => AE C b Γ L1 fun y L2 => L2R C r x y L2 Q) : AE C t Γ L Q := fun F σ H ok QV go =>
  we_of hp (h _ σ H ok _ fun vx x H1 L1 rx c1 f1 q1 => q1 _ σ H1 (ok.step c1 f1) _ fun vy y H2 L2 ry c2 f2 q2 => q2 _ vx vy H2 c2 (rx.mono f2.mv) ry QV (go.after (f1.trans f2)))
theorem ae_bin {op : Operator} {r : R2} (ho : OpR C.X (binaryOp op) r) (h : AE C a Γ L fun x L1 => AE C b Γ L1 fun y L2 => L2R C r x y L2 Q) : AE C (.BinOp a op b pos) Γ L Q := ae_two (pe_op ho pe_we pe_we) h
theorem ae_cmp {op : CmpOp} {r : R2} (ho : OpR C.X (compareOp op) r) (hm : behindInMarks op b = false) (h : AE C a Γ L fun x L1 => AE C b Γ L1 fun y L2 => L2R C r x y L2 Q) : AE C (.Compare a [op] [b] pos) Γ L Q := ae_two (pe_cmpR ho pe_we pe_we hm) h
theorem at_cmp {op : CmpOp} {r : R2} {Q : Bool → Lp → Prop} (ho : OpR C.X (compareOp op) r) (hm : behindInMarks op b = false) (h : AE C a Γ L fun x L1 => AE C b Γ L1 fun y L2 => L2R C r x y L2 fun d L3 => ∃ k, d = .bl k ∧ Q k L3) : AT C (.Compare a [op] [b] pos) Γ L Q := fun F σ H ok QV go =>
  wt_of (pt_cmpR ho pe_we pe_we hm) (h _ σ H ok _ fun vx x H1 L1 rx c1 f1 q1 => q1 _ σ H1 (ok.step c1 f1) _ fun vy y H2 L2 ry c2 f2 q2 => q2 _ vx vy H2 c2 (rx.mono f2.mv) ry _ fun v d H3 L3 r3 c3 f3 ⟨k, e, q3⟩ => by
    subst e
    exact ⟨k, r3.blE, go k H3 L3 c3 ((f1.trans f2).trans f3) q3⟩)
theorem ae_ix {r : R2} (hr : IxR C.X r) (h : AE C a Γ L fun x L1 => AE C b Γ L1 fun y L2 => L2R C r x y L2 Q) (hs : PlainIx b := by exact fun _ _ => rfl) : AE C (.Subscript a b pos) Γ L Q := ae_two (pe_ix hr pe_we pe_we hs) h
theorem r_I0 {g : Int → Int → V} {g' : Int → Int → D} {i j : Int} (hg : ∀ {F} H, Rep C.X.K F H (g i j) (g' i j)) (q : Q (g' i j) L) : L2R C (rI0 g) (.int i) (.int j) L Q := fun F vx vy H c rx ry QV go => ⟨i, j, rx.intE, ry.intE, go _ _ H L (hg H) c (.refl L H) q⟩
theorem r_I {Cd : Int → Int → Prop} {g : Int → Int → V} {g' : Int → Int → D} {i j : Int} (hc : Cd i j) (hg : ∀ {F} H, Rep C.X.K F H (g i j) (g' i j)) (q : Q (g' i j) L) : L2R C (rI Cd g) (.int i) (.int j) L Q := fun F vx vy H c rx ry QV go => ⟨i, j, rx.intE, ry.intE, hc, go _ _ H L (hg H) c (.refl L H) q⟩
end
end DL
namespace DL
open PySem PySem.Spec PyProof.Rows L2

section
variable {C : Ctx} {Γ : Gm} {L : Lp} {e a b c : Expr} {es : List Expr} {pos : Pos} {st : Stmt} {sts : List Stmt} {E : AEnds} {Q : D → Lp → Prop}

/-! ### ints -/
theorem r_add {i j : Int} (q : Q (.int (i + j)) L) : L2R C (rI0 fun i j => .int (i + j)) (.int i) (.int j) L Q := r_I0 (g' := fun i j => .int (i + j)) (fun _ => .int _) q
theorem r_sub {i j : Int} (q : Q (.int (i - j)) L) : L2R C (rI0 fun i j => .int (i - j)) (.int i) (.int j) L Q := r_I0 (g' := fun i j => .int (i - j)) (fun _ => .int _) q
theorem r_mul {i j : Int} (h : CMul i j) (q : Q (.int (i * j)) L) : L2R C (rI CMul fun i j => .int (i * j)) (.int i) (.int j) L Q := r_I (g' := fun i j => .int (i * j)) h (fun _ => .int _) q
theorem r_mod {i j : Int} (h : 0 < j) (q : Q (.int (i % j)) L) : L2R C (rI (fun _ j => 0 < j) fun i j => .int (i % j)) (.int i) (.int j) L Q := r_I (Cd := fun _ j => 0 < j) (g := fun i j => .int (i % j)) (g' := fun i j => .int (i % j)) h (fun _ => .int _) q
theorem r_fdiv {i j : Int} (h : CDiv i j) (q : Q (.int (i / j)) L) : L2R C (rI CDiv fun i j => .int (i / j)) (.int i) (.int j) L Q := r_I (g' := fun i j => .int (i / j)) h (fun _ => .int _) q
theorem r_pow {i j : Int} (h : CPow i j) (q : Q (.int (i ^ j.toNat)) L) : L2R C (rI CPow fun i j => .int (i ^ j.toNat)) (.int i) (.int j) L Q := r_I (g' := fun i j => .int (i ^ j.toNat)) h (fun _ => .int _) q
theorem r_lt {i j : Int} (q : Q (.bl (decide (i < j))) L) : L2R C (rI0 fun i j => .bl (decide (i < j))) (.int i) (.int j) L Q := r_I0 (g' := fun i j => .bl (decide (i < j))) (fun _ => .bl _) q
theorem r_le {i j : Int} (q : Q (.bl (decide (i ≤ j))) L) : L2R C (rI0 fun i j => .bl (decide (i ≤ j))) (.int i) (.int j) L Q := r_I0 (g' := fun i j => .bl (decide (i ≤ j))) (fun _ => .bl _) q
theorem r_gt {i j : Int} (q : Q (.bl (decide (j < i))) L) : L2R C (rI0 fun i j => .bl (decide (j < i))) (.int i) (.int j) L Q := r_I0 (g' := fun i j => .bl (decide (j < i))) (fun _ => .bl _) q
theorem r_ge {i j : Int} (q : Q (.bl (decide (j ≤ i))) L) : L2R C (rI0 fun i j => .bl (decide (j ≤ i))) (.int i) (.int j) L Q := r_I0 (g' := fun i j => .bl (decide (j ≤ i))) (fun _ => .bl _) q
theorem vint_dec (i j : Int) : decide (V.int i = V.int j) = decide (i = j) := by
  by_cases h : i = j
  · subst h; simp
  · rw [decide_eq_false h, decide_eq_false (fun q => h (V.int.inj q))]
theorem vstr_dec (i j : Str) : decide (V.str i = V.str j) = decide (i = j) := by
  by_cases h : i = j
  · subst h; simp
  · rw [decide_eq_false h, decide_eq_false (fun q => h (V.str.inj q))]
theorem r_eqI {i j : Int} (q : Q (.bl (decide (i = j))) L) : L2R C rEq (.int i) (.int j) L Q := fun F vx vy H c rx ry QV go => by
  rw [rx.intE, ry.intE]
  refine ⟨rfl, ?_⟩
  rw [vint_dec]
  exact go _ _ H L (.bl _) c (.refl L H) q
theorem r_neI {i j : Int} (q : Q (.bl (!decide (i = j))) L) : L2R C rNe (.int i) (.int j) L Q := fun F vx vy H c rx ry QV go => by
  rw [rx.intE, ry.intE]
  refine ⟨rfl, ?_⟩
  rw [vint_dec]
  exact go _ _ H L (.bl _) c (.refl L H) q
theorem r_eqS {i j : Str} (q : Q (.bl (decide (i = j))) L) : L2R C rEq (.str i) (.str j) L Q := fun F vx vy H c rx ry QV go => by
  rw [rx.strE, ry.strE]
  refine ⟨rfl, ?_⟩
  rw [vstr_dec]
  exact go _ _ H L (.bl _) c (.refl L H) q
theorem r_neS {i j : Str} (q : Q (.bl (!decide (i = j))) L) : L2R C rNe (.str i) (.str j) L Q := fun F vx vy H c rx ry QV go => by
  rw [rx.strE, ry.strE]
  refine ⟨rfl, ?_⟩
  rw [vstr_dec]
  exact go _ _ H L (.bl _) c (.refl L H) q

/-! ### texts -/
theorem str_len_app (i j : Str) : (i ++ j).length = i.length + j.length := by
  show (i.cps ++ j.cps).size = _
  rw [Array.size_append]
  rfl
theorem SOk.app {i j : Str} (hi : SOk i) (hj : SOk j) (h : i.length + j.length ≤ sizeLine) : SOk (i ++ j) := .of (by rw [str_len_app]; exact h) fun k hk => by
  have e : (i ++ j).cps.toList = i.cps.toList ++ j.cps.toList := by
    show (i.cps ++ j.cps).toList = _
    simp
  rw [e] at hk
  rcases List.mem_append.mp hk with z | z
  · exact hi.mem z
  · exact hj.mem z
theorem SOk.one {k : Nat} (h : k < 0x110000) : SOk ⟨#[k]⟩ := .of (by show 1 ≤ sizeLine; decide) fun j hj => by
  have e : j = k := by simpa using hj
  rw [e]
  exact h
theorem atI_mem {α : Type} {xs : List α} {i : Int} {d : α} (h : atI xs i = some d) : d ∈ xs := by
  unfold atI at h
  cases e : ixN xs.length i with
  | none =>
    rw [e] at h
    cases h
  | some j =>
    rw [e] at h
    exact List.mem_of_getElem? (show xs[j]? = some d from h)
abbrev rAddS : R2 := fun x y H Q => ∃ i j, x = .str i ∧ y = .str j ∧ i.length + j.length ≤ sizeLine ∧ Q (.str (i ++ j)) H
theorem r_addS {i j : Str} (h : i.length + j.length ≤ sizeLine) (q : Q (.str (i ++ j)) L) : L2R C rAddS (.str i) (.str j) L Q := fun F vx vy H c rx ry QV go => ⟨i, j, rx.strE, ry.strE, h, go _ _ H L (.str _ (SOk.app rx.bnd ry.bnd h)) c (.refl L H) q⟩
abbrev rLtS : R2 := fun x y H Q => ∃ i j, x = .str i ∧ y = .str j ∧ Q (.bl (decide (i.cps.toList < j.cps.toList))) H
theorem r_ltS {i j : Str} (q : Q (.bl (decide (i.cps.toList < j.cps.toList))) L) : L2R C rLtS (.str i) (.str j) L Q := fun F vx vy H c rx ry QV go => ⟨i, j, rx.strE, ry.strE, go _ _ H L (.bl _) c (.refl L H) q⟩
theorem r_ixS {z : Str} {i : Int} {k : Nat} (h : atI z.cps.toList i = some k) (q : Q (.str ⟨#[k]⟩) L) : L2R C rIxS (.str z) (.int i) L Q := fun F vx vy H c rx ry QV go => ⟨z, i, k, rx.strE, ry.intE, rx.bnd.len, h, go _ _ H L (.str _ (.one (SOk.mem rx.bnd (atI_mem h)))) c (.refl L H) q⟩

/-! ### tuples, lists -/
theorem Reps.nil_iff {K : PySem.W.Frag} {F : Fz} {H : Hp} {vs : List V} {ds : List D} (r : Reps K F H vs ds) : vs = [] ↔ ds = [] := by
  cases r with
  | nil => simp
  | cons _ _ => simp
theorem r_catT {xs ys : List D} (hz : xs.length + ys.length ≤ sizeLine) (q : Q (.tup (xs ++ ys)) L) : L2R C (rCatA C.X.K) (.tup xs) (.tup ys) L Q := fun F vx vy H c rx ry QV go => by
  obtain ⟨a, vs, rfl, ha, ra⟩ := rx.tupE
  obtain ⟨b, ws, rfl, hb, rb⟩ := ry.tupE
  refine ⟨a, b, vs, ws, rfl, rfl, SqT.of ha, SqT.of hb, by rw [ra.length, rb.length]; exact hz, fun h => ?_, fun h1 h2 => ?_, fun h1 h2 p hp => ?_⟩
  · have e := ra.nil_iff.mp h
    subst e
    exact go _ _ H L ry c (.refl L H) q
  · have e := rb.nil_iff.mp h2
    subst e
    rw [List.append_nil] at q
    exact go _ _ H L rx c (.refl L H) q
  · exact go _ _ _ L (Rep.tupI upd_same ((ra.append rb).mono (.new hp)) (by rw [List.length_append]; exact hz)) (c.new hp) (.new hp) q
theorem atI_reps {K : PySem.W.Frag} {F : Fz} {H : Hp} {vs : List V} {ds : List D} {i : Int} {d : D} (r : Reps K F H vs ds) (h : atI ds i = some d) : ∃ v, atI vs i = some v ∧ Rep K F H v d := by
  unfold atI at h ⊢
  rw [r.length]
  cases e : ixN ds.length i with
  | none =>
    rw [e] at h
    cases h
  | some j =>
    rw [e] at h
    obtain ⟨v, h1, h2⟩ := r.get (show ds[j]? = some d from h)
    exact ⟨v, h1, h2⟩
theorem r_ixT {xs : List D} {i : Int} {d : D} (h : atI xs i = some d) (q : Q d L) : L2R C (rIxT C.X.K) (.tup xs) (.int i) L Q := fun F vx vy H c rx ry QV go => by
  obtain ⟨a, vs, rfl, ha, ra⟩ := rx.tupE
  obtain ⟨v, h1, h2⟩ := atI_reps ra h
  exact ⟨a, vs, i, v, rfl, ry.intE, SqT.of ha, h1, go _ _ H L h2 c (.refl L H) q⟩
theorem r_ixL {p : Addr} {xs : List D} {i : Int} {d : D} (hp : L p = some (.lst xs)) (h : atI xs i = some d) (q : Q d L) : L2R C (rIxL C.X.K) (.ptr p) (.int i) L Q := fun F vx vy H c rx ry QV go => by
  obtain ⟨vs, ha, ra, hz⟩ := c.at_ p _ hp
  obtain ⟨v, h1, h2⟩ := atI_reps ra h
  exact ⟨p, vs, i, v, rx.ptrE, ry.intE, SqL.of ha, h1, go _ _ H L h2 c (.refl L H) q⟩
theorem r_ixN {ns : List Int} {i k : Int} (h : atI ns i = some k) (q : Q (.int k) L) : L2R C (rIxL C.X.K) (.ilst ns) (.int i) L Q := fun F vx vy H c rx ry QV go => by
  obtain ⟨a, rfl, ha⟩ := rx.ilstE
  refine ⟨a, _, i, .int k, rfl, ry.intE, ha, ?_, go _ _ H L (.int k) c (.refl L H) q⟩
  unfold atI at h ⊢
  rw [List.length_map]
  cases e : ixN ns.length i with
  | none =>
    rw [e] at h
    cases h
  | some j =>
    rw [e] at h
    show (ns.map V.int)[j]? = _
    rw [List.getElem?_map, show ns[j]? = some k from h]
    rfl

/-! ### and, or, not; tests -/
theorem at_val {Q : Bool → Lp → Prop} (h : AE C e Γ L fun d L' => ∃ k, d = .bl k ∧ Q k L') (he : ∀ whole, isTrue e C.X.env whole = (do let v ← whole; standAt e.pos; holding [v] (truthy v)) := by intro _; rfl) : AT C e Γ L Q := fun F σ H ok QV go =>
  wt_of (pt_val pe_we he) (h _ σ H ok _ fun v d H1 L1 r c f ⟨k, ek, q⟩ => by
    subst ek
    exact ⟨k, r.blE, go k H1 L1 c f q⟩)
theorem at_not {Q : Bool → Lp → Prop} (h : AT C e Γ L fun k L' => Q (!k) L') : AT C (.UnaryOp .Not e pos) Γ L Q := fun F σ H ok QV go =>
  wt_of (pt_not pt_we) (h _ σ H ok _ fun k H1 L1 c f q => go (!k) H1 L1 c f q)
/-- a chain of and, or as a test, whatever its whole is -/
def AW (C : Ctx) (e : Expr) (Γ : Gm) (L : Lp) (Q : Bool → Lp → Prop) : Prop := ∀ F σ H, Ok C Γ L F σ H → ∀ QV, GoT C L F H Q QV → ∃ t, PW C.X e t ∧ t σ H QV
structure WW (X : Cx) (e : Expr) (σ : L2.St) (H : Hp) (Q : Bool → Hp → Prop) : Prop where
  run : ∀ (whole : Sem Value) (pins : List (Addr × Obj)) (s : Shared), Inv X pins σ H s → wpAny (model X.prog X.w) X.A (isTrue e X.env whole) (TP X pins σ Q) X.xe s
theorem pw_ww {X : Cx} {e : Expr} : PW X e (WW X e) := ⟨fun wh pins s σ H Q I h => h.run wh pins s I⟩
theorem AW.ww {Q : Bool → Lp → Prop} (h : AW C e Γ L Q) {σ : L2.St} {F : Fz} {H : Hp} (ok : Ok C Γ L F σ H) {QV : Bool → Hp → Prop} (go : GoT C L F H Q QV) : WW C.X e σ H QV := by
  obtain ⟨t, p, q⟩ := h _ σ H ok QV go
  exact ⟨fun wh pins s I => p.run wh pins s σ H QV I q⟩
theorem at_w {Q : Bool → Lp → Prop} (h : AW C e Γ L Q) : AT C e Γ L Q := fun F σ H ok QV go => wt_of pw_ww.pt (h.ww ok go)
theorem aw_and1 {Q : Bool → Lp → Prop} (h : AT C a Γ L Q) : AW C (.BoolOp .And [a] pos) Γ L Q := fun F σ H ok QV go => ⟨_, pw_and1 pt_we, h _ σ H ok QV go⟩
theorem aw_or1 {Q : Bool → Lp → Prop} (h : AT C a Γ L Q) : AW C (.BoolOp .Or [a] pos) Γ L Q := fun F σ H ok QV go => ⟨_, pw_or1 pt_we, h _ σ H ok QV go⟩
theorem aw_and {Q : Bool → Lp → Prop} (h : AT C a Γ L fun k L1 => (k = true → AW C (.BoolOp .And (b :: es) pos) Γ L1 Q) ∧ (k = false → Q false L1)) : AW C (.BoolOp .And (a :: b :: es) pos) Γ L Q := fun F σ H ok QV go =>
  ⟨_, pw_and pt_we pw_ww, h _ σ H ok _ fun k H1 L1 c f q => by
    cases k with
    | true => exact AW.ww (q.1 rfl) (ok.step c f) (go.after f)
    | false => exact go false H1 L1 c f (q.2 rfl)⟩
theorem aw_or {Q : Bool → Lp → Prop} (h : AT C a Γ L fun k L1 => (k = true → Q true L1) ∧ (k = false → AW C (.BoolOp .Or (b :: es) pos) Γ L1 Q)) : AW C (.BoolOp .Or (a :: b :: es) pos) Γ L Q := fun F σ H ok QV go =>
  ⟨_, pw_or pt_we pw_ww, h _ σ H ok _ fun k H1 L1 c f q => by
    cases k with
    | true => exact go true H1 L1 c f (q.1 rfl)
    | false => exact AW.ww (q.2 rfl) (ok.step c f) (go.after f)⟩
/-- as values (all but the last bools) -/
theorem ae_one {op : BoolOp} (h : AE C a Γ L Q) : AE C (.BoolOp op [a] pos) Γ L Q := fun F σ H ok QV go => we_of (pe_one pe_we) (h _ σ H ok QV go)
theorem ae_and (h : AE C a Γ L fun d L1 => ∃ k, d = .bl k ∧ (k = true → AE C (.BoolOp .And (b :: es) pos) Γ L1 Q) ∧ (k = false → Q (.bl false) L1)) : AE C (.BoolOp .And (a :: b :: es) pos) Γ L Q := fun F σ H ok QV go =>
  we_of (pe_and pe_we pe_we) (h _ σ H ok _ fun v d H1 L1 r c f ⟨k, ek, q1, q2⟩ => by
    subst ek
    refine ⟨k, r.blE, ?_⟩
    cases k with
    | true => exact (q1 rfl) _ σ H1 (ok.step c f) _ (go.after f)
    | false => exact go _ _ H1 L1 (.bl false) c f (q2 rfl))
theorem ae_or (h : AE C a Γ L fun d L1 => ∃ k, d = .bl k ∧ (k = true → Q (.bl true) L1) ∧ (k = false → AE C (.BoolOp .Or (b :: es) pos) Γ L1 Q)) : AE C (.BoolOp .Or (a :: b :: es) pos) Γ L Q := fun F σ H ok QV go =>
  we_of (pe_or pe_we pe_we) (h _ σ H ok _ fun v d H1 L1 r c f ⟨k, ek, q1, q2⟩ => by
    subst ek
    refine ⟨k, r.blE, ?_⟩
    cases k with
    | true => exact go _ _ H1 L1 (.bl true) c f (q1 rfl)
    | false => exact (q2 rfl) _ σ H1 (ok.step c f) _ (go.after f))
theorem ae_not (h : AE C a Γ L fun d L1 => ∃ k, d = .bl k ∧ Q (.bl (!k)) L1) : AE C (.UnaryOp .Not a pos) Γ L Q := fun F σ H ok QV go =>
  we_of (pe_not pe_we) (h _ σ H ok _ fun v d H1 L1 r c f ⟨k, ek, q⟩ => by
    subst ek
    exact ⟨k, r.blE, go _ _ H1 L1 (.bl _) c f q⟩)
theorem ae_ifExp (h : AT C c Γ L fun k L1 => (k = true → AE C a Γ L1 Q) ∧ (k = false → AE C b Γ L1 Q)) : AE C (.IfExp c a b pos) Γ L Q := fun F σ H ok QV go =>
  we_of (pe_ifExp pt_we pe_we pe_we) (h _ σ H ok _ fun k H1 L1 c f q => by
    cases k with
    | true => exact (q.1 rfl) _ σ H1 (ok.step c f) _ (go.after f)
    | false => exact (q.2 rfl) _ σ H1 (ok.step c f) _ (go.after f))
/-- a < b < c -/
theorem ae_chain {op op' : CmpOp} {r r' : R2} (ho : OpR C.X (compareOp op) r) (ho' : OpR C.X (compareOp op') r')
    (h : AE C a Γ L fun x L1 => AE C b Γ L1 fun y L2 => L2R C r x y L2 fun d L3 => ∃ k, d = .bl k ∧ (k = true → AE C c Γ L3 fun z L4 => L2R C r' y z L4 Q) ∧ (k = false → Q (.bl false) L3))
    (hp : PE C.X (.Compare a [op, op'] [b, c] pos) (tChain r r' (WE C.X a) (WE C.X b) (WE C.X c))) : AE C (.Compare a [op, op'] [b, c] pos) Γ L Q := fun F σ H ok QV go =>
  we_of hp (h _ σ H ok _ fun vx x H1 L1 rx c1 f1 q1 => q1 _ σ H1 (ok.step c1 f1) _ fun vy y H2 L2 ry c2 f2 q2 => q2 _ vx vy H2 c2 (rx.mono f2.mv) ry _ fun v d H3 L3 r3 c3 f3 ⟨k, ek, k1, k2⟩ => by
    subst ek
    refine ⟨k, r3.blE, ?_⟩
    cases k with
    | true =>
      have o3 := ok.step c3 ((f1.trans f2).trans f3)
      exact (k1 rfl) _ σ H3 o3 _ fun vz z H4 L4 rz c4 f4 q4 => q4 _ vy vz H4 c4 ((ry.mono f3.mv).mono f4.mv) rz QV (go.after (((f1.trans f2).trans f3).trans f4))
    | false => exact go _ _ H3 L3 (.bl false) c3 ((f1.trans f2).trans f3) (k2 rfl))
end
end DL
namespace DL
open PySem PySem.Spec PyProof.Rows L2

section
variable {C : Ctx} {Γ : Gm} {L : Lp} {e a b c o : Expr} {es : List Expr} {pos : Pos} {st : Stmt} {sts : List Stmt} {E : AEnds} {Q : D → Lp → Prop}

/-! ### arguments, displays -/
theorem aa_nil {Q : List D → Lp → Prop} (q : Q [] L) : AA C [] Γ L Q := fun F σ H ok QV go => wa_of pa_nil (go [] [] H L .nil ok.con (.refl L H) q)
theorem aa_cons {Q : List D → Lp → Prop} (h : AE C e Γ L fun d L1 => AA C es Γ L1 fun ds L2 => Q (d :: ds) L2) (hs : starEach (e :: es) C.X.env = (false, eval e C.X.env) :: starEach es C.X.env := by rfl) : AA C (e :: es) Γ L Q := fun F σ H ok QV go =>
  wa_of (pa_cons pe_we pa_we hs) (h _ σ H ok _ fun v d H1 L1 r c f q => q _ σ H1 (ok.step c f) _ fun vs ds H2 L2 r2 c2 f2 q2 => go (v :: vs) (d :: ds) H2 L2 (.cons (r.mono f2.mv) r2) c2 (f.trans f2) q2)
theorem ae_tup {x1 : Nat} (h : AA C es Γ L fun ds L1 => ds.length ≤ sizeLine ∧ Q (.tup ds) L1) : AE C (.Tuple es x1 pos) Γ L Q := fun F σ H ok QV go =>
  we_of (pe_tup pa_we) (h _ σ H ok _ fun vs ds H1 L1 r c f ⟨hz, q⟩ => ⟨by rw [r.length]; exact hz, fun p hp => go _ _ _ L1 (Rep.tupI upd_same (r.mono (.new hp)) hz) (c.new hp) (f.trans (.new hp)) q⟩)
theorem ae_lst (h : AA C es Γ L fun ds L1 => ds.length ≤ sizeLine ∧ ∀ p, L1 p = none → Q (.ptr p) (put L1 p (.lst ds))) : AE C (.List es pos) Γ L Q := fun F σ H ok QV go =>
  we_of (pe_lst pa_we) (h _ σ H ok _ fun vs ds H1 L1 r c f ⟨hz, q⟩ => ⟨by rw [r.length]; exact hz, fun p hp => go _ _ _ (put L1 p (.lst ds)) (.ptr p) (c.newL hp ⟨vs, upd_same, r.mono (.new hp), hz⟩) (f.trans (.newL hp)) (q p (c.free hp))⟩)

/-! ### slices -/
structure WO (X : Cx) (e : Option Expr) (σ : L2.St) (H : Hp) (Q : Option Int → Hp → Prop) : Prop where
  run : ∀ (pins : List (Addr × Obj)) (s : Shared), Inv X pins σ H s → wpAny (model X.prog X.w) X.A (evalPart e X.env) (fun u s' => ∃ o H', Inv X pins σ H' s' ∧ IsPart u o ∧ Q o H') X.xe s
theorem po_wo {X : Cx} {e : Option Expr} : PO X e (WO X e) := ⟨fun pins s σ H Q I h => h.run pins s I⟩
def AO (C : Ctx) (e : Option Expr) (Γ : Gm) (L : Lp) (Q : Option Int → Lp → Prop) : Prop := ∀ F σ H, Ok C Γ L F σ H → ∀ QV : Option Int → Hp → Prop, (∀ {F'} i H' L', C.Con L' F' H' → Fr L F H L' F' H' → Q i L' → QV i H') → WO C.X e σ H QV
theorem ao_none {Q : Option Int → Lp → Prop} (q : Q none L) : AO C none Γ L Q := fun F σ H ok QV go => ⟨fun pins s I => po_none.run pins s σ H QV I (go none H L ok.con (.refl L H) q)⟩
theorem ao_some {Q : Option Int → Lp → Prop} (h : AE C e Γ L fun d L1 => ∃ i, d = .int i ∧ Q (some i) L1) : AO C (some e) Γ L Q := fun F σ H ok QV go => ⟨fun pins s I => (po_some pe_we).run pins s σ H QV I (h _ σ H ok _ fun v d H1 L1 r c f ⟨i, e, q⟩ => by
  subst e
  exact ⟨i, r.intE, go (some i) H1 L1 c f q⟩)⟩
def LsR (C : Ctx) (r : V → Option Int → Option Int → Hp → VK → Prop) (x : D) (lo hi : Option Int) (L : Lp) (Q : D → Lp → Prop) : Prop := ∀ F v H, C.Con L F H → Rep C.X.K F H v x → ∀ QV, Go C L F H Q QV → r v lo hi H QV
theorem ae_slice {r : V → Option Int → Option Int → Hp → VK → Prop} {lo hi : Option Expr} {p2 : Pos} (hr : SlR C.X r) (h : AE C e Γ L fun x L1 => AO C lo Γ L1 fun l L2 => AO C hi Γ L2 fun u L3 => LsR C r x l u L3 Q) : AE C (.Subscript e (.Slice lo hi none p2) pos) Γ L Q := fun F σ H ok QV go =>
  we_of (pe_slice hr pe_we po_wo po_wo) (h _ σ H ok _ fun v x H1 L1 r1 c1 f1 q1 => q1 _ σ H1 (ok.step c1 f1) _ fun l H2 L2 c2 f2 q2 => q2 _ σ H2 (ok.step c2 (f1.trans f2)) _ fun u H3 L3 c3 f3 q3 =>
    q3 _ v H3 c3 ((r1.mono f2.mv).mono f3.mv) QV (go.after ((f1.trans f2).trans f3)))
/-- what a slice takes -/
def cut {α : Type} (xs : List α) (lo hi : Option Int) : List α := (xs.drop (HT.sIx xs.length 0 lo)).take (HT.sIx xs.length xs.length hi - HT.sIx xs.length 0 lo)
theorem Reps.cut {K : PySem.W.Frag} {F : Fz} {H : Hp} {vs : List V} {ds : List D} (r : Reps K F H vs ds) (lo hi : Option Int) : Reps K F H (cutV vs lo hi) (DL.cut ds lo hi) := by
  unfold cutV DL.cut
  rw [r.length]
  exact (r.drop _).take _
theorem cut_len {α : Type} (xs : List α) (lo hi : Option Int) : (cut xs lo hi).length ≤ xs.length := by
  unfold cut
  rw [List.length_take, List.length_drop]
  omega
theorem cut_whole {α : Type} {xs : List α} {lo hi : Option Int} (h : HT.sIx xs.length 0 lo = 0 ∧ HT.sIx xs.length xs.length hi = xs.length) : cut xs lo hi = xs := by
  unfold cut
  rw [h.1, h.2]
  simp
theorem s_tup {xs : List D} {lo hi : Option Int} (q : Q (.tup (cut xs lo hi)) L) : LsR C (rSlA C.X.K) (.tup xs) lo hi L Q := fun F v H c r QV go => by
  obtain ⟨a, vs, rfl, ha, ra⟩ := r.tupE
  refine ⟨a, vs, rfl, SqT.of ha, fun h => ?_, fun _ p hp => ?_⟩
  · rw [ra.length] at h
    rw [cut_whole h] at q
    exact go _ _ H L r c (.refl L H) q
  · exact go _ _ _ L (Rep.tupI upd_same ((ra.cut lo hi).mono (.new hp)) (Nat.le_trans (cut_len xs lo hi) r.bnd)) (c.new hp) (.new hp) q
theorem s_lst {p : Addr} {xs : List D} {lo hi : Option Int} (hp : L p = some (.lst xs)) (q : ∀ l, L l = none → Q (.ptr l) (put L l (.lst (cut xs lo hi)))) : LsR C (rSlL C.X.K) (.ptr p) lo hi L Q := fun F v H c r QV go => by
  obtain ⟨vs, ha, ra, hz⟩ := c.at_ p _ hp
  refine ⟨p, vs, r.ptrE, SqL.of ha, fun l hl => ?_⟩
  exact go _ _ _ (put L l (.lst (cut xs lo hi))) (.ptr l) (c.newL hl ⟨_, upd_same, (ra.cut lo hi).mono (.new hl), Nat.le_trans (cut_len xs lo hi) hz⟩) (.newL hl) (q l (c.free hl))

/-! ### built-ins by their names -/
def LcR (C : Ctx) (r : List V → Hp → VK → Prop) (xs : List D) (L : Lp) (Q : D → Lp → Prop) : Prop := ∀ F vs H, C.Con L F H → Reps C.X.K F H vs xs → ∀ QV, Go C L F H Q QV → r vs H QV
theorem ae_callB {x : Str} {id : String} {r : List V → Hp → VK → Prop} {p : Pos} (hc : CallR C.X (.builtin id) r) (hm : C.X.mg x = none) (h : AA C (e :: es) Γ L fun ds L1 => LcR C r ds L1 Q) (hv : bootBuiltins x = some (.builtin id) := by decide +kernel) (hg : Gl C.X x := by rfl) (hn : x ≠ "__name__" := by decide) (hdb : (x == ("__debug__" : Str)) = false := by decide)
    (he : starEach (e :: es) C.X.env = (false, eval e C.X.env) :: starEach es C.X.env := by rfl) (hpl : (backTo pos (starEach es C.X.env)).any (·.1) = false := by rfl) : AE C (.Call (.Name x p) (e :: es) [] pos) Γ L Q := fun F σ H ok QV go =>
  we_of (pe_callB hc hg hm hv pa_we hn hdb he hpl) (h _ σ H ok _ fun vs ds H1 L1 r1 c1 f1 q1 => q1 _ vs H1 c1 r1 QV (go.after f1))
theorem ae_callT {x : Str} {T : String} {r : List V → Hp → VK → Prop} {p : Pos} (hc : CallR C.X (.type T) r) (hm : C.X.mg x = none) (h : AA C (e :: es) Γ L fun ds L1 => LcR C r ds L1 Q) (hv : bootBuiltins x = some (.type T) := by decide +kernel) (hg : Gl C.X x := by rfl) (hn : x ≠ "__name__" := by decide) (hdb : (x == ("__debug__" : Str)) = false := by decide)
    (he : starEach (e :: es) C.X.env = (false, eval e C.X.env) :: starEach es C.X.env := by rfl) (hpl : (backTo pos (starEach es C.X.env)).any (·.1) = false := by rfl) : AE C (.Call (.Name x p) (e :: es) [] pos) Γ L Q := fun F σ H ok QV go =>
  we_of (pe_callTy hc hg hm hv pa_we hn hdb he hpl) (h _ σ H ok _ fun vs ds H1 L1 r1 c1 f1 q1 => q1 _ vs H1 c1 r1 QV (go.after f1))
theorem ae_callT0 {x : Str} {T : String} {r : List V → Hp → VK → Prop} {p : Pos} (hc : CallR C.X (.type T) r) (hm : C.X.mg x = none) (h : LcR C r [] L Q) (hv : bootBuiltins x = some (.type T) := by decide +kernel) (hg : Gl C.X x := by rfl) (hn : x ≠ "__name__" := by decide) (hdb : (x == ("__debug__" : Str)) = false := by decide) :
    AE C (.Call (.Name x p) [] [] pos) Γ L Q := fun F σ H ok QV go =>
  we_of (pe_callTy0 hc hg hm hv hn hdb) (h _ [] H ok.con .nil QV go)
theorem Reps.oneE {K : PySem.W.Frag} {F : Fz} {H : Hp} {vs : List V} {d : D} (r : Reps K F H vs [d]) : ∃ v, vs = [v] ∧ Rep K F H v d := by
  cases r with
  | cons r t =>
    cases t
    exact ⟨_, rfl, r⟩
theorem Reps.twoE {K : PySem.W.Frag} {F : Fz} {H : Hp} {vs : List V} {d d2 : D} (r : Reps K F H vs [d, d2]) : ∃ v w, vs = [v, w] ∧ Rep K F H v d ∧ Rep K F H w d2 := by
  cases r with
  | cons r t =>
    obtain ⟨w, rfl, r2⟩ := Reps.oneE t
    exact ⟨_, w, rfl, r, r2⟩
abbrev rLenQ (K : PySem.W.Frag) : List V → Hp → VK → Prop := fun xs H Q => ∃ p ys, xs = [.ref p] ∧ (SqL K H p ys ∨ SqT K H p ys) ∧ Q (.int ys.length) H
theorem c_lenT {xs : List D} (q : Q (.int xs.length) L) : LcR C (rLenQ C.X.K) [.tup xs] L Q := fun F vs H c r0 QV go => by
  obtain ⟨v, rfl, r⟩ := r0.oneE
  obtain ⟨a, ws, rfl, ha, ra⟩ := r.tupE
  refine ⟨a, ws, rfl, .inr (SqT.of ha), ?_⟩
  rw [ra.length]
  exact go _ _ H L (.int _) c (.refl L H) q
theorem c_lenL {p : Addr} {xs : List D} (hp : L p = some (.lst xs)) (q : Q (.int xs.length) L) : LcR C (rLenQ C.X.K) [.ptr p] L Q := fun F vs H c r0 QV go => by
  obtain ⟨v, rfl, r⟩ := r0.oneE
  obtain ⟨ws, ha, ra, hzz⟩ := c.at_ p _ hp
  refine ⟨p, ws, by rw [r.ptrE], .inl (SqL.of ha), ?_⟩
  rw [ra.length]
  exact go _ _ H L (.int _) c (.refl L H) q
theorem c_lenN {ns : List Int} (q : Q (.int ns.length) L) : LcR C (rLenQ C.X.K) [.ilst ns] L Q := fun F vs H c r0 QV go => by
  obtain ⟨v, rfl, r⟩ := r0.oneE
  obtain ⟨a, rfl, ha⟩ := r.ilstE
  refine ⟨a, _, rfl, .inl ha, ?_⟩
  rw [List.length_map]
  exact go _ _ H L (.int _) c (.refl L H) q
abbrev rLenSt : List V → Hp → VK → Prop := fun xs H Q => ∃ z, xs = [.str z] ∧ z.length ≤ sizeLine ∧ Q (.int z.length) H
theorem c_lenS {z : Str} (q : Q (.int z.length) L) : LcR C rLenSt [.str z] L Q := fun F vs H c r0 QV go => by
  obtain ⟨v, rfl, r⟩ := r0.oneE
  exact ⟨z, by rw [r.strE], r.bnd.len, go _ _ H L (.int _) c (.refl L H) q⟩
abbrev rAbs : List V → Hp → VK → Prop := fun xs H Q => ∃ i, xs = [.int i] ∧ Q (.int (if i < 0 then -i else i)) H
theorem c_abs {i : Int} (q : Q (.int (if i < 0 then -i else i)) L) : LcR C rAbs [.int i] L Q := fun F vs H c r0 QV go => by
  obtain ⟨v, rfl, r⟩ := r0.oneE
  exact ⟨i, by rw [r.intE], go _ _ H L (.int _) c (.refl L H) q⟩
abbrev rInt1 : List V → Hp → VK → Prop := fun xs H Q => (∃ i, xs = [.int i] ∧ Q (.int i) H) ∨ ∃ k, xs = [.bl k] ∧ Q (.int (if k then 1 else 0)) H
theorem c_intI {i : Int} (q : Q (.int i) L) : LcR C rInt1 [.int i] L Q := fun F vs H c r0 QV go => by
  obtain ⟨v, rfl, r⟩ := r0.oneE
  exact .inl ⟨i, by rw [r.intE], go _ _ H L (.int _) c (.refl L H) q⟩
theorem c_intB {k : Bool} (q : Q (.int (if k then 1 else 0)) L) : LcR C rInt1 [.bl k] L Q := fun F vs H c r0 QV go => by
  obtain ⟨v, rfl, r⟩ := r0.oneE
  exact .inr ⟨k, by rw [r.blE], go _ _ H L (.int _) c (.refl L H) q⟩
abbrev rMx : List V → Hp → VK → Prop := fun xs H Q => ∃ i j, xs = [.int i, .int j] ∧ Q (.int (if j > i then j else i)) H
abbrev rMn : List V → Hp → VK → Prop := fun xs H Q => ∃ i j, xs = [.int i, .int j] ∧ Q (.int (if j < i then j else i)) H
theorem c_max {i j : Int} (q : Q (.int (if j > i then j else i)) L) : LcR C rMx [.int i, .int j] L Q := fun F vs H c r QV go => by
  obtain ⟨v, w, rfl, r1, r2⟩ := r.twoE
  exact ⟨i, j, by rw [r1.intE, r2.intE], go _ _ H L (.int _) c (.refl L H) q⟩
theorem c_min {i j : Int} (q : Q (.int (if j < i then j else i)) L) : LcR C rMn [.int i, .int j] L Q := fun F vs H c r QV go => by
  obtain ⟨v, w, rfl, r1, r2⟩ := r.twoE
  exact ⟨i, j, by rw [r1.intE, r2.intE], go _ _ H L (.int _) c (.refl L H) q⟩
abbrev rTupOf (K : PySem.W.Frag) : List V → Hp → VK → Prop := fun xs H Q => ∃ p ys, xs = [.ref p] ∧ ((SqL K H p ys ∧ ∀ l, H l = none → Q (.ref l) (upd H l (.tup ys))) ∨ (SqT K H p ys ∧ Q (.ref p) H))
theorem c_tupL {p : Addr} {xs : List D} (hp : L p = some (.lst xs)) (q : Q (.tup xs) L) : LcR C (rTupOf C.X.K) [.ptr p] L Q := fun F vs H c r0 QV go => by
  obtain ⟨v, rfl, r⟩ := r0.oneE
  obtain ⟨ws, ha, ra, hzz⟩ := c.at_ p _ hp
  exact ⟨p, ws, by rw [r.ptrE], .inl ⟨SqL.of ha, fun l hl => go _ _ _ L (Rep.tupI upd_same (ra.mono (.new hl)) hzz) (c.new hl) (.new hl) q⟩⟩
theorem c_tupT {xs : List D} (q : Q (.tup xs) L) : LcR C (rTupOf C.X.K) [.tup xs] L Q := fun F vs H c r0 QV go => by
  obtain ⟨v, rfl, r⟩ := r0.oneE
  obtain ⟨a, ws, rfl, ha, ra⟩ := r.tupE
  exact ⟨a, ws, rfl, .inr ⟨SqT.of ha, go _ _ H L r c (.refl L H) q⟩⟩
abbrev rLstOf (K : PySem.W.Frag) : List V → Hp → VK → Prop := fun xs H Q => ∃ p ys, xs = [.ref p] ∧ (SqL K H p ys ∨ SqT K H p ys) ∧ ∀ l, H l = none → Q (.ref l) (upd H l (.lst ys))
theorem c_lstT {xs : List D} (q : ∀ l, L l = none → Q (.ptr l) (put L l (.lst xs))) : LcR C (rLstOf C.X.K) [.tup xs] L Q := fun F vs H c r0 QV go => by
  obtain ⟨v, rfl, r⟩ := r0.oneE
  obtain ⟨a, ws, rfl, ha, ra⟩ := r.tupE
  exact ⟨a, ws, rfl, .inr (SqT.of ha), fun l hl => go _ _ _ (put L l (.lst xs)) (.ptr l) (c.newL hl ⟨ws, upd_same, ra.mono (.new hl), r.bnd⟩) (.newL hl) (q l (c.free hl))⟩
theorem c_lstL {p : Addr} {xs : List D} (hp : L p = some (.lst xs)) (q : ∀ l, L l = none → Q (.ptr l) (put L l (.lst xs))) : LcR C (rLstOf C.X.K) [.ptr p] L Q := fun F vs H c r0 QV go => by
  obtain ⟨v, rfl, r⟩ := r0.oneE
  obtain ⟨ws, ha, ra, hzz⟩ := c.at_ p _ hp
  exact ⟨p, ws, by rw [r.ptrE], .inl (SqL.of ha), fun l hl => go _ _ _ (put L l (.lst xs)) (.ptr l) (c.newL hl ⟨ws, upd_same, ra.mono (.new hl), hzz⟩) (.newL hl) (q l (c.free hl))⟩
theorem reps_bls {K : PySem.W.Frag} {F : Fz} {H : Hp} : ∀ {vs : List V} {bs : List Bool}, Reps K F H vs (bs.map D.bl) → vs = bs.map V.bl
  | _, [], .nil => rfl
  | _, b :: bs, .cons r t => by rw [r.blE, reps_bls t]; rfl
theorem reps_ints {K : PySem.W.Frag} {F : Fz} {H : Hp} : ∀ {vs : List V} {bs : List Int}, Reps K F H vs (bs.map D.int) → vs = bs.map V.int
  | _, [], .nil => rfl
  | _, b :: bs, .cons r t => by rw [r.intE, reps_ints t]; rfl
theorem reps_strs {K : PySem.W.Frag} {F : Fz} {H : Hp} : ∀ {vs : List V} {bs : List Str}, Reps K F H vs (bs.map D.str) → vs = bs.map V.str
  | _, [], .nil => rfl
  | _, b :: bs, .cons r t => by rw [r.strE, reps_strs t]; rfl
theorem c_all {p : Addr} {bs : List Bool} (hp : L p = some (.lst (bs.map D.bl))) (q : Q (.bl (bs.all id)) L) : LcR C (rAll C.X.K) [.ptr p] L Q := fun F vs H c r0 QV go => by
  obtain ⟨v, rfl, r⟩ := r0.oneE
  obtain ⟨ws, ha, ra, hzz⟩ := c.at_ p _ hp
  have e := reps_bls ra
  subst e
  exact ⟨p, bs, by rw [r.ptrE], SqL.of ha, go _ _ H L (.bl _) c (.refl L H) q⟩
theorem c_any {p : Addr} {bs : List Bool} (hp : L p = some (.lst (bs.map D.bl))) (q : Q (.bl (bs.any id)) L) : LcR C (rAny C.X.K) [.ptr p] L Q := fun F vs H c r0 QV go => by
  obtain ⟨v, rfl, r⟩ := r0.oneE
  obtain ⟨ws, ha, ra, hzz⟩ := c.at_ p _ hp
  have e := reps_bls ra
  subst e
  exact ⟨p, bs, by rw [r.ptrE], SqL.of ha, go _ _ H L (.bl _) c (.refl L H) q⟩
theorem c_sum {p : Addr} {ns : List Int} (hp : L p = some (.lst (ns.map D.int))) (q : Q (.int ns.sum) L) : LcR C (rSum C.X.K) [.ptr p] L Q := fun F vs H c r0 QV go => by
  obtain ⟨v, rfl, r⟩ := r0.oneE
  obtain ⟨ws, ha, ra, hzz⟩ := c.at_ p _ hp
  have e := reps_ints ra
  subst e
  exact ⟨p, ns, by rw [r.ptrE], SqL.of ha, go _ _ H L (.int _) c (.refl L H) q⟩
/-- isinstance(x, T), T a built-in type -/
def tyD : D → String
  | .non => "NoneType" | .bl _ => "bool" | .int _ => "int" | .str _ => "str" | .ty _ => "type" | .ptr _ => "list" | .ilst _ => "list" | .tup _ => "tuple" | .obj _ _ => "object" | .flst _ => "list" | .fdct _ => "dict" | .kdct _ => "dict"
theorem c_isi {x : D} {T : String} {k : Bool} (hx : match x with | .non => True | .bl _ => True | .int _ => True | .str _ => True | .tup _ => True | _ => False) (hk : kitB (tyD x) T = some k) (q : Q (.bl k) L) : LcR C (rIsi C.X.K) [x, .ty T] L Q := fun F vs H c r QV go => by
  obtain ⟨v, w, rfl, r1, r2⟩ := r.twoE
  rw [r2.tyE]
  refine ⟨v, .ty T, .type (tyD x), .type T, k, rfl, .ty T, ?_, kit_ty hk, go _ _ H L (.bl _) c (.refl L H) q⟩
  cases x with
  | non => rw [r1.nonE]; exact .base .non
  | bl b => rw [r1.blE]; exact .base (.bl b)
  | int i => rw [r1.intE]; exact .base (.int i)
  | str z => rw [r1.strE]; exact .base (.str z)
  | tup ds =>
    obtain ⟨a, ws, rfl, ha, _⟩ := r1.tupE
    exact .base (.tup ha)
  | ty n => exact hx.elim
  | ptr p => exact hx.elim
  | ilst ns => exact hx.elim
  | obj _ _ => exact hx.elim
  | flst _ => exact hx.elim
  | fdct _ => exact hx.elim
  | kdct _ => exact hx.elim

/-! ### methods of built-in types -/
def LmR (C : Ctx) (r : V → List V → Hp → VK → Prop) (x : D) (xs : List D) (L : Lp) (Q : D → Lp → Prop) : Prop := ∀ F v vs H, C.Con L F H → Rep C.X.K F H v x → Reps C.X.K F H vs xs → ∀ QV, Go C L F H Q QV → r v vs H QV
/-- it is of the type T -/
def IsTy (T : String) (x : D) (L : Lp) : Prop := match x with
  | .str _ => T = "str"
  | .int _ => T = "int"
  | .ptr p => (T = "list" ∧ ∃ ds, L p = some (.lst ds)) ∨ (T = "dict" ∧ ∃ kds, L p = some (.dct kds))
  | _ => False
theorem isTy_tyV {T : String} {x : D} {F : Fz} {H : Hp} {v : V} (c : C.Con L F H) (r : Rep C.X.K F H v x) (h : IsTy T x L) : tyV C.X.K T v H := by
  cases x with
  | str z => rw [r.strE]; exact h
  | int i => rw [r.intE]; exact h
  | ptr p =>
    rw [r.ptrE]
    rcases h with ⟨rfl, ds, h⟩ | ⟨rfl, kds, h⟩
    · obtain ⟨vs, ha, _⟩ := c.at_ p _ h
      exact .inl ⟨rfl, vs, SqL.of ha⟩
    · obtain ⟨vs, ha, _⟩ := c.at_ p _ h
      exact .inr (.inr (.inl ⟨rfl, .inr ⟨vs, ha⟩⟩))
  | _ => exact h.elim
theorem ae_bm {name : Str} {T id : String} {r : V → List V → Hp → VK → Prop} {apos : Pos} (hp : PE C.X (.Call (.Attribute o name apos) (e :: es) [] pos) (tBM C.X.K T r (WE C.X o) (WA C.X (e :: es))))
    (h : AE C o Γ L fun x L1 => IsTy T x L1 ∧ AA C (e :: es) Γ L1 fun ds L2 => LmR C r x ds L2 Q) : AE C (.Call (.Attribute o name apos) (e :: es) [] pos) Γ L Q := fun F σ H ok QV go =>
  we_of hp (h _ σ H ok _ fun v x H1 L1 r1 c1 f1 ⟨ty, q1⟩ => ⟨isTy_tyV c1 r1 ty, q1 _ σ H1 (ok.step c1 f1) _ fun vs ds H2 L2 r2 c2 f2 q2 => q2 _ v vs H2 c2 (r1.mono f2.mv) r2 QV (go.after (f1.trans f2))⟩)
theorem ae_bm0 {name : Str} {T id : String} {r : V → List V → Hp → VK → Prop} {apos : Pos} (hp : PE C.X (.Call (.Attribute o name apos) [] [] pos) (tBM0 C.X.K T r (WE C.X o)))
    (h : AE C o Γ L fun x L1 => IsTy T x L1 ∧ LmR C r x [] L1 Q) : AE C (.Call (.Attribute o name apos) [] [] pos) Γ L Q := fun F σ H ok QV go =>
  we_of hp (h _ σ H ok _ fun v x H1 L1 r1 c1 f1 ⟨ty, q1⟩ => ⟨isTy_tyV c1 r1 ty, q1 _ v [] H1 c1 r1 .nil QV (go.after f1)⟩)
theorem m_append {p : Addr} {xs : List D} {y : D} (hp : L p = some (.lst xs)) (hz : xs.length < sizeLine) (q : Q .non (put L p (.lst (xs ++ [y])))) : LmR C rAppend (.ptr p) [y] L Q := fun F v vs H c r1 r2 QV go => by
  obtain ⟨w, rfl, r⟩ := r2.oneE
  obtain ⟨ws, ha, ra, hzz⟩ := c.at_ p _ hp
  have s := Mv.write (o := .lst (ws ++ [w])) c hp
  exact ⟨p, ws, w, r1.ptrE, rfl, ha, by rw [ra.length]; exact hz, go _ _ _ (put L p (.lst (xs ++ [y]))) .non (c.write hp ⟨_, upd_same, (ra.append (.cons r .nil)).mono s, by rw [List.length_append]; exact hz⟩) (.write c hp) q⟩
theorem m_extendL {p z : Addr} {xs ys : List D} (hp : L p = some (.lst xs)) (hz : L z = some (.lst ys)) (hl : xs.length + ys.length ≤ sizeLine) (q : Q .non (put L p (.lst (xs ++ ys)))) : LmR C rExtend (.ptr p) [.ptr z] L Q := fun F v vs H c r1 r2 QV go => by
  obtain ⟨w, rfl, r⟩ := r2.oneE
  obtain ⟨ws, ha, ra, hzz⟩ := c.at_ p _ hp
  obtain ⟨us, hb, rb, hzy⟩ := c.at_ z _ hz
  have s := Mv.write (o := .lst (ws ++ us)) c hp
  exact ⟨p, z, ws, us, r1.ptrE, by rw [r.ptrE], ha, hb, by rw [ra.length, rb.length]; exact hl, go _ _ _ (put L p (.lst (xs ++ ys))) .non (c.write hp ⟨_, upd_same, (ra.append rb).mono s, by rw [List.length_append]; exact hl⟩) (.write c hp) q⟩
end
end DL
namespace DL
open PySem PySem.Spec PyProof.Rows L2

/-! ### targets -/
structure WG (X : Cx) (tg : Expr) (v : V) (σ : L2.St) (H : Hp) (Q : L2.St → Hp → Prop) : Prop where
  run : ∀ (pins : List (Addr × Obj)) (s : Shared) (u : Value), Inv X pins σ H s → RelV v u → wpAny (model X.prog X.w) X.A (assign tg X.env u) (fun _ s' => ∃ σ' H', Inv X pins σ' H' s' ∧ Q σ' H') X.xe s
structure WGs (X : Cx) (ts : List Expr) (vs : List V) (σ : L2.St) (H : Hp) (Q : L2.St → Hp → Prop) : Prop where
  run : ∀ (pins : List (Addr × Obj)) (s : Shared) (us : List Value), Inv X pins σ H s → Vals vs us → wpAny (model X.prog X.w) X.A (assignInOrder ((assignEach ts X.env).map (·.2)) us) (fun _ s' => ∃ σ' H', Inv X pins σ' H' s' ∧ Q σ' H') X.xe s
theorem pg_wg {X : Cx} {tg : Expr} : PG X tg (WG X tg) := ⟨fun pins s σ H v u Q I r h => h.run pins s u I r⟩
theorem pgs_wgs {X : Cx} {ts : List Expr} : PGs X ts (WGs X ts) := ⟨fun pins s σ H vs us Q I r h => h.run pins s us I r⟩
theorem wg_of {X : Cx} {tg : Expr} {g : TG} {v : V} {σ : L2.St} {H : Hp} {Q : L2.St → Hp → Prop} (h : PG X tg g) (q : g v σ H Q) : WG X tg v σ H Q := ⟨fun pins s u I r => h.run pins s σ H v u Q I r q⟩
theorem wgs_of {X : Cx} {ts : List Expr} {g : TGs} {vs : List V} {σ : L2.St} {H : Hp} {Q : L2.St → Hp → Prop} (h : PGs X ts g) (q : g vs σ H Q) : WGs X ts vs σ H Q := ⟨fun pins s us I r => h.run pins s σ H vs us Q I r q⟩
/-- σ' is σ but for the slots ws -/
structure But (ws : List Nat) (σ σ' : L2.St) : Prop where
  len : σ'.length = σ.length
  at_ : ∀ j, j ∉ ws → σ'[j]? = σ[j]?
theorem But.refl (ws : List Nat) (σ : L2.St) : But ws σ σ := ⟨rfl, fun _ _ => rfl⟩
theorem But.trans {ws zs : List Nat} {σ σ1 σ2 : L2.St} (a : But ws σ σ1) (b : But zs σ1 σ2) : But (ws ++ zs) σ σ2 := ⟨b.len.trans a.len, fun j h => (b.at_ j fun z => h (List.mem_append_right _ z)).trans (a.at_ j fun z => h (List.mem_append_left _ z))⟩
def AG (C : Ctx) (tg : Expr) (d : D) (Γ Γ' : Gm) (ws : List Nat) : Prop := ∀ F σ H v, Sl C.X.K F H σ Γ → Rep C.X.K F H v d → ∀ Q : L2.St → Hp → Prop, (∀ σ', Sl C.X.K F H σ' Γ' → But ws σ σ' → Q σ' H) → WG C.X tg v σ H Q
def AGs (C : Ctx) (ts : List Expr) (ds : List D) (Γ Γ' : Gm) (ws : List Nat) : Prop := ∀ F σ H vs, Sl C.X.K F H σ Γ → Reps C.X.K F H vs ds → ∀ Q : L2.St → Hp → Prop, (∀ σ', Sl C.X.K F H σ' Γ' → But ws σ σ' → Q σ' H) → WGs C.X ts vs σ H Q
section
variable {C : Ctx} {Γ Γ1 Γ2 : Gm} {L : Lp} {e a b c o tg : Expr} {es ts : List Expr} {pos p1 p2 : Pos} {st : Stmt} {sts : List Stmt} {E : AEnds} {Q : D → Lp → Prop} {d : D} {ds : List D} {ws zs : List Nat}
theorem ag_name (i : Nat) {x : Str} (hi : C.X.N[i]? = some x := by rfl) (hx : Loc C.X.env.scope x := by first | exact Or.inl rfl | exact Or.inr rfl) (hf : C.X.fn x = true ∨ C.X.env.scope.names.lookup x = some .local := by first | exact .inl rfl | exact .inr rfl) : AG C (.Name x pos) d Γ (Γ.set i (some d)) [i] := fun F σ H v sl r Q q =>
  wg_of (pg_name C.nd hi hx hf) (q _ (sl.set i r) ⟨by simp, fun j h => by rw [List.getElem?_set_ne (fun z => h (by simp [z]))]⟩)
theorem ags_nil : AGs C [] [] Γ Γ [] := fun F σ H vs sl r Q q => by
  cases r
  exact wgs_of pgs_nil ⟨rfl, q σ sl (.refl _ _)⟩
theorem ags_cons (h1 : AG C tg d Γ Γ1 ws) (h2 : AGs C ts ds Γ1 Γ2 zs) (hs : (assignEach (tg :: ts) C.X.env).map (·.2) = assign tg C.X.env :: (assignEach ts C.X.env).map (·.2) := by rfl) : AGs C (tg :: ts) (d :: ds) Γ Γ2 (ws ++ zs) := fun F σ H vs sl r Q q => by
  cases r with
  | cons r rr => exact wgs_of (pgs_cons pg_wg pgs_wgs hs) ⟨_, _, rfl, h1 _ σ H _ sl r _ fun σ1 sl1 b1 => h2 _ σ1 H _ sl1 rr _ fun σ2 sl2 b2 => q σ2 sl2 (b1.trans b2)⟩
theorem ag_tup {k : Nat} (h : AGs C ts ds Γ Γ1 ws) (hn : (assignEach ts C.X.env).length = ds.length := by rfl) (hst : (assignEach ts C.X.env).findIdx? (·.1) = none := by rfl) : AG C (.Tuple ts k pos) (.tup ds) Γ Γ1 ws := fun F σ H v sl r Q q => by
  obtain ⟨a, vs, rfl, ha, ra⟩ := r.tupE
  exact wg_of (pg_tup C.calm pgs_wgs hn hst) ⟨a, vs, rfl, SqT.of ha, ra.length, h _ σ H vs sl ra Q q⟩

/-! ### statements -/
theorem as_nil (q : E.nx Γ L) : ASs C [] Γ L E := fun F σ H ok DD go => wss_of pss_nil (go.nx σ H Γ L ok (.refl L H) q)
theorem as_cons (h : AS C st Γ L { E with nx := fun Γ' L' => ASs C sts Γ' L' E }) : ASs C (st :: sts) Γ L E := fun F σ H ok DD go =>
  wss_of (pss_cons ps_we pss_we) (h _ σ H ok _ ⟨fun s H2 Γ2 L2 o f q => q _ s H2 o DD (go.after f), go.rt, go.bk, go.ct⟩)
theorem as_one (h : AS C st Γ L E) : ASs C [st] Γ L E := fun F σ H ok DD go => wss_of (pss_one ps_we) (h _ σ H ok DD go)
theorem as_set (i : Nat) {x : Str} (h : AE C e Γ L fun d L1 => E.nx (Γ.set i (some d)) L1) (hi : C.X.N[i]? = some x := by rfl) (hx : Loc C.X.env.scope x := by first | exact Or.inl rfl | exact Or.inr rfl) (hs : swapsWith e (some (.Name x p1)) pos.line C.X.env = pure false := by rfl)
    (hf : C.X.fn x = true ∨ C.X.env.scope.names.lookup x = some .local := by first | exact .inl rfl | exact .inr rfl) : AS C (.Assign [.Name x p1] e pos) Γ L E := fun F σ H ok DD go =>
  ws_of (ps_set C.nd hi hx pe_we hs hf) (h _ σ H ok _ fun v d H1 L1 r c f q => go.nx _ H1 _ L1 ⟨(ok.sl.mono f.mv).set i r, c, ok.lr.step f⟩ f q)
theorem as_asg (h : AE C e Γ L fun d L1 => ∃ Γ1 ws, AG C tg d Γ Γ1 ws ∧ E.nx Γ1 L1) (hs : swapsWithSole [tg] e pos.line C.X.env = pure false := by rfl) (hw : swappedStores [tg] e C.X.env = pure none := by rfl)
    (h1 : (assignEach [tg] C.X.env).map (·.2) = [assign tg C.X.env] := by rfl) : AS C (.Assign [tg] e pos) Γ L E := fun F σ H ok DD go =>
  ws_of (ps_asg pe_we pg_wg hs hw h1) (h _ σ H ok _ fun v d H1 L1 r c f ⟨Γ1, ws, g, q⟩ => g _ σ H1 v (ok.sl.mono f.mv) r _ fun σ' sl' _ => go.nx σ' H1 Γ1 L1 ⟨sl', c, ok.lr.step f⟩ f q)
theorem as_par (i j : Nat) {x y : Str} {px py pt pt2 : Pos} {kt k2 : Nat} (h : AA C [a, b] Γ L fun ds L1 => ∃ d1 d2, ds = [d1, d2] ∧ E.nx ((Γ.set i (some d1)).set j (some d2)) L1) (hi : C.X.N[i]? = some x := by rfl) (hj : C.X.N[j]? = some y := by rfl) (hij : i ≠ j := by decide)
    (hx : C.X.env.scope.names.lookup x = some .local := by rfl) (hy : C.X.env.scope.names.lookup y = some .local := by rfl)
    (hw : swappedStores [.Tuple [.Name x px, .Name y py] kt pt] (.Tuple [a, b] k2 pt2) C.X.env = pure (some [x, y]) := by rfl)
    (hs : swapsWithSole [.Tuple [.Name x px, .Name y py] kt pt] (.Tuple [a, b] k2 pt2) pos.line C.X.env = pure false := by rfl) : AS C (.Assign [.Tuple [.Name x px, .Name y py] kt pt] (.Tuple [a, b] k2 pt2) pos) Γ L E := fun F σ H ok DD go =>
  ws_of (ps_par C.calm C.nd hi hj hij hx hy pa_we hw hs) (h _ σ H ok _ fun vs ds H1 L1 r c f ⟨d1, d2, ed, q⟩ => by
    subst ed
    obtain ⟨v, w, rfl, r1, r2⟩ := r.twoE
    exact ⟨v, w, rfl, go.nx _ H1 _ L1 ⟨((ok.sl.mono f.mv).set i r1).set j r2, c, ok.lr.step f⟩ f q⟩)
theorem as_par3 (i j l : Nat) {x y z : Str} {px py pz pt pt2 : Pos} {kt k2 : Nat} (h : AA C [a, b, c] Γ L fun ds L1 => ∃ d1 d2 d3, ds = [d1, d2, d3] ∧ E.nx (((Γ.set i (some d1)).set j (some d2)).set l (some d3)) L1) (hi : C.X.N[i]? = some x := by rfl) (hj : C.X.N[j]? = some y := by rfl) (hl : C.X.N[l]? = some z := by rfl) (hij : i ≠ j := by decide) (hil : i ≠ l := by decide) (hjl : j ≠ l := by decide)
    (hx : C.X.env.scope.names.lookup x = some .local := by rfl) (hy : C.X.env.scope.names.lookup y = some .local := by rfl) (hz : C.X.env.scope.names.lookup z = some .local := by rfl)
    (hw : swappedStores [.Tuple [.Name x px, .Name y py, .Name z pz] kt pt] (.Tuple [a, b, c] k2 pt2) C.X.env = pure (some [x, y, z]) := by rfl)
    (hs : swapsWithSole [.Tuple [.Name x px, .Name y py, .Name z pz] kt pt] (.Tuple [a, b, c] k2 pt2) pos.line C.X.env = pure false := by rfl) : AS C (.Assign [.Tuple [.Name x px, .Name y py, .Name z pz] kt pt] (.Tuple [a, b, c] k2 pt2) pos) Γ L E := fun F σ H ok DD go =>
  ws_of (ps_par3 C.calm C.nd hi hj hl hij hil hjl hx hy hz pa_we hw hs) (h _ σ H ok _ fun vs ds H1 L1 r c f ⟨d1, d2, d3, ed, q⟩ => by
    subst ed
    cases r with
    | cons r1 rr =>
      obtain ⟨v, w, rfl, r2, r3⟩ := Reps.twoE rr
      exact ⟨_, v, w, rfl, go.nx _ H1 _ L1 ⟨(((ok.sl.mono f.mv).set i r1).set j r2).set l r3, c, ok.lr.step f⟩ f q⟩)
theorem as_aug (i : Nat) {x : Str} {op : Operator} {ti : TIp} {d : D} (ho : PIp C.X op ti) (hg : Γ[i]? = some (some d)) (h : AE C e Γ L fun y L1 => L2R C ti d y L1 fun z L2 => E.nx (Γ.set i (some z)) L2) (hi : C.X.N[i]? = some x := by rfl) (hx : Loc C.X.env.scope x := by first | exact Or.inl rfl | exact Or.inr rfl)
    (hf : C.X.fn x = true ∨ C.X.env.scope.names.lookup x = some .local := by first | exact .inl rfl | exact .inr rfl) : AS C (.AugAssign (.Name x p1) op e pos) Γ L E := fun F σ H ok DD go => by
  obtain ⟨v, ev, rv⟩ := ok.sl.get i d hg
  exact ws_of (ps_aug C.nd hi hx pe_we ho hf) ⟨v, ev, h _ σ H ok _ fun w y H1 L1 r c f q => q _ v w H1 c (rv.mono f.mv) r _ fun u z H2 L2 r2 c2 f2 q2 => go.nx _ H2 _ L2 ⟨((ok.sl.mono f.mv).mono f2.mv).set i r2, c2, ok.lr.step (f.trans f2)⟩ (f.trans f2) q2⟩
theorem r_ipI {f : Int → Int → Int} {i j : Int} (q : Q (.int (f i j)) L) : L2R C (ipI f) (.int i) (.int j) L Q := fun F vx vy H c rx ry QV go => ⟨i, j, rx.intE, ry.intE, go _ _ H L (.int _) c (.refl L H) q⟩
theorem as_expr (h : AE C e Γ L fun _ L1 => E.nx Γ L1) (hs : swapsWith e none pos.line C.X.env = pure false := by rfl) : AS C (.Expr e pos) Γ L E := fun F σ H ok DD go =>
  ws_of (ps_expr pe_we hs) (h _ σ H ok _ fun v d H1 L1 r c f q => go.nx σ H1 Γ L1 (ok.step c f) f q)
theorem as_ret (h : AE C e Γ L E.rt) : AS C (.Return (some e) pos) Γ L E := fun F σ H ok DD go => ws_of (ps_ret pe_we) (h _ σ H ok _ fun v d H1 L1 r c f q => go.rt v d H1 L1 r c f q)
theorem as_retN (q : E.rt .non L) : AS C (.Return none pos) Γ L E := fun F σ H ok DD go => ws_of ps_retN (go.rt _ _ H L .non ok.con (.refl L H) q)
theorem as_pass (q : E.nx Γ L) : AS C (.Pass pos) Γ L E := fun F σ H ok DD go => ws_of ps_pass (go.nx σ H Γ L ok (.refl L H) q)
theorem as_break (q : E.bk Γ L) : AS C (.Break pos) Γ L E := fun F σ H ok DD go => ws_of ps_break (go.bk σ H Γ L ok (.refl L H) q)
theorem as_continue (q : E.ct Γ L) : AS C (.Continue pos) Γ L E := fun F σ H ok DD go => ws_of ps_continue (go.ct σ H Γ L ok (.refl L H) q)
theorem as_if {A B : List Stmt} (h : AT C c Γ L fun k L1 => (k = true → ASs C A Γ L1 E) ∧ (k = false → ASs C B Γ L1 E)) : AS C (.If c A B pos) Γ L E := fun F σ H ok DD go =>
  ws_of (ps_if pt_we pss_we pss_we) (h _ σ H ok _ fun k H1 L1 c f q => by
    cases k with
    | true => exact (q.1 rfl) _ σ H1 (ok.step c f) DD (go.after f)
    | false => exact (q.2 rfl) _ σ H1 (ok.step c f) DD (go.after f))
theorem as_never (h : False) : AS C st Γ L E := h.elim
/-- o[i] = e, by a rule -/
def L3R (C : Ctx) (r : TSet) (o i v : D) (L : Lp) (Q : Lp → Prop) : Prop := ∀ F vo vi vv H, C.Con L F H → Rep C.X.K F H vo o → Rep C.X.K F H vi i → Rep C.X.K F H vv v → ∀ QV : Hp → Prop, (∀ {F'} H' L', C.Con L' F' H' → Fr L F H L' F' H' → Q L' → QV H') → r vo vi vv H QV
theorem as_sub {t : TSet} (hset : PSet C.X t) (h : AE C e Γ L fun v L1 => AE C o Γ L1 fun x L2 => AE C b Γ L2 fun i L3 => L3R C t x i v L3 fun L4 => E.nx Γ L4)
    (hs : swapsWithSole [.Subscript o b p1] e pos.line C.X.env = pure false := by rfl) (hw : swappedStores [.Subscript o b p1] e C.X.env = pure none := by rfl) (h1 : (assignEach [.Subscript o b p1] C.X.env).map (·.2) = [assign (.Subscript o b p1) C.X.env] := by rfl)
    (ha : ∀ v, assign (.Subscript o b p1) C.X.env v = (do
      let ov ← holding [v] (eval o C.X.env)
      let iv ← holding [v, ov] (eval b C.X.env)
      standAt p1
      holding [v, ov, iv] (setItem ov iv v)
      release [v, ov, iv] []) := by intro _; rfl) : AS C (.Assign [.Subscript o b p1] e pos) Γ L E := fun F σ H ok DD go =>
  ws_of (ps_asg pe_we (pg_sub pe_we pe_we hset ha) hs hw h1) (h _ σ H ok _ fun vv v H1 L1 r1 c1 f1 q1 => q1 _ σ H1 (ok.step c1 f1) _ fun vo x H2 L2 r2 c2 f2 q2 => q2 _ σ H2 (ok.step c2 (f1.trans f2)) _ fun vi i H3 L3 r3 c3 f3 q3 =>
    q3 _ vo vi vv H3 c3 (r2.mono f3.mv) r3 ((r1.mono f2.mv).mono f3.mv) _ fun H4 L4 c4 f4 q4 => go.nx σ H4 Γ L4 (ok.step c4 (((f1.trans f2).trans f3).trans f4)) (((f1.trans f2).trans f3).trans f4) q4)
theorem w_list {p : Addr} {xs : List D} {k : Int} {j : Nat} {v : D} {Q : Lp → Prop} (hp : L p = some (.lst xs)) (hj : ixN xs.length k = some j) (q : Q (put L p (.lst (xs.set j v)))) : L3R C rSetL (.ptr p) (.int k) v L Q := fun F vo vi vv H c ro ri rv QV go => by
  obtain ⟨ws, ha, ra, hz⟩ := c.at_ p _ hp
  have s := Mv.write (o := .lst (ws.set j vv)) c hp
  exact ⟨p, ws, k, j, ro.ptrE, ri.intE, ha, by rw [ra.length]; exact hj, go _ (put L p (.lst (xs.set j v))) (c.write hp ⟨_, upd_same, (Reps.set rv j ra).mono s, by rw [List.length_set]; exact hz⟩) (.write c hp) q⟩

/-! ### while -/
theorem as_while {body : List Stmt} (I : Nat → Gm → Lp → Prop) (m0 : Nat) (h0 : I m0 Γ L)
    (hs : ∀ m Γ1 L1, I m Γ1 L1 → AT C c Γ1 L1 fun k L2 => (k = true → ASs C body Γ1 L2 { E with nx := fun Γ' L' => ∃ m', m' < m ∧ I m' Γ' L', ct := fun Γ' L' => ∃ m', m' < m ∧ I m' Γ' L', bk := E.nx }) ∧ (k = false → E.nx Γ1 L2)) : AS C (.While c body [] pos) Γ L E := fun F σ H ok DD go => by
  refine ws_of (ps_while C.po pt_we pss_we) ⟨fun m σ1 H1 => ∃ Γ1 L1 F1, Ok C Γ1 L1 F1 σ1 H1 ∧ Fr L F H L1 F1 H1 ∧ I m Γ1 L1, ⟨m0, Γ, L, F, ok, .refl L H, h0⟩, ?_⟩
  rintro m σ1 H1 ⟨Γ1, L1, F1, ok1, f1, i1⟩
  refine hs m Γ1 L1 i1 _ σ1 H1 ok1 _ fun k H2 L2 c2 f2 q => ?_
  cases k with
  | true =>
    refine ⟨fun σ' H' => ∃ m', m' < m ∧ ∃ Γ1 L1 F', Ok C Γ1 L1 F' σ' H' ∧ Fr L F H L1 F' H' ∧ I m' Γ1 L1, fun σ' H' h => h, ?_⟩
    refine (q.1 rfl) _ σ1 H2 (ok1.step c2 f2) _ ⟨fun s H3 Γ3 L3 o f3 ⟨m', hm, i3⟩ => ⟨m', hm, Γ3, L3, _, o, (f1.trans f2).trans f3, i3⟩, fun v d H3 L3 r3 c3 f3 q3 => go.rt v d H3 L3 r3 c3 ((f1.trans f2).trans f3) q3,
      fun s H3 Γ3 L3 o f3 q3 => go.nx s H3 Γ3 L3 o ((f1.trans f2).trans f3) q3, fun s H3 Γ3 L3 o f3 ⟨m', hm, i3⟩ => ⟨m', hm, Γ3, L3, _, o, (f1.trans f2).trans f3, i3⟩⟩
  | false => exact go.nx σ1 H2 Γ1 L2 (ok1.step c2 f2) (f1.trans f2) (q.2 rfl)

/-! ### what is walked -/
/-- J gives the items ds, wherever the store is as G says -/
def IsIt (C : Ctx) (J : It) (ds : List D) (G : Lp → Prop) (L0 : Lp) (F0 : Fz) (H0 : Hp) : Prop := ∀ {F} (i : Nat) (H : Hp) (L : Lp), Fr L0 F0 H0 L F H → C.Con L F H → G L →
  (i < ds.length → J.go i H) ∧ (i = ds.length → J.stop i H) ∧ ∀ x H', J.yld i H x H' → i < ds.length → ∃ d, ds[i]? = some d ∧ Rep C.X.K F H' x d ∧ (H' = H ∨ ∃ T vs, H T = none ∧ H' = upd H T (.tup vs))
structure WI (X : Cx) (tg iter : Expr) (σ : L2.St) (H : Hp) (R : It → Hp → Prop) : Prop where
  run : ∀ (pins : List (Addr × Obj)) (s : Shared), Inv X pins σ H s → wpAny (model X.prog X.w) X.A (eval iter X.env) (fun v s1 => wpAny (model X.prog X.w) X.A (pyIter v) (PIE X pins σ tg R) X.xe s1) X.xe s
theorem pi_wi {X : Cx} {tg iter : Expr} : PI X tg iter (WI X tg iter) := ⟨fun pins s σ H R I h => h.run pins s I⟩
theorem wi_of {X : Cx} {tg iter : Expr} {w : TI} {σ : L2.St} {H : Hp} {R : It → Hp → Prop} (h : PI X tg iter w) (q : w σ H R) : WI X tg iter σ H R := ⟨fun pins s I => h.run pins s σ H R I q⟩
def AI (C : Ctx) (tg iter : Expr) (Γ : Gm) (L : Lp) (R : List D → (Lp → Prop) → Lp → Prop) : Prop := ∀ F σ H, Ok C Γ L F σ H → ∀ RV : It → Hp → Prop, (∀ {F'} J H' L' ds G, C.Con L' F' H' → Fr L F H L' F' H' → IsIt C J ds G L' F' H' → R ds G L' → RV J H') → WI C.X tg iter σ H RV
theorem ai_tup {R : List D → (Lp → Prop) → Lp → Prop} (h : AE C e Γ L fun d L1 => ∃ ds, d = .tup ds ∧ (ds.length ≤ sizeLine → R ds (fun _ => True) L1)) : AI C tg e Γ L R := fun F σ H ok RV go =>
  wi_of (pi_tup pe_we) (h _ σ H ok _ fun v d H1 L1 r c f ⟨ds, ed, q⟩ => by
    subst ed
    obtain ⟨a, vs, rfl, ha, ra⟩ := r.tupE
    refine ⟨a, rfl, ⟨vs, SqT.of ha⟩, go _ H1 L1 ds (fun _ => True) c f (fun i H2 L2 s2 c2 _ => ?_) (q r.bnd)⟩
    have hq : SqT C.X.K H2 a vs := SqT.of (s2.stay.tup _ _ ha)
    refine ⟨fun hi => ⟨vs, vs[i]'(by rw [ra.length]; exact hi), hq, List.getElem?_eq_getElem _⟩, fun hi => ⟨vs, hq, by rw [ra.length, hi]; exact Nat.le_refl _⟩, fun x H' y hi => ?_⟩
    obtain ⟨e1, y⟩ := y
    subst e1
    obtain ⟨d, hd, rd⟩ := ra.getV (y vs hq)
    exact ⟨d, hd, rd.mono s2.mv, .inl rfl⟩)
theorem ai_lst {R : List D → (Lp → Prop) → Lp → Prop} (h : AE C e Γ L fun d L1 => ∃ p ds, d = .ptr p ∧ L1 p = some (.lst ds) ∧ (ds.length ≤ sizeLine → R ds (fun L => L p = some (.lst ds)) L1)) : AI C tg e Γ L R := fun F σ H ok RV go =>
  wi_of (pi_list pe_we) (h _ σ H ok _ fun v d H1 L1 r c f ⟨p, ds, ed, hp, q⟩ => by
    subst ed
    obtain ⟨vs, ha, ra, hz⟩ := c.at_ p _ hp
    refine ⟨p, r.ptrE, ⟨vs, SqL.of ha⟩, go _ H1 L1 ds _ c f (fun i H2 L2 s2 c2 g2 => ?_) (q hz)⟩
    obtain ⟨us, hb, rb, _⟩ := c2.at_ p _ g2
    have hq : SqL C.X.K H2 p us := SqL.of hb
    refine ⟨fun hi => ⟨us, us[i]'(by rw [rb.length]; exact hi), hq, List.getElem?_eq_getElem _⟩, fun hi => ⟨us, hq, by rw [rb.length, hi]; exact Nat.le_refl _⟩, fun x H' y hi => ?_⟩
    obtain ⟨e1, y⟩ := y
    subst e1
    obtain ⟨d, hd, rd⟩ := rb.getV (y us hq)
    exact ⟨d, hd, rd, .inl rfl⟩)
def rangeD (lo : Int) (n : Nat) : List D := (List.range n).map fun k => .int (lo + (k : Nat))
theorem rangeD_len (lo : Int) (n : Nat) : (rangeD lo n).length = n := by unfold rangeD; simp
theorem rangeD_get {lo : Int} {n i : Nat} (h : i < n) : (rangeD lo n)[i]? = some (.int (lo + i)) := by unfold rangeD; simp [h]
theorem rangeD_inv {lo : Int} {n i : Nat} {d : D} (h : (rangeD lo n)[i]? = some d) : i < n ∧ d = .int (lo + i) := by
  have hi : i < n := by
    have := (List.getElem?_eq_some_iff.mp h).1
    rwa [rangeD_len] at this
  rw [rangeD_get hi] at h
  exact ⟨hi, (Option.some.inj h).symm⟩
theorem itr_is {J : It} {lo : Int} {n : Nat} {L0 : Lp} {F0 : Fz} {H0 : Hp} (hJ : J = Itr lo n) : IsIt C J (rangeD lo n) (fun _ => True) L0 F0 H0 := by
  subst hJ
  intro F i H L s c g
  rw [rangeD_len]
  refine ⟨fun h => h, fun h => Nat.le_of_eq h.symm, fun x H' y hi => ?_⟩
  obtain ⟨e1, e2⟩ := y
  subst e1 e2
  exact ⟨_, rangeD_get hi, .int _, .inl rfl⟩
theorem ai_range1 {p : Pos} {R : List D → (Lp → Prop) → Lp → Prop} (hm : C.X.mg "range" = none) (h : AE C e Γ L fun d L1 => ∃ j : Int, d = .int j ∧ -(2 ^ 62) ≤ j ∧ j < 2 ^ 62 ∧ R (rangeD 0 j.toNat) (fun _ => True) L1) (hg : Gl C.X "range" := by rfl) (hs : starEach [e] C.X.env = [(false, eval e C.X.env)] := by rfl) :
    AI C tg (.Call (.Name "range" p) [e] [] pos) Γ L R := fun F σ H ok RV go =>
  wi_of (pi_range1 hg hm (pa_cons pe_we pa_nil hs) hs) (h _ σ H ok _ fun v d H1 L1 r c f ⟨j, ed, h1, h2, q⟩ => by
    subst ed
    exact ⟨j, by rw [r.intE], h1, h2, go _ H1 L1 _ _ c f (itr_is rfl) q⟩)

/-! ### for -/
theorem as_for {iter : Expr} {body : List Stmt} (h : AI C tg iter Γ L fun ds G L1 => ∃ I : Nat → Gm → Lp → Prop, I 0 Γ L1 ∧ (∀ i Γ2 L2, I i Γ2 L2 → G L2) ∧
      (∀ i d Γ2 L2, ds[i]? = some d → I i Γ2 L2 → ∃ Γ3 ws, AG C tg d Γ2 Γ3 ws ∧ ASs C body Γ3 L2 { E with nx := I (i + 1), ct := I (i + 1), bk := E.nx }) ∧ ∀ Γ2 L2, I ds.length Γ2 L2 → E.nx Γ2 L2)
    (hs : ∀ x, foldedSetIterable iter C.X.env x = pure x := by intro _; rfl) : AS C (.For tg iter body [] pos) Γ L E := fun F σ H ok DD go => by
  refine ws_of (ps_for C.po C.calm pi_wi pg_wg pss_we hs) (h _ σ H ok _ fun {F1} J H1 L1 ds G c1 f1 it ⟨I, i0, hG, hb, hd⟩ => ?_)
  refine ⟨fun i m σ2 H2 => m = ds.length - i ∧ i ≤ ds.length ∧ ∃ Γ2 L2 F2, Ok C Γ2 L2 F2 σ2 H2 ∧ Fr L1 F1 H1 L2 F2 H2 ∧ I i Γ2 L2, ⟨ds.length, by simp, Nat.zero_le _, Γ, L1, F1, ok.step c1 f1, .refl L1 H1, i0⟩, ?_⟩
  rintro i m σ2 H2 ⟨rfl, hi, Γ2, L2, F2, ok2, f2, i2⟩
  obtain ⟨k1, k2, k3⟩ := it i H2 L2 f2 ok2.con (hG i Γ2 L2 i2)
  by_cases hlt : i < ds.length
  · refine .inr ⟨k1 hlt, fun σ' H' => ∃ Γ3 L3 F', Ok C Γ3 L3 F' σ' H' ∧ Fr L1 F1 H1 L3 F' H' ∧ I (i + 1) Γ3 L3, fun σ' H' hN => ⟨ds.length - (i + 1), by omega, rfl, hlt, hN⟩, fun x H' y => ?_⟩
    obtain ⟨d, hd2, rd, hH⟩ := k3 x H' y hlt
    obtain ⟨Γ3, ws, ag, bd⟩ := hb i d Γ2 L2 hd2 i2
    have fH : Fr L2 F2 H2 L2 F2 H' := by
      rcases hH with e | ⟨T, vs, nT, e⟩
      · rw [e]; exact .refl L2 H2
      · rw [e]; exact .new nT
    have cH : C.Con L2 F2 H' := by
      rcases hH with e | ⟨T, vs, nT, e⟩
      · rw [e]; exact ok2.con
      · rw [e]; exact ok2.con.new nT
    refine ag _ σ2 H' x (ok2.sl.mono fH.mv) rd _ fun σ3 sl3 _ => ?_
    refine bd _ σ3 H' ⟨sl3, cH, ok2.lr.step fH⟩ _ ⟨fun s H4 Γ4 L4 o f4 q4 => ⟨Γ4, L4, _, o, (f2.trans fH).trans f4, q4⟩, fun v d4 H4 L4 r4 c4 f4 q4 => go.rt v d4 H4 L4 r4 c4 (f1.trans ((f2.trans fH).trans f4)) q4,
      fun s H4 Γ4 L4 o f4 q4 => go.nx s H4 Γ4 L4 o (f1.trans ((f2.trans fH).trans f4)) q4, fun s H4 Γ4 L4 o f4 q4 => ⟨Γ4, L4, _, o, (f2.trans fH).trans f4, q4⟩⟩
  · have e : i = ds.length := by omega
    exact .inl ⟨k2 e, go.nx σ2 H2 Γ2 L2 ok2 (f1.trans f2) (hd Γ2 L2 (by rw [← e]; exact i2))⟩
end
end DL
namespace DL
open PySem PySem.Spec PyProof.Rows L2

def fctx (P : Program) (w : World) (K : PySem.W.Frag) (mg : Str → Option Value) (base : Heap) (N : List Str) (qual : Str) (scope : Scope) (f : Addr) (cdv : Value) (A : Around) (outer : List Env) (s : Shared) (H : Hp) (E : XK) (nd : N.Nodup) (R : Value → List (Str × D) → Lp → Prop) : Ctx where
  X := cxOf (L2.CX P w) P w K mg base N qual scope f cdv A outer s H E
  W := fun cls d _ H => E cls d H
  R := fun _ => R
  tk := takes_of rfl rfl rfl rfl
  po := passes_of rfl
  calm := rfl
  nd := nd

/-! ### comprehensions -/
/-- the context of a comprehension's block -/
def bctx (C : Ctx) (scope : Scope) (s : Shared) (H : Hp) (Cc : Addr) (cl : List (Str × Addr)) (fp : List Addr) : Ctx where
  X := C.X.blk s H scope (compEnvC scope cl Cc C.X.env) fp
  W := fun _ _ _ _ => False
  R := fun _ _ _ _ => False
  tk := takes0
  po := PassesOwn.never
  calm := C.calm
  nd := C.nd
structure WTs (X : Cx) (ifs : List Expr) (σ : L2.St) (H : Hp) (Q : Bool → Hp → Prop) : Prop where
  run : ∀ (pins : List (Addr × Obj)) (s : Shared), Inv X pins σ H s →
  wpAny (model X.prog X.w) X.A (forIn ifs true fun c r => if r = true then do let ok ← isTrue c X.env (eval c X.env); pure (ForInStep.yield ok) else pure (ForInStep.yield r)) (TP X pins σ Q) X.xe s
def ATs (C : Ctx) (ifs : List Expr) (Γ : Gm) (L : Lp) (Q : Bool → Lp → Prop) : Prop := ∀ F σ H, Ok C Γ L F σ H → ∀ QV, GoT C L F H Q QV → WTs C.X ifs σ H QV
section
variable {C : Ctx} {Γ Γ1 Γ2 : Gm} {L : Lp} {e a b c o tg : Expr} {es ts : List Expr} {pos p1 p2 : Pos} {st : Stmt} {sts : List Stmt} {E : AEnds} {Q : D → Lp → Prop} {d : D} {ds : List D} {ws zs : List Nat}
theorem ats_nil {Q : Bool → Lp → Prop} (q : Q true L) : ATs C [] Γ L Q := fun F σ H ok QV go => ⟨fun pins s I => pts_nil.run pins s σ H QV I (go true H L ok.con (.refl L H) q)⟩
theorem ats_one {Q : Bool → Lp → Prop} (h : AT C c Γ L Q) : ATs C [c] Γ L Q := fun F σ H ok QV go => ⟨fun pins s I => (pts_one pt_we).run pins s σ H QV I (h _ σ H ok QV go)⟩

def wipeG (Γ : Gm) : List Nat → Gm
  | [] => Γ
  | v :: vs => (wipeG Γ vs).set v none
theorem wipeG_len (Γ : Gm) : ∀ vs : List Nat, (wipeG Γ vs).length = Γ.length
  | [] => rfl
  | v :: vs => by unfold wipeG; rw [List.length_set, wipeG_len Γ vs]
theorem wipe_at (σ : L2.St) (j : Nat) : ∀ vs : List Nat, (wipe σ vs)[j]? = if j ∈ vs then (if j < σ.length then some none else none) else σ[j]?
  | [] => by simp [wipe]
  | v :: vs => by
    unfold wipe
    by_cases h : j = v
    · subst h
      by_cases hl : j < σ.length
      · rw [List.getElem?_set_self (by rw [wipe_length]; exact hl)]
        simp [hl]
      · rw [List.getElem?_eq_none (by simp [wipe_length]; omega)]
        simp [hl]
    · rw [List.getElem?_set_ne (Ne.symm h), wipe_at σ j vs]
      simp [h]
theorem wipeG_at (Γ : Gm) (j : Nat) : ∀ vs : List Nat, (wipeG Γ vs)[j]? = if j ∈ vs then (if j < Γ.length then some none else none) else Γ[j]?
  | [] => by simp [wipeG]
  | v :: vs => by
    unfold wipeG
    by_cases h : j = v
    · subst h
      by_cases hl : j < Γ.length
      · rw [List.getElem?_set_self (by rw [wipeG_len]; exact hl)]
        simp [hl]
      · rw [List.getElem?_eq_none (by simp [wipeG_len]; omega)]
        simp [hl]
    · rw [List.getElem?_set_ne (Ne.symm h), wipeG_at Γ j vs]
      simp [h]
theorem Sl.wipe {K : PySem.W.Frag} {F : Fz} {H : Hp} {σ : L2.St} (x : Sl K F H σ Γ) (vs : List Nat) : Sl K F H (wipe σ vs) (wipeG Γ vs) := by
  refine ⟨by rw [wipe_length, wipeG_len]; exact x.len, fun i d e => ?_⟩
  rw [wipeG_at] at e
  rw [wipe_at]
  by_cases h : i ∈ vs
  · rw [if_pos h] at e
    split at e <;> cases e
  · rw [if_neg h] at e ⊢
    exact x.get i d e
theorem But.wiped {vs ws : List Nat} {σ σ' : L2.St} (b : But ws (wipe σ vs) σ') (h : ∀ j ∈ ws, j ∈ vs) : wipe σ' vs = wipe σ vs := by
  apply List.ext_getElem?
  intro j
  have hl : σ'.length = σ.length := by rw [b.len, wipe_length]
  rw [wipe_at, wipe_at, hl]
  by_cases hj : j ∈ vs
  · rw [if_pos hj, if_pos hj]
  · rw [if_neg hj, if_neg hj, b.at_ j (fun z => hj (h j z)), wipe_at, if_neg hj]
theorem Stay.lst {H : Hp} {p : Addr} {xs : List V} {o : HO} (h : H p = some (.lst xs)) : Stay H (upd H p o) :=
  ⟨fun a vs e => by rw [upd_ne (fun q => by rw [q, h] at e; cases e)]; exact e, fun a ob u e => by rw [upd_ne (fun q => by rw [q, h] at e; cases e)]; exact e, fun a e => by rw [upd_ne (fun q => by rw [q, h] at e; cases e)]; exact e⟩

abbrev gB (C : Ctx) (scope : Scope) (tg : Expr) : TG := fun v σ H Q => ∀ s H0 Cc cl fp, WG (bctx C scope s H0 Cc cl fp).X tg v σ H Q
abbrev ttB (C : Ctx) (scope : Scope) (ifs : List Expr) : TT := fun σ H Q => ∀ s H0 Cc cl fp, WTs (bctx C scope s H0 Cc cl fp).X ifs σ H Q
abbrev teB (C : Ctx) (scope : Scope) (elt : Expr) : TE := fun σ H Q => ∀ s H0 Cc cl fp, WE (bctx C scope s H0 Cc cl fp).X elt σ H Q
/-! an object that no one else knows: neither in the store nor frozen -/
theorem Fr.hid {L L' : Lp} {F F' : Fz} {H H' : Hp} {D : Addr} {o : HO} (f : Fr L F H L' F' H') (h : H D = some o) (ho : ∀ y, o ≠ .own y) (lD : L D = none) (fD : ¬ F D) : L' D = none ∧ ¬ F' D ∧ H' D = some o := by
  refine ⟨?_, fun z => ?_, f.keep D o h ho lD⟩
  · cases e : L' D with
    | none => rfl
    | some u =>
      rcases f.dom D (by rw [e]; simp) with z | z
      · exact absurd lD z
      · rw [h] at z
        cases z
  · rcases f.off D z with z | z | z
    · exact fD z
    · exact z lD
    · rw [h] at z
      cases z
theorem Mv.hid {F : Fz} {H : Hp} {D : Addr} {o : HO} (st : Stay H (upd H D o)) (fD : ¬ F D) : Mv F H F (upd H D o) := ⟨st, fun _ z => z, fun a u z e => by
  have ea : a ≠ D := fun q => fD (q ▸ z)
  rw [upd_ne ea]
  exact e⟩
theorem Con.hid {P : Program} {w : World} {K : PySem.W.Frag} {L : Lp} {F : Fz} {H : Hp} {D : Addr} {o : HO} (c : Con P w K L F H) (st : Stay H (upd H D o)) (lD : L D = none) (fD : ¬ F D) : Con P w K L F (upd H D o) := ⟨fun a u e => (c.at_ a u e).mono (.hid st fD) (upd_ne (ne_of_free e lD)), fun a z => by
  have ea : a ≠ D := fun q => fD (q ▸ z)
  rw [upd_ne ea]
  exact c.fz a z⟩
theorem Fr.hidw {L L1 : Lp} {F F1 : Fz} {H H1 : Hp} {D : Addr} {o : HO} (f : Fr L1 F1 H1 L F H) (hD : H1 D = none) (f1D : ¬ F1 D) (st : Stay H (upd H D o)) : Fr L1 F1 H1 L F (upd H D o) :=
  ⟨fun a u ea qa na => by rw [upd_ne (ne_of_none ea hD)]; exact f.keep a u ea qa na, fun a h => upd_live (f.live a h), f.stay.trans st, f.dom, f.fz, fun a u z e => by rw [upd_ne (ne_of_none e hD)]; exact f.fk a u z e, f.off⟩
theorem Con.shw {P : Program} {w : World} {K : PySem.W.Frag} {L : Lp} {F : Fz} {H : Hp} {D : Addr} {mo : MO} (c : Con P w K L F H) (fD : ¬ F D) (x : At P w K F H D mo) : Con P w K (put L D mo) F H := ⟨fun a u ea => by
  by_cases ed : a = D
  · subst ed
    rw [put_same] at ea
    cases ea
    exact x
  · rw [put_ne ed] at ea
    exact c.at_ a u ea, fun a z => by
  have ea : a ≠ D := fun q => fD (q ▸ z)
  rw [put_ne ea]
  exact c.fz a z⟩
theorem Fr.shw {L L2 : Lp} {F F2 : Fz} {H H2 : Hp} {D : Addr} {mo : MO} (f : Fr L F H L2 F2 H2) (hD : H D = none) : Fr L F H (put L2 D mo) F2 H2 :=
  ⟨f.keep, f.live, f.stay, fun a z => by
    by_cases ea : a = D
    · exact .inr (by rw [ea]; exact hD)
    · rw [put_ne ea] at z
      exact f.dom a z, f.fz, f.fk, f.off⟩
theorem Fr.nul {L L' : Lp} {F F' : Fz} {H H' : Hp} (f : Fr L F H L' F' H') {a : Addr} (h : H' a = none) : H a = none := by
  cases e : H a with
  | none => rfl
  | some o => exact absurd h (f.live a (by rw [e]; simp))
def AIp (C : Ctx) (tg iter : Expr) (L : Lp) (F : Fz) (σ : L2.St) (H : Hp) (R : List D → (Lp → Prop) → Lp → Prop) : Prop := ∀ RV : It → Hp → Prop, (∀ {F'} J H' L' ds G, C.Con L' F' H' → Fr L F H L' F' H' → IsIt C J ds G L' F' H' → R ds G L' → RV J H') → WI C.X tg iter σ H RV
/-- [elt for tg in iter if ..]: I i acc L, what holds ahead of the i-th item, acc the list so far -/
theorem lc_read0 {own : List (Str × Nat)} {scope : Scope} {elt iter : Expr} {ifs : List Expr}
    {F : Fz} {σ : L2.St} {H : Hp} (okk : Ok C Γ L F σ H) {QV : VK} (go : Go C L F H Q QV) (h : AIp C tg iter L F σ H fun ds G L1 => ∃ I : Nat → List D → Lp → Prop, I 0 [] L1 ∧ (∀ i acc L2, I i acc L2 → G L2) ∧
      (∀ i d acc L2, ds[i]? = some d → I i acc L2 → ∃ Γ3 ws, (∀ j ∈ ws, j ∈ own.map (·.2)) ∧ ∀ s H Cc cl fp, AG (bctx C scope s H Cc cl fp) tg d (wipeG Γ (own.map (·.2))) Γ3 ws ∧
        ATs (bctx C scope s H Cc cl fp) ifs Γ3 L2 fun k L3 => (k = true → ∀ s H Cc cl fp, AE (bctx C scope s H Cc cl fp) elt Γ3 L3 fun y L4 => acc.length < sizeLine ∧ I (i + 1) (acc ++ [y]) L4) ∧ (k = false → I (i + 1) acc L3)) ∧
      ∀ acc L2, I ds.length acc L2 → ∀ p, L2 p = none → Q (.ptr p) (put L2 p (.lst acc))) : tLc (WI C.X tg iter) (gB C scope tg) (ttB C scope ifs) (teB C scope elt) (own.map (·.2)) σ H QV := by
  refine h _ fun {F1} J H1 L1 ds G c1 f1 it ⟨I, i0, hG, hb, hd⟩ => ?_
  intro D hD
  have f1D := c1.nf hD
  refine ⟨fun i m H2 => m = ds.length - i ∧ i ≤ ds.length ∧ ∃ L2 F2 acc vacc, acc.length ≤ sizeLine ∧ C.Con L2 F2 H2 ∧ Fr L1 F1 H1 L2 F2 H2 ∧ L2 D = none ∧ ¬ F2 D ∧ H2 D = some (.lst vacc) ∧ Reps C.X.K F2 H2 vacc acc ∧ I i acc L2, ⟨ds.length, by simp, Nat.zero_le _, L1, F1, [], [], Nat.zero_le _, c1.new hD, .new hD, c1.free hD, f1D, upd_same, .nil, i0⟩, ?_⟩
  rintro i m H2 ⟨rfl, hi, L2, F2, acc, vacc, hacc, c2, f2, lD, fD, hD2, ra, i2⟩
  obtain ⟨k1, k2, k3⟩ := it i H2 L2 f2 c2 (hG i acc L2 i2)
  by_cases hlt : i < ds.length
  · refine .inr ⟨k1 hlt, fun H3 => ∃ L2 F2 acc vacc, acc.length ≤ sizeLine ∧ C.Con L2 F2 H3 ∧ Fr L1 F1 H1 L2 F2 H3 ∧ L2 D = none ∧ ¬ F2 D ∧ H3 D = some (.lst vacc) ∧ Reps C.X.K F2 H3 vacc acc ∧ I (i + 1) acc L2, fun H3 hN => ⟨ds.length - (i + 1), by omega, rfl, hlt, hN⟩, fun x H' y => ?_⟩
    obtain ⟨d, hd2, rd, hH⟩ := k3 x H' y hlt
    have fH : Fr L2 F2 H2 L2 F2 H' := by
      rcases hH with e | ⟨T, vs, nT, e⟩
      · rw [e]; exact .refl L2 H2
      · rw [e]; exact .new nT
    have cH : C.Con L2 F2 H' := by
      rcases hH with e | ⟨T, vs, nT, e⟩
      · rw [e]; exact c2
      · rw [e]; exact c2.new nT
    obtain ⟨_, _, hD3⟩ := fH.hid hD2 (fun _ z => nomatch z) lD fD
    have slw : Sl C.X.K F2 H' (wipe σ (own.map (·.2))) (wipeG Γ (own.map (·.2))) := (okk.sl.mono ((f1.trans f2).trans fH).mv).wipe _
    obtain ⟨Γ3, ws, hws, hbody⟩ := hb i d acc L2 hd2 i2
    intro s0 H0 Cc cl fp
    refine (hbody s0 H0 Cc cl fp).1 _ _ H' x slw rd _ fun σ3 sl3 but => ⟨But.wiped but hws, ?_⟩
    intro s1 H01 Cc1 cl1 fp1
    refine (hbody s1 H01 Cc1 cl1 fp1).2 _ σ3 H' ⟨sl3, cH, ⟨fun _ _ _ _ _ _ _ _ _ _ _ z => z.elim⟩⟩ _ fun k H3 L3 c3 f3 q3 => ?_
    have fr3 := (f2.trans fH).trans f3
    obtain ⟨lD3, fD3, hD4⟩ := f3.hid hD3 (fun _ z => nomatch z) lD fD
    cases k with
    | false =>
      rw [if_neg Bool.false_ne_true]
      exact ⟨L3, _, acc, vacc, hacc, c3, fr3, lD3, fD3, hD4, (ra.mono fH.mv).mono f3.mv, q3.2 rfl⟩
    | true =>
      rw [if_pos rfl]
      intro s2 H02 Cc2 cl2 fp2
      refine q3.1 rfl s2 H02 Cc2 cl2 fp2 _ σ3 H3 ⟨sl3.mono f3.mv, c3, ⟨fun _ _ _ _ _ _ _ _ _ _ _ z => z.elim⟩⟩ _ fun yv y H4 L4 r4 c4 f4 ⟨hz, q4⟩ => ?_
      obtain ⟨lD4, fD4, hD5⟩ := f4.hid hD4 (fun _ z => nomatch z) lD3 fD3
      have ra4 := ((ra.mono fH.mv).mono f3.mv).mono f4.mv
      have st : Stay H4 (upd H4 D (.lst (vacc ++ [yv]))) := .lst hD5
      exact ⟨vacc, hD5, by rw [ra4.length]; exact hz, L4, _, acc ++ [y], vacc ++ [yv], by rw [List.length_append]; exact hz, c4.hid st lD4 fD4, (fr3.trans f4).hidw hD f1D st, lD4, fD4, upd_same, (ra4.append (.cons r4 .nil)).mono (.hid st fD4), q4⟩
  · have e : i = ds.length := by omega
    exact .inl ⟨k2 e, go _ _ H2 (put L2 D (.lst acc)) (.ptr D) (c2.shw fD ⟨vacc, hD2, ra, hacc⟩) ((f1.trans f2).shw (f1.nul hD)) (hd acc L2 (by rw [← e]; exact i2) D lD)⟩

theorem lc_read {own : List (Str × Nat)} {scope : Scope} {elt iter : Expr} {ifs : List Expr}
    (h : AI C tg iter Γ L fun ds G L1 => ∃ I : Nat → List D → Lp → Prop, I 0 [] L1 ∧ (∀ i acc L2, I i acc L2 → G L2) ∧
      (∀ i d acc L2, ds[i]? = some d → I i acc L2 → ∃ Γ3 ws, (∀ j ∈ ws, j ∈ own.map (·.2)) ∧ ∀ s H Cc cl fp, AG (bctx C scope s H Cc cl fp) tg d (wipeG Γ (own.map (·.2))) Γ3 ws ∧
        ATs (bctx C scope s H Cc cl fp) ifs Γ3 L2 fun k L3 => (k = true → ∀ s H Cc cl fp, AE (bctx C scope s H Cc cl fp) elt Γ3 L3 fun y L4 => acc.length < sizeLine ∧ I (i + 1) (acc ++ [y]) L4) ∧ (k = false → I (i + 1) acc L3)) ∧
      ∀ acc L2, I ds.length acc L2 → ∀ p, L2 p = none → Q (.ptr p) (put L2 p (.lst acc))) {F : Fz} {σ : L2.St} {H : Hp} (okk : Ok C Γ L F σ H) {QV : VK} (go : Go C L F H Q QV) : tLc (WI C.X tg iter) (gB C scope tg) (ttB C scope ifs) (teB C scope elt) (own.map (·.2)) σ H QV :=
  lc_read0 okk go fun RV g => h _ σ H okk RV g

theorem ae_lc (own : List (Str × Nat)) {scope : Scope} {elt iter : Expr} {ifs : List Expr}
    (h : AI C tg iter Γ L fun ds G L1 => ∃ I : Nat → List D → Lp → Prop, I 0 [] L1 ∧ (∀ i acc L2, I i acc L2 → G L2) ∧
      (∀ i d acc L2, ds[i]? = some d → I i acc L2 → ∃ Γ3 ws, (∀ j ∈ ws, j ∈ own.map (·.2)) ∧ ∀ s H Cc cl fp, AG (bctx C scope s H Cc cl fp) tg d (wipeG Γ (own.map (·.2))) Γ3 ws ∧
        ATs (bctx C scope s H Cc cl fp) ifs Γ3 L2 fun k L3 => (k = true → ∀ s H Cc cl fp, AE (bctx C scope s H Cc cl fp) elt Γ3 L3 fun y L4 => acc.length < sizeLine ∧ I (i + 1) (acc ++ [y]) L4) ∧ (k = false → I (i + 1) acc L3)) ∧
      ∀ acc L2, I ds.length acc L2 → ∀ p, L2 p = none → Q (.ptr p) (put L2 p (.lst acc)))
    (ok : BlkOk C.X.N C.X.env.scope scope own := by (dsimp only [fctx, bctx, cxOf, envOfC, compEnvC, Cx.blk]; exact blkOk_by (by decide +kernel))) (hs : ∀ x, foldedSetIterable iter C.X.env x = pure x := by intro _; rfl) : AE C (.ListComp elt [⟨tg, iter, ifs, 0⟩] scope pos) Γ L Q := fun F σ H okk QV go =>
  we_of (pe_lc C.calm C.nd pi_wi ok (fun s H0 Cc cl fp => ⟨fun pins s1 σ1 H1 v u Q1 I r q => (q s H0 Cc cl fp).run pins s1 u I r⟩) (fun s H0 Cc cl fp => ⟨fun pins s1 σ1 H1 Q1 I q => (q s H0 Cc cl fp).run pins s1 I⟩) (fun s H0 Cc cl fp => ⟨fun pins s1 σ1 H1 Q1 I q => (q s H0 Cc cl fp).run pins s1 I⟩) hs) (lc_read h okk go)
/-- y = [..] -/
theorem as_setLc (n : Nat) (own : List (Str × Nat)) {y : Str} {py spos : Pos} {scope : Scope} {elt iter : Expr} {ifs : List Expr}
    (h : AI C tg iter Γ L fun ds G L1 => ∃ I : Nat → List D → Lp → Prop, I 0 [] L1 ∧ (∀ i acc L2, I i acc L2 → G L2) ∧
      (∀ i d acc L2, ds[i]? = some d → I i acc L2 → ∃ Γ3 ws, (∀ j ∈ ws, j ∈ own.map (·.2)) ∧ ∀ s H Cc cl fp, AG (bctx C scope s H Cc cl fp) tg d (wipeG Γ (own.map (·.2))) Γ3 ws ∧
        ATs (bctx C scope s H Cc cl fp) ifs Γ3 L2 fun k L3 => (k = true → ∀ s H Cc cl fp, AE (bctx C scope s H Cc cl fp) elt Γ3 L3 fun y L4 => acc.length < sizeLine ∧ I (i + 1) (acc ++ [y]) L4) ∧ (k = false → I (i + 1) acc L3)) ∧
      ∀ acc L2, I ds.length acc L2 → ∀ p, L2 p = none → E.nx (Γ.set n (some (.ptr p))) (put L2 p (.lst acc)))
    (hy : C.X.N[n]? = some y := by rfl) (hyl : C.X.env.scope.names.lookup y = some .local := by rfl) (hsw : swapsWith (.ListComp elt [⟨tg, iter, ifs, 0⟩] scope pos) (some (.Name y py)) spos.line C.X.env = pure true := by exact sw_true rfl rfl rfl (by decide +kernel))
    (ok : BlkOk C.X.N C.X.env.scope scope own := by (dsimp only [fctx, bctx, cxOf, envOfC, compEnvC, Cx.blk]; exact blkOk_by (by decide +kernel))) (hs : ∀ x, foldedSetIterable iter C.X.env x = pure x := by intro _; rfl) : AS C (.Assign [.Name y py] (.ListComp elt [⟨tg, iter, ifs, 0⟩] scope pos) spos) Γ L E := fun F σ H okk DD go =>
  ws_of (ps_setLc C.calm C.nd hy hyl hsw pi_wi ok (fun s H0 Cc cl fp => ⟨fun pins s1 σ1 H1 v u Q1 I r q => (q s H0 Cc cl fp).run pins s1 u I r⟩) (fun s H0 Cc cl fp => ⟨fun pins s1 σ1 H1 Q1 I q => (q s H0 Cc cl fp).run pins s1 I⟩) (fun s H0 Cc cl fp => ⟨fun pins s1 σ1 H1 Q1 I q => (q s H0 Cc cl fp).run pins s1 I⟩) hs)
    (lc_read (Q := fun d L1 => E.nx (Γ.set n (some d)) L1) h okk fun v d H1 L1 r c f q => go.nx _ H1 _ L1 ⟨(okk.sl.mono f.mv).set n r, c, okk.lr.step f⟩ f q)
/-- it evaluates to d, and the store stays -/
def AV (C : Ctx) (e : Expr) (Γ : Gm) (L : Lp) (d : D) : Prop := ∀ Q : D → Lp → Prop, Q d L → AE C e Γ L Q
/-- the pure case: ds.map f -/
theorem lc_map {own : List (Str × Nat)} {scope : Scope} {elt : Expr} {ds : List D} {G : Lp → Prop} {L1 : Lp} {Z : Addr → List D → Lp → Prop} (f : D → D) (hG : G L1) (hz : ds.length ≤ sizeLine)
    (hf : ∀ (i : Nat) (d : D), ds[i]? = some d → ∃ Γ3 ws, (∀ j ∈ ws, j ∈ own.map (·.2)) ∧ ∀ s H Cc cl fp, AG (bctx C scope s H Cc cl fp) tg d (wipeG Γ (own.map (·.2))) Γ3 ws ∧ AV (bctx C scope s H Cc cl fp) elt Γ3 L1 (f d))
    (q : ∀ p, L1 p = none → Z p (ds.map f) L1) : ∃ I : Nat → List D → Lp → Prop, I 0 [] L1 ∧ (∀ i acc L2, I i acc L2 → G L2) ∧
      (∀ i d acc L2, ds[i]? = some d → I i acc L2 → ∃ Γ3 ws, (∀ j ∈ ws, j ∈ own.map (·.2)) ∧ ∀ s H Cc cl fp, AG (bctx C scope s H Cc cl fp) tg d (wipeG Γ (own.map (·.2))) Γ3 ws ∧
        ATs (bctx C scope s H Cc cl fp) [] Γ3 L2 fun k L3 => (k = true → ∀ s H Cc cl fp, AE (bctx C scope s H Cc cl fp) elt Γ3 L3 fun y L4 => acc.length < sizeLine ∧ I (i + 1) (acc ++ [y]) L4) ∧ (k = false → I (i + 1) acc L3)) ∧
      ∀ acc L2, I ds.length acc L2 → ∀ p, L2 p = none → Z p acc L2 := by
  refine ⟨fun i acc L2 => acc = (ds.take i).map f ∧ L2 = L1, ⟨rfl, rfl⟩, fun i acc L2 h => by rw [h.2]; exact hG, fun i d acc L2 hd ⟨ea, el⟩ => ?_, fun acc L2 ⟨ea, el⟩ p hp => ?_⟩
  · subst el
    obtain ⟨Γ3, ws, hw, hh⟩ := hf i d hd
    refine ⟨Γ3, ws, hw, fun s H Cc cl fp => ⟨(hh s H Cc cl fp).1, ats_nil ⟨fun _ s H Cc cl fp => (hh s H Cc cl fp).2 _ ⟨?_, ?_, rfl⟩, fun z => by cases z⟩⟩⟩
    · have hi := (List.getElem?_eq_some_iff.mp hd).1
      rw [ea, List.length_map, List.length_take]
      omega
    · rw [ea, List.take_add_one, hd]
      simp
  · subst el
    rw [ea, List.take_length]
    exact q p hp

end

/-! ### promises -/
abbrev SpA := List D → Lp → (D → Lp → Prop) → (Value → List (Str × D) → Lp → Prop) → Prop
def toSp (P : Program) (w : World) (K : PySem.W.Frag) (sp : SpA) : Sp := fun vs H Q E => ∃ ds L Z Q' R', Reps K Z H vs ds ∧ Con P w K L Z H ∧ sp ds L Q' R' ∧
  (∀ {Z'} d L', Q' d L' → ∀ v H', Rep K Z' H' v d → Con P w K L' Z' H' → Fr L Z H L' Z' H' → Q v H') ∧ (∀ {Z'} cls fs L', R' cls fs L' → ∀ d H', XdAt K Z' H' d fs → Con P w K L' Z' H' → Fr L Z H L' Z' H' → E cls (some d) H')
/-- the def at f keeps sp -/
abbrev FnA (P : Program) (w : World) (K : PySem.W.Frag) (mg : Str → Option Value) (base : Heap) (k : Nat) (f : Addr) (sp : SpA) : Prop := FnR P w K mg base (L2.CX P w) k f (toSp P w K sp)
/-- .. it is what the module's name x holds -/
structure Def (P : Program) (w : World) (K : PySem.W.Frag) (mg : Str → Option Value) (base : Heap) (x : Str) (k : Nat) (sp : SpA) : Prop where
  ex : ∃ f, mg x = some (.ref f) ∧ PySem.W.keepIn K (.ref f) = true ∧ FnA P w K mg base k f sp
theorem Def.mono {P : Program} {w : World} {K : PySem.W.Frag} {mg : Str → Option Value} {base : Heap} {x : Str} {j k : Nat} {sp : SpA} (F : Def P w K mg base x j sp) (h : j ≤ k) : Def P w K mg base x k sp := by
  obtain ⟨f, h1, h2, h3⟩ := F.ex
  exact ⟨f, h1, h2, h3.mono h⟩
theorem Def.imp {P : Program} {w : World} {K : PySem.W.Frag} {mg : Str → Option Value} {base : Heap} {x : Str} {k : Nat} {sp sp' : SpA} (F : Def P w K mg base x k sp) (h : ∀ ds L Q R, sp' ds L Q R → sp ds L Q R) : Def P w K mg base x k sp' := by
  obtain ⟨f, h1, h2, h3⟩ := F.ex
  exact ⟨f, h1, h2, h3.imp fun vs H Q E ⟨ds, L, Z, Q', R', a, b, c, d⟩ => ⟨ds, L, Z, Q', R', a, b, h _ _ _ _ c, d⟩⟩
section
variable {C : Ctx} {Γ : Gm} {L : Lp} {e : Expr} {es : List Expr} {pos p : Pos} {Q : D → Lp → Prop} {x : Str} {k : Nat} {sp : SpA}
/-- a callee runs: by its values -/
theorem run_fnA {f : Addr} {pins : List (Addr × Obj)} {σ : L2.St} {Z : Fz} {H : Hp} {s : Shared} {us : List Value} {vs : List V} {ds : List D} {QV : VK} (F : FnA C.X.prog C.X.w C.X.K C.X.mg C.X.base k f sp) (hr : Room k C.X.A) (I : Inv C.X pins σ H s) (ok : Ok C Γ L Z σ H) (r : Vals vs us) (rd : Reps C.X.K Z H vs ds)
    (h : sp ds L Q (C.R Γ)) (go : Go C L Z H Q QV) : codeAny (model C.X.prog C.X.w) C.X.A (.call (.ref f) ⟨us, []⟩) (fun r s' => match r with | .ok (.ret v) => EP C.X pins σ QV v s' | .ok _ => False | .error e => C.X.xe e s') s := by
  refine codeAny_mono (F C.X.A C.X.stack s H us vs QV (L2.WE C.W σ) hr I.env0 r ⟨ds, L, Z, Q, C.R Γ, rd, ok.con, h, fun d L' q v H' rv c f => go v d H' L' rv c f q, fun cls fs L' q d H' xd c f => ok.lr.of cls d σ H' Γ L' fs (ok.sl.mono f.mv) c f xd q⟩) fun r s' hq => ?_
  cases r with
  | error e => exact passAt C.tk σ pins H s e s' I hq
  | ok fl =>
    cases fl with
    | ret u => exact I.after hq
    | next => exact False.elim hq
    | brk => exact False.elim hq
    | cont => exact False.elim hq
theorem ae_call (F : Def C.X.prog C.X.w C.X.K C.X.mg C.X.base x k sp) (hr : Room k C.X.A) (h : AA C (e :: es) Γ L fun ds L1 => sp ds L1 Q (C.R Γ)) (hg : Gl C.X x := by rfl) (hdb : (x == ("__debug__" : Str)) = false := by decide)
    (he : starEach (e :: es) C.X.env = (false, eval e C.X.env) :: starEach es C.X.env := by rfl) (hpl : (backTo pos (starEach es C.X.env)).any (·.1) = false := by rfl) : AE C (.Call (.Name x p) (e :: es) [] pos) Γ L Q := fun Z σ H ok QV go => by
  refine ⟨fun pins s I => ?_⟩
  obtain ⟨f, hm, hk, G⟩ := F.ex
  refine wpAny_Call_Name_kw (ld_glob I hg hm ?_ hdb)
  refine PySem.W.callWith_K (h₀ := C.X.base) I.ok.mod.kin hk (thn ((h _ σ H ok (fun vs H1 => ∃ ds L1 Z1, Reps C.X.K Z1 H1 vs ds ∧ C.Con L1 Z1 H1 ∧ Fr L Z H L1 Z1 H1 ∧ sp ds L1 Q (C.R Γ)) (fun vs ds H1 L1 r c f q => ⟨ds, L1, _, r, c, f, q⟩)).run pos pins s I) fun us s1 ⟨vs, H1, I1, r, ds, L1, Z1, rd, c1, f1, q⟩ => ⟨I1.kIn, ?_⟩) he hpl
  exact wpAny_call (run_fnA G hr I1 (ok.step c1 f1) r rd q (go.after f1))
theorem ae_call0 (F : Def C.X.prog C.X.w C.X.K C.X.mg C.X.base x k sp) (hr : Room k C.X.A) (h : sp [] L Q (C.R Γ)) (hg : Gl C.X x := by rfl) (hdb : (x == ("__debug__" : Str)) = false := by decide) : AE C (.Call (.Name x p) [] [] pos) Γ L Q := fun Z σ H ok QV go => by
  refine ⟨fun pins s I => ?_⟩
  obtain ⟨f, hm, hk, G⟩ := F.ex
  refine wpAny_Call_Name_kw (ld_glob I hg hm ?_ hdb)
  exact PySem.W.callWith_K0 I.kIn hk (wpAny_call (run_fnA G hr I ok .nil .nil h go))
end

/-! ### a def's body -/
def startG (N : List Str) (ds : List D) : Gm := ds.map some ++ List.replicate (N.length - ds.length) none
theorem sl_start {K : PySem.W.Frag} {F : Fz} {H : Hp} {N : List Str} {vs : List V} {ds : List D} (r : Reps K F H vs ds) : Sl K F H (L2.start N vs) (startG N ds) := by
  unfold L2.start startG
  have hl := r.length
  refine ⟨by simp [hl], fun i d e => ?_⟩
  by_cases h : i < ds.length
  · rw [List.getElem?_append_left (by simpa using h), List.getElem?_map] at e
    cases q : ds[i]? with
    | none =>
      rw [q] at e
      cases e
    | some d' =>
      rw [q] at e
      cases e
      obtain ⟨v, h1, h2⟩ := r.get q
      exact ⟨v, by rw [List.getElem?_append_left (by simp; omega), List.getElem?_map, h1]; rfl, h2⟩
  · rw [List.getElem?_append_right (by simp; omega), List.getElem?_replicate] at e
    split at e <;> cases e
def endsOf (Q : D → Lp → Prop) : AEnds where
  nx := fun _ L' => ∃ L2, Le L2 L' ∧ Q .non L2
  rt := fun d L' => ∃ L2, Le L2 L' ∧ Q d L2
/-- THE RULE for a def -/
theorem fnA {P : Program} {w : World} {K : PySem.W.Frag} {mg : Str → Option Value} {base : Heap} {x qual : Str} {st : Stmt} {f : Addr} {fd : FuncData} {N ps : List Str} {k : Nat} {sp : SpA} (F : Fun K x qual st f fd) (S : FnScope N ps (defScope st)) (hb : Binds K fd ps [])
    (len : ∀ ds L Q R, sp ds L Q R → ds.length = ps.length)
    (hbody : ∀ (cdv : Value) (A : Around) (outer : List Env) (s : Shared) (H : Hp) (E : XK) (ds : List D) (L : Lp) (Q : D → Lp → Prop) (R : Value → List (Str × D) → Lp → Prop), Room k (A.deeper (envOfC qual (defScope st) s.heap.objs.size f cdv)) → sp ds L Q R →
      ASs (fctx P w K mg base N qual (defScope st) f cdv A outer s H E S.nd R) (defBody st) (startG N ds) L (endsOf Q)) : FnA P w K mg base (k + 1) f sp := by
  have G : FnOk P w K mg base (L2.CX P w) (k + 1) f fd ps (toSp P w K sp) := by
    refine F.okX S (fun vs H Q E ⟨ds, L, Z, Q', R', r, _, h, _⟩ => by rw [r.length]; exact len _ _ _ _ h) fun cdv A outer s H vs Q E hr ⟨ds, L, Z, Q', R', r, c, h, hq, he⟩ => ?_
    refine ⟨_, pss_we, hbody cdv A outer s H E ds L Q' R' hr h _ (L2.start N vs) H ⟨sl_start r, c, ⟨fun cls d σ' H' Γ' L' fs _ c' f' xd q => he cls fs L' q d H' xd c' f'⟩⟩ _ ⟨?_, ?_, ?_, ?_⟩⟩
    · rintro Z' σ' H' Γ' L' ok' f' ⟨L2, le, q⟩
      exact hq .non L2 q .non H' .non (ok'.con.le le) (f'.leR le)
    · rintro Z' v d H' L' rv c' f' ⟨L2, le, q⟩
      exact hq d L2 q v H' rv (c'.le le) (f'.leR le)
    · rintro _ _ _ _ _ _ _ z
      exact z.elim
    · rintro _ _ _ _ _ _ _ z
      exact z.elim
  exact (G.raw hb .nil).imp fun vs H Q E h => by rw [List.append_nil]; exact h
end DL
namespace DL
open PySem PySem.Spec PyProof.Rows L2

section
variable {C : Ctx} {Γ Γ1 Γ2 : Gm} {L : Lp} {e e2 a b c o tg : Expr} {es ts : List Expr} {pos p1 p2 : Pos} {st : Stmt} {sts : List Stmt} {E : AEnds} {Q : D → Lp → Prop} {d : D} {ds : List D} {ws zs : List Nat}

/-! ### more that is walked -/
def sgn (k : Nat) : Str := ⟨#[k]⟩
def sgnsOf (x : Str) : List D := x.cps.toList.map fun k => .str (sgn k)
theorem its_is {x : Str} {L0 : Lp} {F0 : Fz} {H0 : Hp} (hx : SOk x) : IsIt C (Its x) (sgnsOf x) (fun _ => True) L0 F0 H0 := by
  intro F i H L s cc g
  have hl : (sgnsOf x).length = x.cps.size := by unfold sgnsOf; simp
  rw [hl]
  refine ⟨fun h => h, fun h => Nat.le_of_eq h.symm, fun v H' y hi => ?_⟩
  obtain ⟨e1, k, hk, e2⟩ := y
  subst e1 e2
  refine ⟨.str (sgn k), ?_, .str _ (.one (hx.mem (Array.mem_toList_iff.mpr (Array.mem_of_getElem? hk)))), .inl rfl⟩
  unfold sgnsOf
  rw [List.getElem?_map, Array.getElem?_toList, hk]
  rfl
theorem ai_str {R : List D → (Lp → Prop) → Lp → Prop} (h : AE C e Γ L fun d L1 => ∃ x : Str, d = .str x ∧ (SOk x → R (sgnsOf x) (fun _ => True) L1)) : AI C tg e Γ L R := fun F σ H ok RV go =>
  wi_of (pi_str pe_we) (h _ σ H ok _ fun v d H1 L1 r c f ⟨x, ed, q⟩ => by
    subst ed
    exact ⟨x, r.strE, go _ H1 L1 _ _ c f (its_is r.bnd) (q r.bnd)⟩)
def rangeC (lo c : Int) (n : Nat) : List D := (List.range n).map fun k => .int (lo + (k : Nat) * c)
theorem itc_is {lo c : Int} {n : Nat} {L0 : Lp} {F0 : Fz} {H0 : Hp} : IsIt C (Itc lo c n) (rangeC lo c n) (fun _ => True) L0 F0 H0 := by
  intro F i H L s cc g
  have hl : (rangeC lo c n).length = n := by unfold rangeC; simp
  rw [hl]
  refine ⟨fun h => h, fun h => Nat.le_of_eq h.symm, fun x H' y hi => ?_⟩
  obtain ⟨e1, e2⟩ := y
  subst e1 e2
  refine ⟨_, ?_, .int _, .inl rfl⟩
  unfold rangeC
  simp [hi]
theorem ai_range3 {p : Pos} {R : List D → (Lp → Prop) → Lp → Prop} (hm : C.X.mg "range" = none) (h : AA C [a, b, c] Γ L fun ds L1 => ∃ (i j k : Int) (n : Nat), ds = [.int i, .int j, .int k] ∧ RgC i j k n ∧ R (rangeC i k n) (fun _ => True) L1) (hg : Gl C.X "range" := by rfl)
    (hs : starEach [a, b, c] C.X.env = (false, eval a C.X.env) :: starEach [b, c] C.X.env := by rfl) (hpl : (backTo pos (starEach [b, c] C.X.env)).any (·.1) = false := by rfl) : AI C tg (.Call (.Name "range" p) [a, b, c] [] pos) Γ L R := fun F σ H ok RV go =>
  wi_of (pi_range3 hg hm pa_we hs hpl) (h _ σ H ok _ fun vs ds H1 L1 r c f ⟨i, j, k, n, ed, hr, q⟩ => by
    subst ed
    cases r with
    | cons r1 rr =>
      obtain ⟨v, w, rfl, r2, r3⟩ := Reps.twoE rr
      refine ⟨i, j, k, n, by rw [r1.intE, r2.intE, r3.intE], hr, go _ H1 L1 _ _ c f itc_is q⟩)
def zipD (xs ys : List D) : List D := List.zipWith (fun x y => .tup [x, y]) xs ys
theorem itzT_is {x y : Addr} {vs us : List V} {xs ys : List D} {L0 : Lp} {F0 : Fz} {H0 : Hp} (hx : H0 x = some (.tup vs)) (hy : H0 y = some (.tup us)) (rx : Reps C.X.K F0 H0 vs xs) (ry : Reps C.X.K F0 H0 us ys) : IsIt C (RZ.ItzT C.X.K x y) (zipD xs ys) (fun _ => True) L0 F0 H0 := by
  intro F i H L s cc g
  have hx' : SqT C.X.K H x vs := SqT.of (s.stay.tup _ _ hx)
  have hy' : SqT C.X.K H y us := SqT.of (s.stay.tup _ _ hy)
  have hl : (zipD xs ys).length = min xs.length ys.length := by unfold zipD; simp
  have l1 := rx.length
  have l2 := ry.length
  rw [hl]
  refine ⟨fun h => ?_, fun h => ⟨vs, us, hx', hy', ?_⟩, fun v H' yy hi => ?_⟩
  · have h1 : i < vs.length := by rw [l1]; exact Nat.lt_of_lt_of_le h (Nat.min_le_left _ _)
    have h2 : i < us.length := by rw [l2]; exact Nat.lt_of_lt_of_le h (Nat.min_le_right _ _)
    exact ⟨vs, us, vs[i], us[i], hx', hy', List.getElem?_eq_getElem h1, List.getElem?_eq_getElem h2⟩
  · omega
  · obtain ⟨T, x1, y1, e1, nT, e2, k1, k2⟩ := yy
    subst e1 e2
    obtain ⟨d1, g1, q1⟩ := rx.getV (k1 vs hx')
    obtain ⟨d2, g2, q2⟩ := ry.getV (k2 us hy')
    have s2 : Mv F0 H0 F (upd H T (.tup [x1, y1])) := s.mv.trans (.new nT)
    refine ⟨.tup [d1, d2], ?_, Rep.tupI upd_same (.cons (q1.mono s2) (.cons (q2.mono s2) .nil)) (by show 2 ≤ sizeLine; decide), .inr ⟨T, _, nT, rfl⟩⟩
    unfold zipD
    rw [List.getElem?_zipWith, g1, g2]
theorem ai_zipT {p tpos : Pos} {elts : List Expr} {kk : Nat} {R : List D → (Lp → Prop) → Lp → Prop} (hm : C.X.mg "zip" = none) (h : AA C [e, e2] Γ L fun ds L1 => ∃ xs ys, ds = [.tup xs, .tup ys] ∧ (xs.length ≤ sizeLine → R (zipD xs ys) (fun _ => True) L1)) (hg : Gl C.X "zip" := by rfl)
    (hs : starEach [e, e2] C.X.env = (false, eval e C.X.env) :: starEach [e2] C.X.env := by rfl) (hpl : (backTo pos (starEach [e2] C.X.env)).any (·.1) = false := by rfl) : AI C (.Tuple elts kk tpos) (.Call (.Name "zip" p) [e, e2] [] pos) Γ L R := fun F σ H ok RV go =>
  wi_of (RZ.pi_zipA hg hm pa_we hs hpl) (h _ σ H ok _ fun vs ds H1 L1 r c f ⟨xs, ys, ed, q⟩ => by
    subst ed
    obtain ⟨v, w, rfl, r1, r2⟩ := r.twoE
    obtain ⟨x, vx, rfl, hx, rx⟩ := r1.tupE
    obtain ⟨y, vy, rfl, hy, ry⟩ := r2.tupE
    exact ⟨x, y, vx, vy, rfl, .inr ⟨SqT.of hx, SqT.of hy, go _ H1 L1 _ _ c f (itzT_is hx hy rx ry) (q r1.bnd)⟩⟩)

/-! ### texts -/
abbrev rInSign : R2 := fun x y H Q => ∃ (c : Nat) (z : Str), x = .str ⟨#[c]⟩ ∧ y = .str z ∧ Q (.bl (decide (c ∈ z.cps.toList))) H
theorem r_inSign {k : Nat} {z : Str} (q : Q (.bl (decide (k ∈ z.cps.toList))) L) : L2R C rInSign (.str (sgn k)) (.str z) L Q := fun F vx vy H c rx ry QV go => ⟨k, z, rx.strE, ry.strE, go _ _ H L (.bl _) c (.refl L H) q⟩
theorem cutS_len (z : Str) (lo hi : Option Int) : (cutS z lo hi).length ≤ z.length := by
  unfold cutS
  show (List.toArray _).size ≤ z.cps.size
  rw [List.size_toArray, List.length_take, List.length_drop, Array.length_toList]
  show min _ (z.cps.size - _) ≤ _
  omega
theorem SOk.cut {z : Str} (h : SOk z) (lo hi : Option Int) : SOk (cutS z lo hi) := .of (Nat.le_trans (cutS_len z lo hi) h.len) fun k hk => by
  unfold cutS at hk
  exact h.mem (List.mem_of_mem_drop (List.mem_of_mem_take (by simpa using hk)))
theorem s_str {z : Str} {lo hi : Option Int} (q : Q (.str (cutS z lo hi)) L) : LsR C rSlS (.str z) lo hi L Q := fun F v H c r QV go => ⟨z, r.strE, r.bnd.len, go _ _ H L (.str _ (SOk.cut r.bnd lo hi)) c (.refl L H) q⟩
theorem join_tl (s : Str) : ∀ ys : List Str, (Str.join s ys).length ≤ (ys.map (·.length)).sum + ys.length * s.length
  | [] => Nat.zero_le _
  | [x] => by
    show x.length ≤ _
    simp
  | x :: z :: r => by
    have ih := join_tl s (z :: r)
    show (x ++ s ++ Str.join s (z :: r)).length ≤ _
    rw [str_len_app, str_len_app]
    rw [List.map_cons, List.sum_cons, List.length_cons, Nat.add_mul, Nat.one_mul]
    omega
theorem join_mem (s : Str) {k : Nat} : ∀ ys : List Str, k ∈ (Str.join s ys).cps.toList → k ∈ s.cps.toList ∨ ∃ y ∈ ys, k ∈ y.cps.toList
  | [], h => by
    have h' : k ∈ (#[] : Array Nat).toList := h
    simp at h'
  | [x], h => .inr ⟨x, List.mem_singleton_self x, h⟩
  | x :: z :: r, h => by
    have h' : k ∈ (x ++ s ++ Str.join s (z :: r)).cps.toList := h
    have e : (x ++ s ++ Str.join s (z :: r)).cps.toList = x.cps.toList ++ s.cps.toList ++ (Str.join s (z :: r)).cps.toList := by
      show ((x.cps ++ s.cps) ++ (Str.join s (z :: r)).cps).toList = _
      simp
    rw [e] at h'
    rcases List.mem_append.mp h' with q | q
    · rcases List.mem_append.mp q with q | q
      · exact .inr ⟨x, List.mem_cons_self, q⟩
      · exact .inl q
    · rcases join_mem s (z :: r) q with q | ⟨y, hy, q⟩
      · exact .inl q
      · exact .inr ⟨y, List.mem_cons_of_mem _ hy, q⟩
theorem SOk.join {s : Str} {ys : List Str} (hs : SOk s) (hy : ∀ y ∈ ys, SOk y) (hz : (ys.map (·.length)).sum + ys.length * s.length ≤ 16777216) : SOk (Txt.join s ys) := by
  rw [TL.join_eq]
  refine .of (Nat.le_trans (join_tl s ys) (by rw [sizeLine_eq]; exact hz)) fun k hk => ?_
  rcases join_mem s ys hk with q | ⟨y, h1, q⟩
  · exact hs.mem q
  · exact (hy y h1).mem q
theorem reps_strOk {K : PySem.W.Frag} {F : Fz} {H : Hp} {vs : List V} {bs : List Str} (r : Reps K F H vs (bs.map D.str)) : ∀ y ∈ bs, SOk y := fun y hy => by
  obtain ⟨i, hi⟩ := List.getElem?_of_mem hy
  obtain ⟨v, _, rv⟩ := r.get (i := i) (d := .str y) (by rw [List.getElem?_map, hi]; rfl)
  exact rv.bnd
theorem ae_join {apos : Pos} (h : AE C o Γ L fun x L1 => ∃ s : Str, x = .str s ∧ AE C e Γ L1 fun y L2 => ∃ (p : Addr) (ys : List Str), y = .ptr p ∧ L2 p = some (.lst (ys.map D.str)) ∧ (ys.map (·.length)).sum + ys.length * s.length ≤ 16777216 ∧ Q (.str (Txt.join s ys)) L2)
    (hs : starEach [e] C.X.env = [(false, eval e C.X.env)] := by rfl) (hbase : attributeBase o "join" C.X.env (eval o C.X.env) = eval o C.X.env := by rfl) (hline : (apos.endLine == pos.line) = true := by rfl) : AE C (.Call (.Attribute o "join" apos) [e] [] pos) Γ L Q := fun F σ H ok QV go =>
  we_of (pe_join pe_we pe_we hs hbase hline) (h _ σ H ok _ fun vx x H1 L1 r1 c1 f1 ⟨s, ex, q1⟩ => by
    subst ex
    refine ⟨⟨s, r1.strE⟩, q1 _ σ H1 (ok.step c1 f1) _ fun vy y H2 L2 r2 c2 f2 ⟨p, ys, ey, hp, hz, q2⟩ => ?_⟩
    subst ey
    obtain ⟨ws, ha, ra, _⟩ := c2.at_ p _ hp
    have e := reps_strs ra
    have hy := reps_strOk ra
    subst e
    exact ⟨s, p, ys, r1.strE, by rw [r2.ptrE], .inl (SqL.of ha), hz, go _ _ H2 L2 (.str _ (SOk.join r1.bnd hy hz)) c2 (f1.trans f2) q2⟩)

/-! ### extend by a tuple, list(text), text * n -/
theorem extend_tuple (l : Addr) (items : Array Value) (n : Nat) (b : Addr) (items2 : Array Value) (n2 : Nat) (dd : Option Addr) (sl : Array (Option Value)) (hs0 : ¬(!items.isEmpty && Builtin.List.listTooLong (items.size + items2.size)) = true) (hs1 : items.size ≤ sizeLine) (hs2 : items.size + items2.size ≤ sizeLine + 1) :
    Meets (Builtin.«list.extend» ⟨[.ref l, .ref b], []⟩) (fun _ R s => s.heap.get? l = some { cls := .type "list", dict := none, data := .seq items n, slots := #[] } ∧ s.heap.get? b = some { cls := .type "tuple", dict := dd, data := .seq items2 n2, slots := sl } ∧ R (.ok (.ret Value.none)) { s with heap := s.heap.update l (Obj.mapSeq fun x => x ++ items2), toks := s.toks }) :=
  .of_wp fun prog w A R s h => by
    obtain ⟨hp, g, d, tk, os⟩ := s; obtain ⟨hl, hb, h⟩ := h; have f1 := PySem.AutoSeq1.idx_int; have f2 := PySem.AutoSeq1.sub_tuple_tuple; have f3 := PySem.AutoSeq1.sub_list_list; have f4 := PySem.AutoSeq1.sub_tuple_list; have f5 := PySem.AutoSeq1.sub_list_tuple;
    have hz' : (items ++ items2).size ≤ sizeLine + 1 := by rw [Array.size_append]; exact hs2
    wp_walk using (wpAny_updateSeq hl rfl (hz := hs1) (_hz' := hz')), wpAny_loadPart' hl, wpAny_loadPart' hb; exact ⟨_, rfl, h⟩
abbrev rExtT (K : PySem.W.Frag) : V → List V → Hp → VK → Prop := fun x vs H Q => ∃ l b xs zs, x = .ref l ∧ vs = [.ref b] ∧ H l = some (.lst xs) ∧ H b = some (.tup zs) ∧ xs.length + zs.length ≤ sizeLine ∧ Q .non (upd H l (.lst (xs ++ zs)))
theorem mt_extendT {X : Cx} : MtR X "list.extend" (rExtT X.K) := by
  intro pins s σ H x vs v us Q I rx rv h
  obtain ⟨l, b, xs, zs, rfl, rfl, hH, hB, hz, q⟩ := h
  cases rx
  obtain ⟨u, rfl, ru⟩ := rv.one
  cases ru
  obtain ⟨z, its, n, r, hl, e⟩ := I.lstM hH
  obtain ⟨its2, r2, ⟨o, ho, hc, n2, hd⟩, hz2⟩ := I.tuple (SqT.of hB)
  obtain ⟨oc, od, dt, sl⟩ := o
  simp only at hc hd
  subst hc hd
  have l2 := r2.length
  have hsz : its.toArray.size + its2.toArray.size ≤ sizeLine := by rw [List.size_toArray, List.size_toArray]; omega
  have hlong : ¬ (!its.toArray.isEmpty && Builtin.List.listTooLong (its.toArray.size + its2.toArray.size)) = true := by
    rw [notLongL hsz, Bool.and_false]
    exact Bool.false_ne_true
  refine call_meets F.slot_list_extend ⟨_, e, rfl⟩ F.entry_list_extend (F.args_list_extend_2 _ _)
    (extend_tuple l its.toArray n b its2.toArray n2 od sl hlong (by rw [List.size_toArray]; omega) (by omega)) ⟨e, ho, ?_⟩
  refine ⟨.non, _, I.lset (its' := its ++ its2) hH e (by simp) (r.append r2) ?_, rfl, q⟩
  rw [List.length_append]
  exact hz
theorem m_extendT {p : Addr} {xs ys : List D} (hp : L p = some (.lst xs)) (hl : xs.length + ys.length ≤ sizeLine) (q : Q .non (put L p (.lst (xs ++ ys)))) : LmR C (rExtT C.X.K) (.ptr p) [.tup ys] L Q := fun F v vs H c r1 r2 QV go => by
  obtain ⟨w, rfl, r⟩ := r2.oneE
  obtain ⟨ws, ha, ra, hzz⟩ := c.at_ p _ hp
  obtain ⟨b, us, rfl, hb, rb⟩ := r.tupE
  have s := Mv.write (o := .lst (ws ++ us)) c hp
  exact ⟨p, b, ws, us, r1.ptrE, rfl, ha, hb, by rw [ra.length, rb.length]; exact hl, go _ _ _ (put L p (.lst (xs ++ ys))) .non (c.write hp ⟨_, upd_same, (ra.append rb).mono s, by rw [List.length_append]; exact hl⟩) (.write c hp) q⟩
abbrev rLstS : List V → Hp → VK → Prop := fun xs H Q => ∃ z : Str, xs = [.str z] ∧ z.length ≤ sizeLine ∧ ∀ l, H l = none → Q (.ref l) (upd H l (.lst (z.cps.toList.map fun k => V.str ⟨#[k]⟩)))
theorem call_listS {X : Cx} (hc : X.calm = true) : CallR X (.type "list") rLstS := by
  intro pins s σ H xs us Q I r h
  obtain ⟨z, rfl, hz, q⟩ := h
  obtain ⟨u, rfl, ru⟩ := vals1 r
  obtain ⟨t, rfl⟩ := ru
  refine PySem.call_list_str (hn := hz) (I.ok.hd hc) z t fun h' tk acc c hk hS hacc => ?_
  have hv : Vals (z.cps.toList.map fun k => V.str ⟨#[k]⟩) acc.toList := by
    have hsz : acc.toList.length = z.cps.toList.length := by rw [Array.length_toList, hacc.1, Array.length_toList]
    have key : ∀ (l : List Value) (ks : List Nat), l.length = ks.length → (∀ (j : Nat) v, l[j]? = some v → ∃ k u, ks[j]? = some k ∧ v = .str ⟨#[k]⟩ u) → Vals (ks.map fun k => V.str ⟨#[k]⟩) l := by
      intro l
      induction l with
      | nil =>
        intro ks hl _
        cases ks with
        | nil => exact .nil
        | cons _ _ => simp at hl
      | cons v l ih =>
        intro ks hl hj
        cases ks with
        | nil => simp at hl
        | cons k ks =>
          obtain ⟨k', u, e1, e2⟩ := hj 0 v rfl
          simp at e1
          subst e1 e2
          exact .cons ⟨u, rfl⟩ (ih ks (by simpa using hl) fun j w hw => by simpa using hj (j + 1) w (by simpa using hw))
    refine key _ _ hsz fun j v hv => ?_
    obtain ⟨c, u, e1, e2⟩ := hacc.2 j v (by simpa using hv)
    exact ⟨c, u, by simpa using e1, e2⟩
  refine ⟨.ref s.heap.objs.size, _, I.laid (a := s.heap.objs.size) (o := .lst (z.cps.toList.map fun k => V.str ⟨#[k]⟩)) hk (Nat.le_refl _) ⟨?_, acc.toList, c, hv, ?_⟩, rfl, q _ (I.hok.fresh (Nat.le_refl _))⟩
  · rw [List.length_map, Array.length_toList]
    exact hz
  · simpa using hS
theorem reps_signs {K : PySem.W.Frag} {F : Fz} {H : Hp} {x : Str} (hx : SOk x) : Reps K F H (x.cps.toList.map fun k => V.str ⟨#[k]⟩) (sgnsOf x) := by
  refine Reps.of_get (by unfold sgnsOf; simp) fun i v d h1 h2 => ?_
  unfold sgnsOf at h2
  rw [List.getElem?_map] at h1 h2
  cases e : x.cps.toList[i]? with
  | none =>
    rw [e] at h1
    cases h1
  | some k =>
    rw [e] at h1 h2
    cases h1
    cases h2
    exact .str _ (.one (hx.mem (List.mem_of_getElem? e)))
theorem c_listS {z : Str} (q : ∀ l, L l = none → Q (.ptr l) (put L l (.lst (sgnsOf z)))) : LcR C rLstS [.str z] L Q := fun F vs H c r0 QV go => by
  obtain ⟨v, rfl, r⟩ := r0.oneE
  have hz : SOk z := r.bnd
  refine ⟨z, by rw [r.strE], hz.len, fun l hl => go _ _ _ (put L l (.lst (sgnsOf z))) (.ptr l) (c.newL hl ⟨_, upd_same, reps_signs hz, ?_⟩) (.newL hl) (q l (c.free hl))⟩
  unfold sgnsOf
  rw [List.length_map, Array.length_toList]
  exact hz.len
/-- text * n -/
def repS (x : Str) (n : Nat) : Str := ⟨(List.replicate n x.cps.toList).flatten.toArray⟩
theorem rep_fold (x : Array Nat) : ∀ (n : Nat) (acc : Array Nat), ((List.replicate n x).foldl (· ++ ·) acc).toList = acc.toList ++ (List.replicate n x.toList).flatten
  | 0, acc => by simp
  | n + 1, acc => by
    rw [List.replicate_succ, List.foldl_cons, rep_fold x n, List.replicate_succ, List.flatten_cons]
    simp
theorem rep_len {z : Str} {n : Nat} (hz : z.length * n ≤ 1000000) : (repS z n).length ≤ sizeLine := by
  show (List.toArray _).size ≤ _
  rw [List.size_toArray, List.length_flatten, List.map_replicate, List.sum_replicate_nat, Array.length_toList, sizeLine_eq]
  have : n * z.cps.size ≤ 1000000 := by rw [Nat.mul_comm]; exact hz
  omega
abbrev rMulS : R2 := fun x y H Q => ∃ (z : Str) (n : Int), x = .str z ∧ y = .int n ∧ 0 ≤ n ∧ n ≤ 1000000 ∧ z.length * n.toNat ≤ 1000000 ∧ Q (.str (repS z n.toNat)) H
theorem op_mulS {X : Cx} : OpR X (binaryOp .Mult) rMulS := by
  intro pins s σ H x y v u Q I rx ry h
  obtain ⟨z, n, rfl, rfl, h0, h1, hz, q⟩ := h
  obtain ⟨t, rfl⟩ := rx
  obtain ⟨t', rfl⟩ := ry
  have e0 : ∀ n : Nat, repS z n = ⟨(List.replicate n z.cps).foldl (· ++ ·) #[]⟩ := fun n => by
    unfold repS
    congr 1
    apply Array.toList_inj.mp
    rw [rep_fold]
    simp
  refine PySem.P.mul_str ?_ (fun _ _ => ?_) (fun _ _ => ?_) ?_
  · have a1 : ¬ n < -(2 ^ 63 : Int) := by omega
    have a2 : ¬ n ≥ 2 ^ 63 := by omega
    rw [decide_eq_false a1, decide_eq_false a2]
    rfl
  · rename_i n1 _
    have hn1 : (1 : Int) ≤ n := by omega
    have hl : z.length ≤ 1000000 := by
      refine Nat.le_trans ?_ hz
      have : 1 ≤ n.toNat := by omega
      exact Nat.le_mul_of_pos_right _ this
    intro hh
    have h2 : (1000000 : Int) ≤ (2 ^ 63 - 1) / n := Int.le_ediv_of_mul_le (by omega) (by omega)
    omega
  · unfold Builtin.Str.tooLong
    refine decide_eq_false ?_
    rw [sizeLine_eq]
    omega
  · by_cases c1 : n < 1
    · rw [if_pos c1]
      have e : n = 0 := by omega
      subst e
      exact ⟨Nat.zero_le _, .str (repS z 0), H, I.tok _, ⟨_, rfl⟩, q⟩
    · rw [if_neg c1]
      by_cases c2 : (n == 1 || z.length == 0) = true
      · rw [if_pos c2]
        have e : repS z n.toNat = z := by
          rw [Bool.or_eq_true] at c2
          rcases c2 with c | c
          · have e1 : n = 1 := by simpa using c
            subst e1
            show (⟨(List.replicate 1 z.cps.toList).flatten.toArray⟩ : Str) = z
            simp
          · have e1 : z.cps = #[] := Array.eq_empty_of_size_eq_zero (show z.length = 0 by simpa using c)
            unfold repS
            cases z with
            | mk cps =>
              simp only at e1
              subst e1
              simp
        rw [e] at q
        exact ⟨.str z, H, I, ⟨_, rfl⟩, q⟩
      · rw [if_neg c2, ← e0]
        exact ⟨rep_len hz, .str (repS z n.toNat), H, I.tok _, ⟨_, rfl⟩, q⟩
theorem SOk.rep {z : Str} (h : SOk z) {n : Nat} (hz : z.length * n ≤ 1000000) : SOk (repS z n) := by
  refine .of (rep_len hz) fun k hk => ?_
  · unfold repS at hk
    have hk' : k ∈ (List.replicate n z.cps.toList).flatten := by simpa using hk
    obtain ⟨l, h1, h2⟩ := List.mem_flatten.mp hk'
    rw [(List.mem_replicate.mp h1).2] at h2
    exact h.mem h2
theorem r_mulS {z : Str} {n : Int} (h0 : 0 ≤ n) (h1 : n ≤ 1000000) (hz : z.length * n.toNat ≤ 1000000) (q : Q (.str (repS z n.toNat)) L) : L2R C rMulS (.str z) (.int n) L Q := fun F vx vy H c rx ry QV go =>
  ⟨z, n, rx.strE, ry.intE, h0, h1, hz, go _ _ H L (.str _ (SOk.rep rx.bnd hz)) c (.refl L H) q⟩
end
end DL
namespace DL
open PySem PySem.Spec PyProof.Rows L2

/-! ### data as the library has them -/
mutual
def py : D → PyData
  | .non => .none
  | .bl b => .bool b
  | .int i => .int i
  | .str x => .str x
  | .tup ds => .tuple (pys ds)
  | .ty _ => .none
  | .ptr _ => .none
  | .ilst _ => .none
  | .obj _ _ => .none
  | .flst _ => .none
  | .fdct _ => .none
  | .kdct _ => .none
def pys : List D → List PyData
  | [] => []
  | d :: ds => py d :: pys ds
end
mutual
def okD : D → Bool
  | .non => true
  | .bl _ => true
  | .int _ => true
  | .str _ => true
  | .tup ds => okDs ds
  | .ty _ => false
  | .ptr _ => false
  | .ilst _ => false
  | .obj _ _ => false
  | .flst _ => false
  | .fdct _ => false
  | .kdct _ => false
def okDs : List D → Bool
  | [] => true
  | d :: ds => okD d && okDs ds
end
mutual
theorem Rep.dp {K : PySem.W.Frag} {F : Fz} {H : Hp} : ∀ (d : D) (v : V), okD d = true → Rep K F H v d → Dp K H v (py d) ∧ (py d).canLay0 = true
  | .non, _, _, r => by rw [r.nonE, py]; exact ⟨.non, rfl⟩
  | .bl b, _, _, r => by rw [r.blE, py]; exact ⟨.bl b, rfl⟩
  | .int i, _, _, r => by rw [r.intE, py]; exact ⟨.int i, rfl⟩
  | .str x, _, _, r => by
    have h : SOk x := r.bnd
    rw [r.strE, py]
    exact ⟨.str x, by rw [PyData.canLay0]; exact h.sgn⟩
  | .tup ds, _, h, r => by
    obtain ⟨a, vs, rfl, ha, ra⟩ := r.tupE
    rw [okD] at h
    obtain ⟨h1, h2⟩ := Reps.dp ds vs h ra
    rw [py]
    exact ⟨.tup (SqT.of ha) h1, by rw [PyData.canLay0]; exact h2⟩
  | .ty _, _, h, _ => by simp [okD] at h
  | .ptr _, _, h, _ => by simp [okD] at h
  | .ilst _, _, h, _ => by simp [okD] at h
  | .obj _ _, _, h, _ => by simp [okD] at h
  | .flst _, _, h, _ => by simp [okD] at h
  | .fdct _, _, h, _ => by simp [okD] at h
  | .kdct _, _, h, _ => by simp [okD] at h
theorem Reps.dp {K : PySem.W.Frag} {F : Fz} {H : Hp} : ∀ (ds : List D) (vs : List V), okDs ds = true → Reps K F H vs ds → DpAll K H vs (pys ds) ∧ PyData.canLayAll0 (pys ds) = true
  | [], _, _, r => by
    cases r
    rw [pys]
    exact ⟨.nil, rfl⟩
  | d :: ds, _, h, r => by
    rw [okDs, Bool.and_eq_true] at h
    cases r with
    | cons r1 r2 =>
      obtain ⟨a1, a2⟩ := Rep.dp d _ h.1 r1
      obtain ⟨b1, b2⟩ := Reps.dp ds _ h.2 r2
      rw [pys]
      exact ⟨.cons a1 b1, by rw [PyData.canLayAll0, a2, b2]; rfl⟩
end

section
variable {C : Ctx} {Γ Γ1 Γ2 : Gm} {L : Lp} {e e2 a b c o tg : Expr} {es ts : List Expr} {pos p1 p2 : Pos} {st : Stmt} {sts : List Stmt} {E : AEnds} {Q : D → Lp → Prop} {d : D} {ds : List D} {ws zs : List Nat}
theorem shaped_of {d : PyData} (h1 : d.canLay0 = true) (h2 : d.depth ≤ 64) : SeqAt.shaped d = true := by
  unfold SeqAt.shaped
  rw [h1, decide_eq_true h2]
  rfl
theorem r_eqD {x y : D} (hx : okD x = true) (hy : okD y = true) (dx : (py x).depth ≤ 64) (dy : (py y).depth ≤ 64) (q : Q (.bl (PyData.eqv (py x) (py y))) L) : L2R C (rEqD C.X.K) x y L Q := fun F vx vy H c rx ry QV go => by
  obtain ⟨a1, a2⟩ := Rep.dp x vx hx rx
  obtain ⟨b1, b2⟩ := Rep.dp y vy hy ry
  exact ⟨py x, py y, a1, b1, shaped_of a2 dx, shaped_of b2 dy, go _ _ H L (.bl _) c (.refl L H) q⟩
theorem r_neD {x y : D} (hx : okD x = true) (hy : okD y = true) (dx : (py x).depth ≤ 64) (dy : (py y).depth ≤ 64) (q : Q (.bl (!PyData.eqv (py x) (py y))) L) : L2R C (rNeD C.X.K) x y L Q := fun F vx vy H c rx ry QV go => by
  obtain ⟨a1, a2⟩ := Rep.dp x vx hx rx
  obtain ⟨b1, b2⟩ := Rep.dp y vy hy ry
  exact ⟨py x, py y, a1, b1, shaped_of a2 dx, shaped_of b2 dy, go _ _ H L (.bl _) c (.refl L H) q⟩
/-- of the same data -/
theorem r_eqSame {x : D} (hx : okD x = true) (dx : (py x).depth ≤ 64) (q : Q (.bl true) L) : L2R C (rEqD C.X.K) x x L Q := fun F vx vy H c rx ry QV go => by
  obtain ⟨a1, a2⟩ := Rep.dp x vx hx rx
  obtain ⟨b1, b2⟩ := Rep.dp x vy hx ry
  refine ⟨py x, py x, a1, b1, shaped_of a2 dx, shaped_of b2 dx, ?_⟩
  rw [SeqAt.eqv_refl _ a2]
  exact go _ _ H L (.bl _) c (.refl L H) q
theorem r_neSame {x : D} (hx : okD x = true) (dx : (py x).depth ≤ 64) (q : Q (.bl false) L) : L2R C (rNeD C.X.K) x x L Q := fun F vx vy H c rx ry QV go => by
  obtain ⟨a1, a2⟩ := Rep.dp x vx hx rx
  obtain ⟨b1, b2⟩ := Rep.dp x vy hx ry
  refine ⟨py x, py x, a1, b1, shaped_of a2 dx, shaped_of b2 dx, ?_⟩
  rw [SeqAt.eqv_refl _ a2]
  exact go _ _ H L (.bl _) c (.refl L H) q

/-! ### x < y -/
abbrev rLtD (K : PySem.W.Frag) : R2 := fun x y H Q => ∃ d e, Dp K H x d ∧ Dp K H y e ∧ PySem.W.alike d e = true ∧ d ≠ .none ∧ d.depth ≤ 64 ∧ Q (.bl (PySem.W.dataLt d e)) H
theorem op_ltD {X : Cx} (hu : X.A.units + 64 < cLine) : OpR X (compareOp .Lt) (rLtD X.K) := by
  intro pins s σ H x y v u Q I rx ry h
  obtain ⟨d, e, hd, he, hal, hn, hz, q⟩ := h
  obtain ⟨as, r1⟩ := Dp.reads I d x v hd rx
  obtain ⟨bs, r2⟩ := Dp.reads I e y u he ry
  exact PySem.W.rcLt_alike d e X.A s v u as bs r1 r2 hal hn (by have := Nat.min_le_left d.depth e.depth; omega) _ _ _ _ ⟨.bl _, H, I, rfl, q⟩
theorem r_ltD {x y : D} (hx : okD x = true) (hy : okD y = true) (hal : PySem.W.alike (py x) (py y) = true) (hn : py x ≠ .none) (dx : (py x).depth ≤ 64) (q : Q (.bl (PySem.W.dataLt (py x) (py y))) L) : L2R C (rLtD C.X.K) x y L Q := fun F vx vy H c rx ry QV go => by
  obtain ⟨a1, a2⟩ := Rep.dp x vx hx rx
  obtain ⟨b1, b2⟩ := Rep.dp y vy hy ry
  exact ⟨py x, py y, a1, b1, hal, hn, dx, go _ _ H L (.bl _) c (.refl L H) q⟩

/-! ### sorted -/
theorem each_paired {α β : Type} {R : α → β → Prop} : ∀ {l1 : List α} {l2 : List β}, Paired R l1 l2 → PySem.W.EachIs R l1 l2
  | _, _, .nil => .nil
  | _, _, .cons h t => .cons h (each_paired t)
theorem paired_each {α β : Type} {R : α → β → Prop} : ∀ {l1 : List α} {l2 : List β}, PySem.W.EachIs R l1 l2 → Paired R l1 l2
  | _, _, .nil => .nil
  | _, _, .cons h t => .cons h (paired_each t)
/-- the order of the data -/
def leD (x y : D) : Bool := PySem.W.dataLe false py x y
abbrev rSortD (K : PySem.W.Frag) : List V → Hp → VK → Prop := fun vs H Q => ∃ (a : Addr) (xs : List V) (ds : List D) (F : Fz), vs = [.ref a] ∧ SqL K H a xs ∧ Reps K F H xs ds ∧ okDs ds = true ∧ PySem.W.AllAlike (ds.map py) ∧ PySem.W.Sortable (ds.map py) ∧ (∀ d ∈ ds, (py d).depth ≤ 64) ∧
  ∀ p ys, H p = none → Reps K F H ys (ds.mergeSort leD) → Q (.ref p) (upd H p (.lst ys))
theorem okDs_mem {ds : List D} (h : okDs ds = true) : ∀ d ∈ ds, okD d = true := by
  induction ds with
  | nil => intro d hd; cases hd
  | cons x xs ih =>
    rw [okDs, Bool.and_eq_true] at h
    intro d hd
    rcases List.mem_cons.mp hd with e | hd
    · rw [e]; exact h.1
    · exact ih h.2 d hd
theorem cr_sortD {X : Cx} (hu : X.A.units + 100 < cLine) : CallR X (.builtin "sorted") (rSortD X.K) := by
  intro pins s σ H vs us Q I r h
  obtain ⟨a, xs, ds, F, rfl, hs, rd, hok, hal, hso, hde, q⟩ := h
  obtain ⟨its, rv, hl, hz⟩ := I.list hs
  obtain ⟨u, rfl, ru⟩ := vals1 r
  obtain rfl : u = Value.ref a := ru
  have key : ∀ {xs : List V} {its : List Value} {ds : List D}, okDs ds = true → Vals xs its → Reps X.K F H xs ds → Paired (fun (v : Value) (d : D) => (∃ x, RelV x v ∧ Rep X.K F H x d) ∧ ∃ as, Reads s.heap v (py d) as) its ds := by
    intro xs its ds hok rv rd
    induction rd generalizing its with
    | nil => cases rv; exact .nil
    | cons r1 r2 ih =>
      rw [okDs, Bool.and_eq_true] at hok
      cases rv with
      | cons q1 q2 => exact .cons ⟨⟨_, q1, r1⟩, Dp.reads I _ _ _ (Rep.dp _ _ hok.1 r1).1 q1⟩ (ih hok.2 q2)
  have hp := key hok rv rd
  refine PySem.W.sorted_data (R := fun v d => ∃ x, RelV x v ∧ Rep X.K F H x d) (enc := py) (bs := ds) hl.isList (each_paired (Paired.mono hp fun _ _ z => z.1)) (each_paired (Paired.mono hp fun _ _ z => z.2)) hal hso (by rw [← rd.length]; exact hz) (fun b hb => by have := hde b hb; omega) fun out hlen hout => ?_
  obtain ⟨ep, he'⟩ := PyProof.Rows.sortedAll_at s.heap its (List.toArray out)
  have back : ∀ {out : List Value} {ds : List D}, Paired (fun (v : Value) (d : D) => ∃ x, RelV x v ∧ Rep X.K F H x d) out ds → ∃ ys, Vals ys out ∧ Reps X.K F H ys ds := by
    intro out ds h
    induction h with
    | nil => exact ⟨[], .nil, .nil⟩
    | cons h1 h2 ih =>
      obtain ⟨x, e1, e2⟩ := h1
      obtain ⟨ys, e3, e4⟩ := ih
      exact ⟨x :: ys, .cons e1 e3, .cons e2 e4⟩
  obtain ⟨ys, v1, v2⟩ := back (paired_each hout)
  have hl2 : ys.length ≤ sizeLine := by
    rw [v1.length, hlen, ← rd.length]
    exact hz
  exact ⟨.ref _, upd H (s.heap.objs.size + 1) (.lst ys), I.laid (t' := s.toks) (fun _ _ => PyProof.Rows.sortedAll_old) (Nat.le_succ _) ⟨hl2, out, ep, v1, by simpa using he'⟩, rfl, q _ ys (I.hok.fresh (Nat.le_succ _)) v2⟩
theorem c_sortD {p : Addr} {ds : List D} (hp : L p = some (.lst ds)) (hok : okDs ds = true) (hal : PySem.W.AllAlike (ds.map py)) (hso : PySem.W.Sortable (ds.map py)) (hde : ∀ d ∈ ds, (py d).depth ≤ 64) (q : ∀ l, L l = none → Q (.ptr l) (put L l (.lst (ds.mergeSort leD)))) : LcR C (rSortD C.X.K) [.ptr p] L Q := fun F vs H c r0 QV go => by
  obtain ⟨v, rfl, r⟩ := r0.oneE
  obtain ⟨ws, ha, ra, hz⟩ := c.at_ p _ hp
  refine ⟨p, ws, ds, _, by rw [r.ptrE], SqL.of ha, ra, hok, hal, hso, hde, fun l ys hl ry => go _ _ _ (put L l (.lst (ds.mergeSort leD))) (.ptr l) (c.newL hl ⟨ys, upd_same, ry.mono (.new hl), ?_⟩) (.newL hl) (q l (c.free hl))⟩
  rw [List.length_mergeSort]
  exact hz
end
end DL
namespace DL
open PySem PySem.Spec PyProof.Rows L2

/-! ### dicts whose keys are tuples of ints and texts -/
def keyD : Key → D
  | .inl i => .int i
  | .inr x => .str x
def kD (k : List Key) : D := .tup (k.map keyD)
theorem key_rep {K : PySem.W.Frag} {F : Fz} {H : Hp} : ∀ {k : List Key} {vs : List V}, Reps K F H vs (k.map keyD) → vs = k.map kV
  | [], _, .nil => rfl
  | .inl i :: k, _, .cons r t => by
    rw [Rep.intE (show Rep K F H _ (.int i) from r), key_rep t]
    rfl
  | .inr x :: k, _, .cons r t => by
    rw [Rep.strE (show Rep K F H _ (.str x) from r), key_rep t]
    rfl
theorem kD_at {K : PySem.W.Frag} {F : Fz} {H : Hp} {v : V} {k : List Key} (r : Rep K F H v (kD k)) : ∃ b, v = .ref b ∧ H b = some (.tup (k.map kV)) := by
  obtain ⟨b, vs, rfl, hb, ra⟩ := Rep.tupE (show Rep K F H v (.tup (k.map keyD)) from r)
  rw [key_rep ra] at hb
  exact ⟨b, rfl, hb⟩
def valD (kds : List (List Key × D)) (k : List Key) : Option D := (kds.find? fun kv => decide (kv.1 = k)).map (·.2)
def putD (kds : List (List Key × D)) (k : List Key) (v : D) : List (List Key × D) :=
  if kds.any (fun kv => decide (kv.1 = k)) then kds.map fun kv => if kv.1 = k then (kv.1, v) else kv else kds ++ [(k, v)]
abbrev KDs (K : PySem.W.Frag) (F : Fz) (H : Hp) : List (List Key × V) → List (List Key × D) → Prop := Paired fun p q => p.1 = q.1 ∧ Rep K F H p.2 q.2
theorem KDs.val {K : PySem.W.Frag} {F : Fz} {H : Hp} {kvs : List (List Key × V)} {kds : List (List Key × D)} (r : KDs K F H kvs kds) (k : List Key) :
    (valV kvs k = none ∧ valD kds k = none) ∨ ∃ v d, valV kvs k = some v ∧ valD kds k = some d ∧ Rep K F H v d := by
  induction r with
  | nil => exact .inl ⟨rfl, rfl⟩
  | @cons p q ps qs h t ih =>
    obtain ⟨h1, h2⟩ := h
    by_cases e : p.1 = k
    · refine .inr ⟨p.2, q.2, valV_pos e, ?_, h2⟩
      unfold valD
      rw [List.find?_cons_of_pos (by simpa using h1.symm.trans e)]
      rfl
    · have e2 : valD (q :: qs) k = valD qs k := by
        unfold valD
        rw [List.find?_cons_of_neg (by simpa using fun z => e (h1.trans z))]
      rw [valV_neg e, e2]
      exact ih
theorem KDs.any {K : PySem.W.Frag} {F : Fz} {H : Hp} {kvs : List (List Key × V)} {kds : List (List Key × D)} (r : KDs K F H kvs kds) (k : List Key) : (kvs.any fun kv => decide (kv.1 = k)) = kds.any fun kv => decide (kv.1 = k) := by
  induction r with
  | nil => rfl
  | @cons p q ps qs h t ih => rw [List.any_cons, List.any_cons, ih, h.1]
theorem KDs.repl {K : PySem.W.Frag} {F : Fz} {H : Hp} {kvs : List (List Key × V)} {kds : List (List Key × D)} (r : KDs K F H kvs kds) (k : List Key) {v : V} {d : D} (rv : Rep K F H v d) : KDs K F H (kvs.map fun kv => if kv.1 = k then (kv.1, v) else kv) (kds.map fun kv => if kv.1 = k then (kv.1, d) else kv) := by
  induction r with
  | nil => exact .nil
  | @cons p q ps qs h t ih =>
    rw [List.map_cons, List.map_cons]
    refine .cons ?_ ih
    by_cases e : p.1 = k
    · rw [if_pos e, if_pos (h.1.symm.trans e)]
      exact ⟨h.1, rv⟩
    · rw [if_neg e, if_neg (fun z => e (h.1.trans z))]
      exact h
theorem KDs.put {K : PySem.W.Frag} {F : Fz} {H : Hp} {kvs : List (List Key × V)} {kds : List (List Key × D)} (r : KDs K F H kvs kds) (k : List Key) {v : V} {d : D} (rv : Rep K F H v d) : KDs K F H (putK kvs k v) (putD kds k d) := by
  unfold putK putD
  rw [r.any k]
  split
  · exact r.repl k rv
  · exact Paired.snoc r ⟨rfl, rv⟩
theorem KDs.mono {K : PySem.W.Frag} {F F' : Fz} {H H' : Hp} {kvs : List (List Key × V)} {kds : List (List Key × D)} (s : Mv F H F' H') (r : KDs K F H kvs kds) : KDs K F' H' kvs kds := Paired.mono r fun _ _ z => ⟨z.1, z.2.mono s⟩

/-! ### rules by values -/
section
variable {X : Cx}
abbrev rInDT : R2 := fun y x H Q => ∃ a o, x = .ref a ∧ DGet H a y o ∧ Q (.bl o.isSome) H
theorem op_inDT (hu : X.A.units + 1 < cLine) : OpR X (compareOp .In) rInDT := fun pins s σ H x y v u Q I rx ry ⟨a, o, ey, g, q⟩ => by
  subst ey
  obtain rfl : u = Value.ref a := ry
  exact d_in hu I g rx fun s' I' => ⟨.bl _, H, I', rfl, q⟩
abbrev rNotInDT : R2 := fun y x H Q => ∃ a o, x = .ref a ∧ DGet H a y o ∧ Q (.bl (!o.isSome)) H
theorem op_notInDT (hu : X.A.units + 1 < cLine) : OpR X (compareOp .NotIn) rNotInDT := fun pins s σ H x y v u Q I rx ry ⟨a, o, ey, g, q⟩ => by
  subst ey
  obtain rfl : u = Value.ref a := ry
  exact d_notIn hu I g rx fun s' I' => ⟨.bl _, H, I', rfl, q⟩
abbrev rGetDT : R2 := fun x y H Q => ∃ a v, x = .ref a ∧ DGet H a y (some v) ∧ Q v H
abbrev rPutDT : TSet := fun o i v H Q => ∃ a H', o = .ref a ∧ DPut H a i v H' ∧ Q H'
theorem set_DT (hu : X.A.units + 1 < cLine) : PSet X rPutDT := fun pins s σ H o i v ov iv u Q I ro ri rv ⟨a, H', eo, g, q⟩ => by
  subst eo
  obtain rfl : ov = Value.ref a := ro
  exact d_setItem hu I g ri rv fun s' I' => ⟨H', I', q⟩
/-- the keys' tuples, where they stand -/
abbrev KeyRefs (H : Hp) : List Addr → List (List Key) → Prop := Paired fun b k => H b = some (.tup (k.map kV))
theorem keyRefs_of {H : Hp} {kvs : List (List Key × V)} {xs : List (List Key × Addr × Value)} (r : KT H kvs xs) : KeyRefs H (xs.map (·.2.1)) (kvs.map (·.1)) := by
  induction r with
  | nil => exact .nil
  | cons h t ih => exact .cons h.2.1 ih
theorem vals_refs : ∀ as : List Addr, Vals (as.map V.ref) (as.map Value.ref)
  | [] => .nil
  | _ :: as => .cons rfl (vals_refs as)
theorem items_refs {es : Array DictEntry} {acc : Array Value} {xs : List (List Key × Addr × Value)} (hs : es.size = xs.length) (hx : ∀ i (hi : i < es.size), ∃ y, xs[i]? = some y ∧ es[i].key = .ref y.2.1) (hacc : ItemsOf (fun i v => ∃ hi : i < es.size, v = es[i].key) acc es.size) :
    acc.toList = (xs.map (·.2.1)).map Value.ref := by
  apply List.ext_getElem?
  intro i
  by_cases hi : i < es.size
  · obtain ⟨y, h1, h2⟩ := hx i hi
    have hia : i < acc.size := by rw [hacc.1]; exact hi
    obtain ⟨_, hv⟩ := hacc.2 i acc[i] (Array.getElem?_eq_getElem hia)
    rw [Array.getElem?_toList, Array.getElem?_eq_getElem hia, List.getElem?_map, List.getElem?_map, h1, hv, h2]
    rfl
  · rw [List.getElem?_eq_none (by rw [Array.length_toList, hacc.1]; omega), List.getElem?_eq_none (by simp; omega)]
/-- list(d) -/
abbrev rLstDT : List V → Hp → VK → Prop := fun vs H Q => ∃ a kvs, vs = [.ref a] ∧ Rd H a (.dT kvs) ∧ ∀ bs, KeyRefs H bs (kvs.map (·.1)) → ∀ l, H l = none → Q (.ref l) (upd H l (.lst (bs.map V.ref)))
theorem call_listDT (hc : X.calm = true) : CallR X (.type "list") rLstDT := fun pins s σ H vs us Q I r ⟨a, kvs, ev, ha, q⟩ => by
  subst ev
  obtain ⟨u, rfl, ru⟩ := vals1 r
  obtain rfl : u = Value.ref a := ru
  obtain ⟨z, lo, xs, kt, dd⟩ := dt_rd I.hok ha
  obtain ⟨es, ep, raw, hs, hx⟩ := dd.raw
  have hlen : es.size ≤ sizeLine := by rw [hs, ← Paired.length kt]; exact z
  refine PySem.W.kdl_call (KdlSrc.rawDict (ep := ep) (es := es) lo) (I.ok.hd hc) raw hlen fun h' tk acc c hk hS hacc => ?_
  have e := items_refs hs (fun i hi => let ⟨y, h1, h2, _⟩ := hx i hi; ⟨y, h1, h2⟩) hacc
  refine ⟨.ref s.heap.objs.size, _, I.laid (a := s.heap.objs.size) (o := .lst ((xs.map (·.2.1)).map V.ref)) hk (Nat.le_refl _) ⟨?_, (xs.map (·.2.1)).map Value.ref, c, vals_refs _, ?_⟩, rfl, q _ (keyRefs_of kt) _ (I.hok.fresh (Nat.le_refl _))⟩
  · rw [List.length_map, List.length_map, ← Paired.length kt]
    exact z
  · rw [hS, ← e]
/-- sorted(d): the keys, in order -/
theorem kD_rep {K : PySem.W.Frag} {F : Fz} {H : Hp} {b : Addr} {k : List Key} (h : H b = some (.tup (k.map kV))) (hk : KOk k) : Rep K F H (.ref b) (kD k) := by
  refine Rep.tupI h (Reps.of_get (by simp) fun i v d h1 h2 => ?_) (by rw [List.length_map]; exact hk.len)
  rw [List.getElem?_map] at h1 h2
  cases e : k[i]? with
  | none =>
    rw [e] at h1
    cases h1
  | some x =>
    rw [e] at h1 h2
    cases h1
    cases h2
    cases x with
    | inl n => exact .int n
    | inr z => exact .str z (hk.txt z (List.mem_of_getElem? e))
theorem reps_keys {K : PySem.W.Frag} {F : Fz} {H : Hp} : ∀ {bs : List Addr} {ks : List (List Key)}, KeyRefs H bs ks → (∀ k ∈ ks, KOk k) → Reps K F H (bs.map V.ref) (ks.map kD)
  | _, _, .nil, _ => .nil
  | _, _, .cons h t, hk => .cons (kD_rep h (hk _ List.mem_cons_self)) (reps_keys t fun k hm => hk k (List.mem_cons_of_mem _ hm))
abbrev rSortDT (K : PySem.W.Frag) : List V → Hp → VK → Prop := fun vs H Q => ∃ (a : Addr) (kvs : List (List Key × V)) (ds : List D) (F : Fz), vs = [.ref a] ∧ Rd H a (.dT kvs) ∧ ds = kvs.map (fun p => kD p.1) ∧ (∀ p ∈ kvs, KOk p.1) ∧ okDs ds = true ∧ PySem.W.AllAlike (ds.map py) ∧ PySem.W.Sortable (ds.map py) ∧ (∀ d ∈ ds, (py d).depth ≤ 64) ∧
  ∀ p ys, H p = none → Reps K F H ys (ds.mergeSort leD) → Q (.ref p) (upd H p (.lst ys))
theorem cr_sortDT (hc : X.calm = true) (hu : X.A.units + 100 < cLine) : CallR X (.builtin "sorted") (rSortDT X.K) := fun pins s σ H vs us Q I r ⟨a, kvs, ds, F, ev, ha, eds, hKs, hok, hal, hso, hde, q⟩ => by
  subst ev
  obtain ⟨u, rfl, ru⟩ := vals1 r
  obtain rfl : u = Value.ref a := ru
  obtain ⟨z, lo, xs, kt, dd⟩ := dt_rd I.hok ha
  obtain ⟨es, ep, raw, hs, hx⟩ := dd.raw
  have hlen : es.size ≤ sizeLine := by rw [hs, ← Paired.length kt]; exact z
  have kr := keyRefs_of kt
  have rd : Reps X.K F H ((xs.map (·.2.1)).map V.ref) ds := by
    have e : ds = (kvs.map (·.1)).map kD := by rw [eds, List.map_map]; rfl
    rw [e]
    refine reps_keys kr fun k hk => ?_
    obtain ⟨p, hp, rfl⟩ := List.mem_map.mp hk
    exact hKs p hp
  refine PySem.Calls.call_function_entry PyProof.Rows.kind_sorted PyProof.Rows.plain_sorted PyProof.Rows.entry_sorted (PyProof.Rows.args_sorted1 _) ?_
  unfold Builtin.«sorted»
  refine wpAny_bind (m := checkCount "sorted" 1 1 _) (wpAny_pure ?_)
  refine wpAny_bind (PySem.W.kdu_collect (A := X.A.in1) (KdlSrc.rawDict (ep := ep) (es := es) lo) (I.ok.hd hc) raw hlen fun h' tk acc hk hacc => ?_)
  have e := items_refs hs (fun i hi => let ⟨y, h1, h2, _⟩ := hx i hi; ⟨y, h1, h2⟩) hacc
  have I1 : Inv X pins σ H { s with heap := h', toks := tk } := I.kept hk
  have key : ∀ {vs : List V} {its : List Value} {ds : List D}, okDs ds = true → Vals vs its → Reps X.K F H vs ds → Paired (fun (v : Value) (d : D) => (∃ x, RelV x v ∧ Rep X.K F H x d) ∧ ∃ as, Reads h' v (py d) as) its ds := by
    intro vs its ds hok rv rd
    induction rd generalizing its with
    | nil => cases rv; exact .nil
    | cons r1 r2 ih =>
      rw [okDs, Bool.and_eq_true] at hok
      cases rv with
      | cons q1 q2 => exact .cons ⟨⟨_, q1, r1⟩, Dp.reads I1 _ _ _ (Rep.dp _ _ hok.1 r1).1 q1⟩ (ih hok.2 q2)
  have hp := key hok (vals_refs (xs.map (·.2.1))) rd
  rw [← e] at hp
  have hl3 : acc.toList.length ≤ sizeLine := by rw [Array.length_toList, hacc.1]; exact hlen
  refine wpAny_bind (wpAny_newList ?_ hl3)
  have hoL : (h'.push (seqObj "list" acc.toList.toArray 0)).get? h'.objs.size = some (seqObj "list" acc.toList.toArray 0) := Heap.get?_push_size _ rfl
  have er : PySem.W.EachIs (fun v d => ∃ as, Reads (h'.push (seqObj "list" acc.toList.toArray 0)) v (py d) as ∧ h'.objs.size ∉ as) acc.toList ds := by
    refine each_paired (Paired.mono hp fun v d zz => ?_)
    obtain ⟨as, ra⟩ := zz.2
    refine ⟨as, PyProof.Rows.Reads.keeps (fun _ _ => Heap.get?_push_of_some _) ra, fun hm => ?_⟩
    obtain ⟨o, ho⟩ := PyProof.On.reads_mem_get ra _ hm
    exact absurd (Heap.lt_size ho) (Nat.lt_irrefl _)
  show wpAny _ _ _ _ _ { s with heap := h'.push (seqObj "list" acc.toList.toArray 0), toks := tk }
  refine wpAny_bind (wpAny_holding (PySem.W.list_sort_data (s := { s with heap := h'.push (seqObj "list" acc.toList.toArray 0), toks := tk }) (R := fun v d => ∃ x, RelV x v ∧ Rep X.K F H x d) (enc := py) (bs := ds) (n := 0) hoL (each_paired (Paired.mono hp fun _ _ z => z.1)) er hal hso (by
    rw [← rd.length, List.length_map, List.length_map, ← Paired.length kt]; exact z) (fun b hb => by have := hde b hb; show X.A.units + 1 + 1 + _ < _; omega) fun out hlo hout => ?_))
  have back : ∀ {out : List Value} {ds : List D}, Paired (fun (v : Value) (d : D) => ∃ x, RelV x v ∧ Rep X.K F H x d) out ds → ∃ ys, Vals ys out ∧ Reps X.K F H ys ds := by
    intro out ds h
    induction h with
    | nil => exact ⟨[], .nil, .nil⟩
    | cons h1 h2 ih =>
      obtain ⟨x, e1, e2⟩ := h1
      obtain ⟨ys, e3, e4⟩ := ih
      exact ⟨x :: ys, .cons e1 e3, .cons e2 e4⟩
  obtain ⟨ys, v1, v2⟩ := back (paired_each hout)
  obtain ⟨e', he'⟩ := PyProof.Rows.sortedHeap_at (vs := acc.toList) (out := List.toArray out) hoL
  have hl4 : ys.length ≤ sizeLine := by
    rw [v1.length, hlo, ← rd.length, List.length_map, List.length_map, ← Paired.length kt]
    exact z
  refine wpAny_pure ⟨_, rfl, .ref h'.objs.size, upd H h'.objs.size (.lst ys), I1.laid (t' := tk) (fun b u eb => ?_) (Nat.le_refl _) ⟨hl4, out, e', v1, by simpa using he'⟩, rfl, q _ ys (I1.hok.fresh (Nat.le_refl _)) v2⟩
  have hb : b < h'.objs.size := Heap.lt_size eb
  rw [PyProof.Rows.sortedHeap_old (Nat.ne_of_lt hb) (by rw [size_push']; exact Nat.lt_succ_of_lt hb)]
  exact Heap.get?_push_of_some _ eb
end
end DL
namespace DL
open PySem PySem.Spec PyProof.Rows L2
/-- pairs stored one behind the other -/
def mergeT (kvs more : List (List Key × V)) : List (List Key × V) := more.foldl (fun acc kv => putK acc kv.1 kv.2) kvs
def mergeD (kds more : List (List Key × D)) : List (List Key × D) := more.foldl (fun acc kv => putD acc kv.1 kv.2) kds
theorem mergeT_len : ∀ (more kvs : List (List Key × V)), (mergeT kvs more).length ≤ kvs.length + more.length
  | [], kvs => Nat.le_refl _
  | p :: more, kvs => by
    have h1 := mergeT_len more (putK kvs p.1 p.2)
    have h2 := length_putK kvs p.1 p.2
    show (mergeT (putK kvs p.1 p.2) more).length ≤ _
    rw [List.length_cons]
    omega
theorem KT.merge {H : Hp} : ∀ {q : List (List Key × Addr × V)} {ps : List (List Key × Addr × Value)} {kvs : List (List Key × V)} {xs : List (List Key × Addr × Value)}, Paired (fun x p => x.1 = p.1 ∧ x.2.1 = p.2.1 ∧ RelV x.2.2 p.2.2 ∧ H x.2.1 = some (.tup (x.1.map kV))) q ps → KT H kvs xs →
    KT H (mergeT kvs (q.map fun x => (x.1, x.2.2))) (storedAllH xs ps)
  | _, _, _, _, .nil, r => r
  | _, _, kvs, xs, .cons (a := x) (b := p) h t, r => by
    obtain ⟨h1, h2, h3, h4⟩ := h
    have h5 : H p.2.1 = some (.tup (x.1.map kV)) := by rw [← h2]; exact h4
    have r2 := r.put x.1 h5 h3
    rw [h1] at r2
    have := KT.merge t r2
    rw [← h1] at this
    rw [h1] at this
    show KT H (mergeT (putK kvs x.1 x.2.2) _) (storedAllH (storedH xs p.1 p.2.1 p.2.2) _)
    rw [h1]
    exact this
theorem KDs.merge {K : PySem.W.Frag} {F : Fz} {H : Hp} : ∀ {more : List (List Key × V)} {mds : List (List Key × D)} {kvs : List (List Key × V)} {kds : List (List Key × D)}, KDs K F H more mds → KDs K F H kvs kds → KDs K F H (mergeT kvs more) (mergeD kds mds)
  | _, _, _, _, .nil, r => r
  | _, _, kvs, kds, .cons (a := p) (b := q) h t, r => by
    show KDs K F H (mergeT (putK kvs p.1 p.2) _) (mergeD (putD kds q.1 q.2) _)
    rw [← h.1]
    exact KDs.merge t (r.put p.1 h.2)

section
variable {X : Cx}
abbrev PairsAtT (H : Hp) : List Addr → List (List Key × Addr × V) → Prop := Paired fun t x => H t = some (.tup [.ref x.2.1, x.2.2]) ∧ H x.2.1 = some (.tup (x.1.map kV))
abbrev rDictPT (K : PySem.W.Frag) : List V → Hp → VK → Prop := fun vs H Q => ∃ (a : Addr) (ts : List Addr) (q : List (List Key × Addr × V)), vs = [.ref a] ∧ SqL K H a (ts.map V.ref) ∧ PairsAtT H ts q ∧ ∀ d, H d = none → Q (.ref d) (upd H d (.dT (mergeT [] (q.map fun x => (x.1, x.2.2)))))
theorem pairs_valT {pins : List (Addr × Obj)} {σ : L2.St} {H : Hp} {s : Shared} (I : Inv X pins σ H s) : ∀ {ts : List Addr} {q : List (List Key × Addr × V)}, PairsAtT H ts q →
    ∃ ps : List (List Key × Addr × Value), Paired (fun x p => x.1 = p.1 ∧ x.2.1 = p.2.1 ∧ RelV x.2.2 p.2.2 ∧ H x.2.1 = some (.tup (x.1.map kV))) q ps ∧ Paired (fun t (p : List Key × Addr × Value) => IsTup s.heap t #[.ref p.2.1, p.2.2]) ts ps
  | _, _, .nil => ⟨[], .nil, .nil⟩
  | _, _, .cons (b := x) h t => by
    obtain ⟨ps, h1, h2⟩ := pairs_valT I t
    obtain ⟨its, rv, tp, _⟩ := I.tuple (SqT.of h.1)
    obtain ⟨u1, u2, e, r1, r2⟩ := vals2 rv
    subst e
    obtain rfl : u1 = Value.ref x.2.1 := r1
    exact ⟨(x.1, x.2.1, u2) :: ps, .cons ⟨rfl, rfl, r2, h.2⟩ h1, .cons tp h2⟩
theorem call_dictPT (hc : X.calm = true) (hu : X.A.units + 100 < cLine) : CallR X (.type "dict") (rDictPT X.K) := fun pins s σ H vs us Q I r ⟨a, ts, q, ev, hq, hp, k⟩ => by
  subst ev
  obtain ⟨u, rfl, ru⟩ := vals1 r
  obtain rfl : u = Value.ref a := ru
  obtain ⟨its, rv, pl, hz⟩ := I.list hq
  have ei := refs_at rv
  subst ei
  rw [List.length_map] at hz
  obtain ⟨ps, h1, h2⟩ := pairs_valT I hp
  have l1 : ts.length = ps.length := Paired.length h2
  have l2 : q.length = ps.length := Paired.length h1
  obtain ⟨o, n, ho, hcl, hdi, hdat⟩ := pl
  have at2 : ∀ (j : Nat) (p : List Key × Addr × Value), ps[j]? = some p → ∃ t, ts[j]? = some t ∧ IsTup s.heap t #[.ref p.2.1, p.2.2] := by
    intro j p hj
    have : ∀ {ts : List Addr} {ps : List (List Key × Addr × Value)}, Paired (fun t (p : List Key × Addr × Value) => IsTup s.heap t #[.ref p.2.1, p.2.2]) ts ps → ∀ (j : Nat) (p : List Key × Addr × Value), ps[j]? = some p → ∃ t, ts[j]? = some t ∧ IsTup s.heap t #[.ref p.2.1, p.2.2] := by
      intro ts ps h
      induction h with
      | nil => intro j p hj; simp at hj
      | cons h t ih =>
        intro j p hj
        cases j with
        | zero =>
          have e := Option.some.inj (show some _ = some p from hj)
          subst e
          exact ⟨_, rfl, h⟩
        | succ j => exact ih j p (by simpa using hj)
    exact this h2 j p hj
  refine call_dict_pairsH (knd := tupleKind (mixKind X.prog X.w)) (ps := ps) (PairArg.list a ((ts.map Value.ref).toArray) (fun j => ts.getD j 0) (ps.map fun p => (Value.ref p.2.1, p.2.2))) (I.ok.hd hc) ?_ ⟨⟨o, n, ho, hcl, hdi, hdat⟩, ?_, ?_⟩ ⟨?_, ?_⟩ ?_ ?_ fun h' tk dd hk => ?_
  · exact tupleKind_room_in1 (show X.A.in1.units + 1 < cLine by show X.A.units + 1 + 1 < cLine; omega)
  · simp [l1]
  · intro j kk v hj
    rw [List.getElem?_map] at hj
    cases e : ps[j]? with
    | none =>
      rw [e] at hj
      cases hj
    | some p =>
      rw [e] at hj
      cases hj
      obtain ⟨t, e1, e2⟩ := at2 j p e
      have e3 : ts.getD j 0 = t := by rw [List.getD_eq_getElem?_getD, e1]; rfl
      show _ = some (Value.ref (ts.getD j 0)) ∧ PairAt s.heap (ts.getD j 0) _ _
      rw [e3]
      refine ⟨by simp [e1], .inl e2⟩
  · simp
  · intro i key v hr
    have hr : (ps.map fun p => (Value.ref p.2.1, p.2.2))[i]? = some (key, v) := hr
    rw [List.getElem?_map] at hr
    cases e : ps[i]? with
    | none =>
      rw [e] at hr
      cases hr
    | some p =>
      rw [e] at hr
      cases hr
      exact ⟨p.1, p.2.1, rfl, rfl⟩
  · intro h' hk x hx
    have hm : ∀ {q : List (List Key × Addr × V)} {ps : List (List Key × Addr × Value)}, Paired (fun x p => x.1 = p.1 ∧ x.2.1 = p.2.1 ∧ RelV x.2.2 p.2.2 ∧ H x.2.1 = some (.tup (x.1.map kV))) q ps → ∀ p ∈ ps, H p.2.1 = some (.tup (p.1.map kV)) := by
      intro q ps h
      induction h with
      | nil => intro p hp; cases hp
      | cons h t ih =>
        intro p hp
        rcases List.mem_cons.mp hp with e | hp
        · subst e
          rw [← h.1, ← h.2.1]
          exact h.2.2.2
        · exact ih p hp
    have k0 : (tupleKind (mixKind X.prog X.w)).is s.heap x.1 x.2.1 := key_of I.hok (hm h1 x hx)
    obtain ⟨o', its', n', g1, g2⟩ := k0
    exact ⟨o', its', n', hk _ _ (Nat.ne_of_lt (Heap.lt_size g1)) (by simp) g1, g2⟩
  · rw [List.length_map, ← l1]
    exact hz
  · have hm : (s.heap.objs.size == sysModules) = false := beq_eq_false_iff_ne.mpr (Nat.ne_of_gt I.big)
    obtain ⟨o', es, ep, g1, g2, g3, g4, _, g5⟩ := dd
    have hn := I.hok.fresh (Nat.le_refl s.heap.objs.size)
    have hlen : (mergeT [] (q.map fun x => (x.1, x.2.2))).length ≤ sizeLine := by
      refine Nat.le_trans (mergeT_len _ _) ?_
      rw [List.length_nil, List.length_map, Nat.zero_add, l2, ← l1]
      exact hz
    refine ⟨.ref s.heap.objs.size, _, I.laid (t' := tk) (o := .dT (mergeT [] (q.map fun x => (x.1, x.2.2)))) (fun b u eb => hk b u (by simp) eb) (Nat.le_refl _) ⟨hlen, hm, storedAllH [] ps, ?_, o', es, ep, g1, g2, g3, g4, g5⟩, rfl, k _ hn⟩
    exact KT.keeps (KT.merge h1 .nil) fun c ys ec => by
      rw [upd_ne (ne_of_none ec hn)]
      exact ec
end
end DL
namespace DL
open PySem PySem.Spec PyProof.Rows L2

/-! ### sets of texts -/
section
variable {P : Program} {w : World} {h h' : Heap} {a : Addr} {S : Str → Bool} {n : Nat}
theorem SetX.at (R : SetX w h a S n) (k : ∀ o, h.get? a = some o → h'.get? a = some o) : SetX w h' a S n := by
  obtain ⟨ob, es, ep, tb, hob, rest⟩ := R
  exact ⟨ob, es, ep, tb, k ob hob, rest⟩
theorem SetX.congr {S' : Str → Bool} (R : SetX w h a S n) (e : ∀ k, S' k = S k) : SetX w h a S' n := by
  obtain rfl : S' = S := funext e
  exact R
theorem txE_elems {l : List (Int × Value)} (g : ∀ e ∈ l, TxE w e) : ElemsOf (strKind P w) l := fun e he => by
  obtain ⟨k, tk, e1, e2⟩ := g e he
  exact ⟨⟨k, by rw [e1]; exact Froz.is_str k tk, e2⟩, by rw [e1] <;> rfl⟩
theorem txE_is {e : Int × Value} (g : TxE w e) (k : Str) : (strKind P w).is k e.2 = true ↔ txOf e = k := by
  obtain ⟨k0, tk, e1, _⟩ := g
  unfold txOf
  rw [e1]
  show ((k0 == k) = true) ↔ k0 = k
  exact beq_iff_eq
theorem txE_mem {l : List (Int × Value)} (g : ∀ e ∈ l, TxE w e) (k : Str) : k ∈ l.map txOf ↔ ∃ e ∈ l, (strKind P w).is k e.2 = true := by
  rw [List.mem_map]
  exact ⟨fun ⟨e, he, q⟩ => ⟨e, he, (txE_is (g e he) k).2 q⟩, fun ⟨e, he, q⟩ => ⟨e, he, (txE_is (g e he) k).1 q⟩⟩
theorem SetX.setOf (R : SetX w h a S n) : h.SetOf (strKind P w) a S n := by
  obtain ⟨ob, es, ep, tb, hob, hx, hd, g, nd, hm, hb, hf, hn, _⟩ := R
  exact ⟨ob, es, ep, tb, hob, hx, hd, txE_elems g, fun k => (hm k).trans (txE_mem g k), hb, hf, hn⟩
end
section
variable {P : Program} {w : World} {A : Around} {E : Value → Shared → Prop} {s : Shared} {a : Addr} {S : Str → Bool} {n : Nat}
theorem setX_tail {g : Bool → Sem Unit} (hg : ∀ (b : Bool) (s₁ : Shared) (Z : Unit → Shared → Prop), Z () s₁ → wpAny (model P w) A (g b) Z E s₁)
    {ob : Obj} {es : Array (Int × Value)} {ep : Nat} {tb : SetTable} (hob : s.heap.get? a = some ob) (hex : ob.ExactSet) (hd : ob.data = .set es ep tb)
    {fs : Array (Int × Value)} {t2 : SetTable} {S' : Str → Bool} (g1 : ∀ e ∈ fs.toList, TxE w e) (nd1 : (fs.toList.map txOf).Nodup) (m1 : ∀ k, S' k = true ↔ k ∈ fs.toList.map txOf)
    (hb1 : fs.size < scanBound) (hf2 : t2.fits fs.size = true) (hr : Ris t2.place.toList) (hl : w.params.followText "set-order" = true ∨ t2.led = true) {wasDummy : Bool} {R : Option Bool → Shared → Prop}
    (hR : ∀ h', Heap.SameBut a s.heap h' → SetX w h' a S' fs.size → R (some true) { s with heap := h' }) :
    wpAny (model P w) A (do
        storeSet a fs t2
        if (!wasDummy && t2.tooFull) = true then do
            g (relayAll t2 fs (SetTable.grown fs.size)).2.2
            storeSet a (relayAll t2 fs (SetTable.grown fs.size)).1 (relayAll t2 fs (SetTable.grown fs.size)).2.1
            pure (some true)
          else pure (some true)) R E s := by
  refine wpAny_bind (wpAny_storeSet_of hob hd ?_ (fits_of_scanBound hb1))
  have ob1 := L2.store_at (es' := fs) (t' := t2) hob hd
  have sm1 := Heap.SameBut.update s.heap a (Obj.putSet fs t2)
  split
  · have pm := relayAll_perm t2 fs (SetTable.grown fs.size)
    have f3 := relayAll_fits t2 fs (SetTable.grown fs.size)
    have r3 := relayAll_ris t2 fs (SetTable.grown fs.size)
    have l3 := relayAll_led t2 fs (SetTable.grown fs.size)
    generalize relayAll t2 fs (SetTable.grown fs.size) = Z at pm f3 r3 l3 ⊢
    obtain ⟨es2, t3, gave⟩ := Z
    dsimp only at pm f3 r3 l3 ⊢
    have hsz : es2.size = fs.size := by rw [← Array.length_toList, pm.length_eq, Array.length_toList]
    have hb2 : es2.size < scanBound := hsz ▸ hb1
    refine wpAny_bind (hg _ _ _ ?_)
    refine wpAny_bind (wpAny_storeSet_of ob1 rfl ?_ (fits_of_scanBound hb2))
    have ob2 := L2.store_at (es' := es2) (t' := t3) ob1 rfl
    refine wpAny_pure (hR _ (sm1.trans (Heap.SameBut.update _ a _)) ?_)
    exact ⟨_, es2, _, t3, ob2, hex, rfl, fun e he => g1 e (pm.mem_iff.mp he), (pm.map txOf).nodup_iff.mpr nd1, fun k => (m1 k).trans (pm.map txOf).mem_iff.symm, hb2, f3, hsz, r3,
      hl.imp id fun z => by rw [l3]; exact z⟩
  · exact wpAny_pure (hR _ sm1 ⟨_, fs, _, t2, ob1, hex, rfl, g1, nd1, m1, hb1, hf2, rfl, hr, hl⟩)
theorem setX_addH {k : Str} {tk : Tok} {Q : Bool → Shared → Prop} (R : SetX w s.heap a S n) (room : n + 1 < scanBound)
    (hQ : ∀ h', Heap.SameBut a s.heap h' → SetX w h' a (fun j => S j || decide (j = k)) (if S k = true then n else n + 1) → Q (!S k) { s with heap := h' }) :
    wpAny (model P w) A (setAddHashed a (.str k tk) ((strKind P w).hash k)) Q E s := by
  obtain ⟨ob, es, ep, tb, hob, hex, hd, g, nd, hm, hb, hf, hn, hr, hl⟩ := R
  have hkey : (strKind P w).is k (.str k tk) = true := Froz.is_str k tk
  have hsc : (Value.str k tk).scannable = true := rfl
  have hel : ElemsOf (strKind P w) es.toList := txE_elems g
  unfold setAddHashed setAddHashedIn
  refine wpAny_holding (wpAny_bind (wpAny_setState_of hob hd hf ?_))
  dsimp only
  rw [byScan_of hsc hb hel]
  simp only [↓reduceIte]
  unfold setAddByScan
  refine wpAny_bind ?_
  refine wpAny_bind (wpAny_rule ?_)
  refine wpAny_bind (wpAny_setScan_of hkey hob hd hf hel ?_)
  cases hfi : List.findIdx? (fun e => (strKind P w).is k e.2) es.toList with
  | some j =>
    dsimp only
    obtain ⟨hj, pj, _⟩ := List.findIdx?_eq_some_iff_getElem.mp hfi
    have inS : S k = true := (hm k).2 ((txE_mem (P := P) g k).2 ⟨es.toList[j], List.getElem_mem hj, pj⟩)
    refine wpAny_pure (wpAny_pure ?_)
    have q := hQ s.heap (Heap.SameBut.refl a s.heap) ⟨ob, es, ep, tb, hob, hex, hd, g, nd, fun i => by
      rw [Bool.or_eq_true, decide_eq_true_eq, ← hm i]
      exact ⟨fun z => z.elim id (fun e => e ▸ inS), .inl⟩, hb, hf, by rw [if_pos inS]; exact hn, hr, hl⟩
    rw [inS] at q
    exact q
  | none =>
    dsimp only
    have hnk : k ∉ es.toList.map txOf := fun z => by
      obtain ⟨e, he, q⟩ := (txE_mem (P := P) g k).1 z
      have c := List.findIdx?_eq_none_iff.mp hfi e he
      rw [q] at c
      cases c
    have notS : S k = false := by
      cases q : S k with
      | false => rfl
      | true => exact absurd ((hm k).1 q) hnk
    have hgw : ∀ (b : Bool) {s₁ : Shared} {Z : Unit → Shared → Prop}, Z () s₁ → wpAny (model P w) A (match b with | true => rule "set.scan.the-table-gave-way" | false => pure ()) Z E s₁ :=
      fun b s₁ Z q => by cases b <;> first | exact wpAny_pure q | exact wpAny_rule q
    have pm := layNew_perm tb es ((strKind P w).hash k) (.str k tk)
    have f1 := layNew_fits tb es ((strKind P w).hash k) (.str k tk)
    have r1 := layNew_ris tb es ((strKind P w).hash k) (.str k tk) hr
    have l1 := layNew_led tb es ((strKind P w).hash k) (.str k tk)
    generalize layNew tb es ((strKind P w).hash k) (.str k tk) = Z at pm f1 r1 l1 ⊢
    obtain ⟨fs, t1, wasDummy, gave⟩ := Z
    dsimp only at pm f1 r1 l1 ⊢
    rw [Array.toList_push] at pm
    have pc : fs.toList.Perm (((strKind P w).hash k, Value.str k tk) :: es.toList) := pm.trans (List.perm_append_singleton _ _)
    have pk : (fs.toList.map txOf).Perm (k :: es.toList.map txOf) := pc.map txOf
    have g1 : ∀ e ∈ fs.toList, TxE w e := fun e he => by
      rcases List.mem_cons.mp (pc.mem_iff.mp he) with z | z
      · rw [z]; exact ⟨k, tk, rfl, rfl⟩
      · exact g e z
    have nd1 : (fs.toList.map txOf).Nodup := pk.nodup_iff.mpr (List.nodup_cons.mpr ⟨hnk, nd⟩)
    have m1 : ∀ i, (S i || decide (i = k)) = true ↔ i ∈ fs.toList.map txOf := fun i => by
      rw [Bool.or_eq_true, decide_eq_true_eq, hm i, pk.mem_iff, List.mem_cons]
      exact Or.comm
    have hsz : fs.size = n + 1 := by rw [← Array.length_toList, pc.length_eq, List.length_cons, Array.length_toList, hn]
    have hb1 : fs.size < scanBound := hsz ▸ room
    have hled : w.params.followText "set-order" = true ∨ t1.led = true := hl.imp id fun z => by rw [l1]; exact z
    have fin : ∀ h', Heap.SameBut a s.heap h' → SetX w h' a (fun j => S j || decide (j = k)) fs.size → Q true { s with heap := h' } := fun h' sb r => by
      have q := hQ h' sb
      rw [notS] at q
      rw [hsz] at r
      exact q r
    refine wpAny_bind (hgw _ ?_)
    split
    · refine wpAny_bind ?_
      rw [hashByValue_scannable 8 hsc]
      refine wpAny_pure ?_
      refine setX_tail ?_ hob hex hd g1 nd1 m1 hb1 ?_ ?_ ?_ ?_
      · intro b s₁ Z q; cases b <;> first | exact wpAny_pure q | exact wpAny_rule q
      · first | (split <;> first | exact f1 | exact SetTable.fits_plain_off f1) | exact f1
      · first | (split <;> exact r1) | exact r1
      · first | (split <;> exact hled) | exact hled
      · intro h' sb r; dsimp only; exact wpAny_pure (fin h' sb r)
    · refine wpAny_bind (wpAny_pure ?_)
      simp only [↓reduceIte]
      refine setX_tail ?_ hob hex hd g1 nd1 m1 hb1 f1 r1 hled ?_
      · intro b s₁ Z q; cases b <;> first | exact wpAny_pure q | exact wpAny_rule q
      · intro h' sb r; dsimp only; exact wpAny_pure (fin h' sb r)
theorem setX_fresh {h : Heap} (ho : h.get? a = some { cls := .type "set", dict := none, data := .set #[] 0 (.fresh 0 0 (!w.params.followText "set-order")) }) : SetX w h a (fun _ => false) 0 :=
  ⟨_, #[], 0, _, ho, ⟨rfl, rfl, rfl⟩, rfl, (fun e he => by simp at he), (by simp), (fun k => by simp), (by decide), (by rfl), rfl, List.Pairwise.nil, by
    show _ ∨ (!w.params.followText "set-order") = true
    cases w.params.followText "set-order"
    · exact .inr rfl
    · exact .inl rfl⟩
/-- the loop that fills it -/
theorem setX_loop {I : Addr} {fp wr : List Addr} {G : Array GenState → Array GenState → Prop} {n : Nat} {Pv : Nat → Value → Prop} {St : Nat → Shared → Prop} {R : Result → Shared → Prop}
    (W : WalksS P w A.in1 I fp wr G n Pv St) (D : Addr) (hDf : D ∉ fp) (xs : List Str) (hn : n = xs.length) (hb : xs.length + 1 < scanBound) (hval : ∀ i v, Pv i v → ∃ k t, xs[i]? = some k ∧ v = .str k t) :
    ∀ (k i : Nat) (s : Shared), n - i = k → i ≤ n → St i s → (∃ c, c ≤ i ∧ SetX w s.heap D (fun j => decide (j ∈ xs.take i)) c) →
      (∀ s' c, Moved (D :: wr) G s s' → c ≤ n → SetX w s'.heap D (fun j => decide (j ∈ xs)) c → R (.ok (.ret .none)) s') →
      codeAny (model P w) A (.builtin "set.update.loop" ⟨[.ref D, .ref I], []⟩) R s := by
  have hDw : D ∉ wr := fun z => hDf (W.sub _ z)
  have hsub : ∀ b ∈ wr, b ∈ D :: wr := fun b z => List.mem_cons_of_mem _ z
  intro k
  induction k with
  | zero =>
    intro i s hk' hi hst ⟨c, hc, hS⟩ hR
    obtain rfl : i = n := by omega
    refine codeAny_builtin PyProof.Rows.F.entry_set_update_loop ?_
    rw [Around.under_plainId PyProof.Rows.F.plain_set_update_loop _]
    show wpAny _ A.in1 (pyNext (.ref I) >>= _) _ _ s
    refine wpAny_bind (W.done s _ _ hst fun s' hm => ?_)
    show wpAny _ A.in1 (ret Value.none) _ _ s'
    rw [List.take_of_length_le (by omega : xs.length ≤ i)] at hS
    exact wpAny_pure (hR s' c (hm.mono hsub) hc (hS.at fun o e => hm.heap D o hDw e))
  | succ k ih =>
    intro i s hk' hi hst ⟨c, hc, hS⟩ hR
    have hlt : i < n := by omega
    refine codeAny_builtin PyProof.Rows.F.entry_set_update_loop ?_
    rw [Around.under_plainId PyProof.Rows.F.plain_set_update_loop _]
    show wpAny _ A.in1 (pyNext (.ref I) >>= _) _ _ s
    refine wpAny_bind (W.item i s _ _ hlt hst fun v s' hP hst' hm => ?_)
    obtain ⟨z, t, hz, rfl⟩ := hval i v hP
    have hS' : SetX w s'.heap D (fun j => decide (j ∈ xs.take i)) c := hS.at fun o e => hm.heap D o hDw e
    show wpAny _ A.in1 (holding [Value.str z t] (setAdd D (.str z t)) >>= _) _ _ s'
    refine wpAny_bind (wpAny_holding ?_)
    unfold setAdd
    refine wpAny_holding ?_
    refine wpAny_bind ((strKind P w).pyHash (k := z) (Froz.is_str _ _) ?_)
    refine setX_addH (s := { s' with toks := s'.toks + 1 }) hS' (by omega) fun h' hsb hS2 => ?_
    have hS3 : SetX w h' D (fun j => decide (j ∈ xs.take (i + 1))) (if decide (z ∈ xs.take i) = true then c else c + 1) := hS2.congr fun j => by
      rw [List.take_add_one, hz]
      simp [List.mem_append]
    have hc3 : (if decide (z ∈ xs.take i) = true then c else c + 1) ≤ i + 1 := by
      split <;> omega
    refine wpAny_pure ⟨plainId_quiet PyProof.Rows.F.plain_set_update_loop _, ih (i + 1) _ (by omega) hlt (W.frame _ s' _ _ hst' (Nat.le_succ _) fun b hb o e => ?_) ⟨_, hc3, hS3⟩ fun s'' c2 hm'' hc'' hS'' => ?_⟩
    · rw [hsb.2 b (fun q : b = D => hDf (by rw [← q]; exact hb))]; exact e
    · refine hR s'' c2 (Moved.trans W.gtrans ((hm.mono hsub).then_heap (Nat.le_succ _) fun b o hb e => ?_) hm'') hc'' hS''
      rw [hsb.2 b (fun q : b = D => hb (by rw [q]; exact List.mem_cons_self))]; exact e
end
end DL
namespace DL
open PySem PySem.Spec PyProof.Rows L2
abbrev freshS (w : World) : Obj := { cls := .type "set", dict := none, data := .set #[] 0 (.fresh 0 0 (!w.params.followText "set-order")) }
section
variable {P : Program} {w : World} {A : Around} {E : Value → Shared → Prop} {s : Shared}

set_option maxHeartbeats 3200000 in
theorem call_setX_list {l : Addr} {items : Array Value} (xs : List Str) {Q : Value → Shared → Prop} (hh : A.handled = none) (hl : s.heap.IsList l items) (hit : StrsAre items.toList xs) (hb : xs.length + 1 < scanBound)
    (h : ∀ (h' : Heap) (tk c : Nat), SetX w h' s.heap.objs.size (fun j => decide (j ∈ xs)) c → c ≤ xs.length → (∀ b o, s.heap.get? b = some o → h'.get? b = some o) → Q (.ref s.heap.objs.size) { s with heap := h', toks := tk }) :
    wpAny (model P w) A (call (.type "set") [.ref l]) Q E s := by
  have hisz : items.size = xs.length := by rw [← StrsAre.len_eq hit, Array.length_toList]
  obtain ⟨c0, tl, hmro⟩ := PySem.F.called_set.mro
  have k_made := PySem.F.called_set.made
  have k_sub := PySem.F.called_set.sub
  refine wpAny_call (codeAny_of_tree ?_)
  show wpAny _ _ (callAny (.type "set") _) _ _ _
  refine wpAny_pure ⟨Code.quiet_builtin _ (by decide +kernel), codeAny_builtin PySem.F.entry_type_call ?_⟩
  rw [Around.under_plain (weight_type_call_type "set" [.ref l] []) rfl]
  have k_1 := PySem.F.called_set.notType
  have k_2 := PySem.F.called_set.canCreate
  have k_3 := PySem.F.typeCall_set_1 (.ref l)
  repeat (any_goals (first | assumption | wp_step))
  refine codeAny_mono (code_set_led1 (.ref l) (E := E) (Q₁ := fun ob s₁ => ob = .ref s.heap.objs.size ∧ s₁ = { s with heap := s.heap.push (freshS w) }) ⟨rfl, rfl⟩) fun r s₁ hr => ?_
  cases r with
  | error e => exact hr
  | ok fl =>
    cases fl with
    | ret ob =>
      obtain ⟨rfl, rfl⟩ := hr
      have hS : (s.heap.push (freshS w)).get? s.heap.objs.size = some (freshS w) := Heap.get?_push_size _ rfl
      have hT : Shared.TypeIs { s with heap := s.heap.push (freshS w) } (.ref s.heap.objs.size) "set" := ⟨_, hS, rfl⟩
      have k_4 := PySem.F.called_set.init.lookup
      have k_5 := PySem.F.called_set.init.bind (.ref s.heap.objs.size)
      repeat (any_goals (first | assumption | wp_step))
      refine codeAny_mono (codeAny_call_builtin (R := wants (fun r s₂ => r = .none ∧ ∃ h' tk c, s₂ = { s with heap := h', toks := tk } ∧ SetX w h' s.heap.objs.size (fun j => decide (j ∈ xs)) c ∧ c ≤ xs.length ∧
          (∀ b o, s.heap.get? b = some o → h'.get? b = some o)) E) PySem.F.called_set.init.plain PySem.F.entry_set_init (check_set_init_1 hT ?_)) fun r₂ s₂ hr₂ => ?_
      · obtain ⟨ol, hol, hcl, nl, hdl⟩ := hl
        obtain ⟨ocls, odict, odata, oslots⟩ := ol
        simp only at hcl hdl
        subst hcl; subst hdl
        have hol' : (s.heap.push (freshS w)).get? l = some { cls := .type "list", dict := odict, data := .seq items nl, slots := oslots } := Heap.get?_push_of_some _ hol
        have k_6 := PySem.F.sub_list_set
        have k_7 := PySem.F.sub_list_frozenset
        have k_8 : (Value.type "list" == Value.type "dict") = false := by decide
        have hl1 : (s.heap.push (freshS w)).IsList l items := ⟨_, hol', rfl, nl, rfl⟩
        unfold Builtin.«set.__init__» noKeywords Builtin.Frozenset.updateFrom
        generalize hPI : pyIter = PI
        wp_walk
        subst hPI
        refine wpAny_pyIter_list hl1 ?_
        refine wpAny_bind (wpAny_runValue ?_)
        have hlS : l < s.heap.objs.size := Heap.lt_size hol
        have hh3 : A.in1.in1.in1.handled = none := by simp [hh]
        have hz1 : (s.heap.push (freshS w)).objs.size = s.heap.objs.size + 1 := Heap.size_push ..
        have hneI : l ≠ (s.heap.push (freshS w)).objs.size := by
          rw [hz1]; exact Nat.ne_of_lt (Nat.lt_succ_of_lt hlS)
        have hSf : s.heap.objs.size ∉ [(s.heap.push (freshS w)).objs.size, l] := by
          rw [hz1]; simp only [List.mem_cons, List.not_mem_nil, or_false, not_or]
          exact ⟨Nat.ne_of_lt (Nat.lt_succ_self _), Nat.ne_of_gt hlS⟩
        have hval : ∀ (i : Nat) (v : Value), items[i]? = some v → ∃ k t, xs[i]? = some k ∧ v = .str k t := fun i v hv => by
          have hi : i < xs.length := by rw [← hisz]; exact (Array.getElem?_eq_some_iff.mp hv).1
          obtain ⟨t, e⟩ := SS.strs_at hit i v (by rw [Array.getElem?_toList]; exact hv)
          refine ⟨xs[i], t, List.getElem?_eq_getElem hi, ?_⟩
          rw [e, List.getD_eq_getElem?_getD, List.getElem?_eq_getElem hi] <;> rfl
        refine setX_loop ((Walks.list hh3 _ l hneI items).toS) s.heap.objs.size
          hSf xs hisz hb hval (items.size - 0) 0 _ (by omega) (Nat.zero_le _)
          ⟨⟨_, Heap.get?_push_size _ rfl, rfl, rfl⟩, (hl1.push _)⟩ ?hS0 ?hR
        case hS0 =>
          refine ⟨0, Nat.le_refl 0, (setX_fresh (Heap.get?_push_of_some _ hS)).congr fun k => ?_⟩
          simp
        case hR =>
          intro s' c' hm hc' hS'
          obtain ⟨h', g2, d', tk', os'⟩ := s'
          obtain rfl : g2 = s.gens := hm.gens
          obtain rfl : d' = s.drawn := hm.drawn
          obtain rfl : os' = s.os := hm.os
          show wpAny _ _ _ _ _ _
          refine wpAny_pure ?_
          show wpAny _ _ (ret Value.none) _ _ _
          rw [hisz] at hc'
          refine wpAny_pure ⟨rfl, h', tk', c', rfl, hS', hc', fun b o e => ?_⟩
          have hb0 : b < s.heap.objs.size := Heap.lt_size e
          refine hm.heap b o ?_ (Heap.get?_push_of_some _ (Heap.get?_push_of_some _ e))
          rw [hz1]
          simp only [List.mem_cons, List.not_mem_nil, or_false, not_or]
          exact ⟨Nat.ne_of_lt hb0, Nat.ne_of_lt (Nat.lt_succ_of_lt hb0)⟩
      · cases r₂ with
        | error e => exact hr₂
        | ok fl₂ =>
          cases fl₂ with
          | ret r =>
            obtain ⟨rfl, h', tk, c', rfl, hS', hc', hk'⟩ := hr₂
            repeat (any_goals (first | assumption | wp_step))
            exact h _ _ _ hS' hc' hk'
          | _ => exact hr₂.elim
    | _ => exact hr.elim
end
end DL
namespace DL
open PySem PySem.Spec PyProof.Rows L2
/-- texts in order, each once -/
def Rise (ys : List Str) : Prop := ys.Pairwise fun a b => a.cps.toList < b.cps.toList
theorem setX_obj {P : Program} {w : World} {H : Hp} {h : Heap} {a : Addr} {S : Str → Bool} {n : Nat} (R : SetX w h a S n) : ObjOk P w H h a (.ext fun h => SetX w h a S n) := by
  have ⟨o, es, ep, t, ho, r⟩ := R
  exact ⟨R, ⟨o, ho⟩, fun h1 h2 p k => SetX.at p k⟩
theorem strs_vals : ∀ {us : List Value} {xs : List Str}, Vals (xs.map V.str) us → StrsAre us xs
  | _, [], .nil => .nil
  | _, x :: xs, .cons r t => by
    obtain ⟨tk, rfl⟩ := r
    exact .cons x tk (strs_vals t)
section
variable {X : Cx}
/-- set(list of texts) -/
abbrev rSetX (K : PySem.W.Frag) (w : World) : List V → Hp → VK → Prop := fun vs H Q => ∃ (l : Addr) (xs : List Str), vs = [.ref l] ∧ SqL K H l (xs.map V.str) ∧ xs.length + 1 < scanBound ∧
  ∀ a n, H a = none → n ≤ xs.length → Q (.ref a) (upd H a (.ext fun h => SetX w h a (fun k => decide (k ∈ xs)) n))
theorem cr_setX (hc : X.calm = true) : CallR X (.type "set") (rSetX X.K X.w) := fun pins s σ H vs us Q I r ⟨l, xs, ev, hl, hb, q⟩ => by
  subst ev
  obtain ⟨u, rfl, ru⟩ := vals1 r
  obtain rfl : u = Value.ref l := ru
  obtain ⟨its, rv, pl, hz⟩ := I.list hl
  have hn : H s.heap.objs.size = none := I.hok.fresh (Nat.le_refl _)
  refine call_setX_list (P := X.prog) (w := X.w) xs (I.ok.hd hc) pl.isList (by simpa using strs_vals rv) hb fun h' tk c R hle k => ?_
  exact ⟨.ref s.heap.objs.size, _, I.laid (t' := tk) k (Nat.le_refl _) (setX_obj R), rfl, q _ c hn hle⟩

theorem rise_of : ∀ {l : List Str}, l.Pairwise (fun a b => decide (a.cps.toList ≤ b.cps.toList) = true) → l.Nodup → Rise l
  | [], _, _ => List.Pairwise.nil
  | x :: l, h, d => by
    obtain ⟨h1, h2⟩ := List.pairwise_cons.mp h
    obtain ⟨d1, d2⟩ := List.nodup_cons.mp d
    refine List.pairwise_cons.mpr ⟨fun y hy => ?_, rise_of h2 d2⟩
    have e1 := of_decide_eq_true (h1 y hy)
    rcases List.le_iff_lt_or_eq.mp e1 with z | z
    · exact z
    · exact absurd (PySem.W.str_of_cps z ▸ hy) d1
theorem txs_of : ∀ (w : World) (l : List Value), (∀ v ∈ l, ∃ k tk, v = Value.str k tk) → ∃ bs : List Str, Paired (fun v x => ∃ tk, v = Value.str x tk) l bs
  | _, [], _ => ⟨[], .nil⟩
  | w, v :: l, h => by
    obtain ⟨k, tk, rfl⟩ := h v List.mem_cons_self
    obtain ⟨bs, hb⟩ := txs_of w l fun u hu => h u (List.mem_cons_of_mem _ hu)
    exact ⟨k :: bs, .cons ⟨tk, rfl⟩ hb⟩
theorem paired_tx : ∀ {l : List Value} {bs : List Str}, Paired (fun v x => ∃ tk, v = Value.str x tk) l bs → bs = l.map fun v => txOf (0, v)
  | _, _, .nil => rfl
  | _, _, .cons h t => by
    obtain ⟨tk, rfl⟩ := h
    rw [List.map_cons, ← paired_tx t]
    rfl
theorem paired_vals : ∀ {l : List Value} {bs : List Str}, Paired (fun v x => ∃ tk, v = Value.str x tk) l bs → Vals (bs.map V.str) l
  | _, _, .nil => .nil
  | _, _, .cons ⟨tk, h⟩ t => .cons ⟨tk, h⟩ (paired_vals t)
/-- sorted(set of texts) -/
abbrev rSortX (w : World) : List V → Hp → VK → Prop := fun vs H Q => ∃ (a : Addr) (S : Str → Bool) (n : Nat), vs = [.ref a] ∧ H a = some (.ext fun h => SetX w h a S n) ∧
  ∀ p ys, H p = none → Rise ys → (∀ k, k ∈ ys ↔ S k = true) → ys.length = n → Q (.ref p) (upd H p (.lst (ys.map V.str)))
theorem cr_sortX (hc : X.calm = true) (hu : X.A.units + 100 < cLine) : CallR X (.builtin "sorted") (rSortX X.w) := fun pins s σ H vs us Q I r ⟨a, S, n, ev, ha, q⟩ => by
  subst ev
  obtain ⟨u, rfl, ru⟩ := vals1 r
  obtain rfl : u = Value.ref a := ru
  obtain ⟨ob, es, ep, tb, hob, hex, hd, g, nd, hm, hb, hf, hn, hr, hl⟩ : SetX X.w s.heap a S n := (I.hok a _ ha).1
  refine PySem.Calls.call_function_entry PyProof.Rows.kind_sorted PyProof.Rows.plain_sorted PyProof.Rows.entry_sorted (PyProof.Rows.args_sorted1 _) ?_
  unfold Builtin.«sorted»
  refine wpAny_bind (m := checkCount "sorted" 1 1 _) (wpAny_pure ?_)
  refine wpAny_bind (L2.collect_set (A := X.A.in1) (I.ok.hd hc) ⟨ob, hob, hex.1, hd⟩ hf hb hr hl fun s1 vs k1 hz g1 o1 pm => ?_)
  obtain ⟨bs, hbs⟩ := txs_of X.w vs fun v hv => by
    obtain ⟨e, he, qq⟩ := List.mem_map.mp (pm.mem_iff.mp hv)
    obtain ⟨k, tk, e1, _⟩ := g e he
    exact ⟨k, tk, by rw [← qq]; exact e1⟩
  have pk : bs.Perm (es.toList.map txOf) := by
    rw [paired_tx hbs]
    have e := pm.map fun v => txOf (0, v)
    rw [List.map_map] at e
    exact e
  have hvl : bs.length = n := by rw [pk.length_eq, List.length_map, Array.length_toList]; exact hn
  have hvl2 : vs.length = n := by rw [Paired.length hbs]; exact hvl
  have hlz : n ≤ sizeLine := by rw [← hn]; exact fits_of_scanBound hb
  refine wpAny_bind (wpAny_newList ?_ (by rw [hvl2]; exact hlz))
  have hoL : (s1.heap.push (seqObj "list" vs.toArray 0)).get? s1.heap.objs.size = some (seqObj "list" vs.toArray 0) := Heap.get?_push_size _ rfl
  have er : PySem.W.EachIs (fun v (x : Str) => ∃ as, Reads (s1.heap.push (seqObj "list" vs.toArray 0)) v (PyData.str x) as ∧ s1.heap.objs.size ∉ as) vs bs := by
    refine each_paired (Paired.mono hbs fun v x zz => ?_)
    obtain ⟨tk, rfl⟩ := zz
    exact ⟨[], .str x tk, by simp⟩
  have hal : PySem.W.AllAlike (bs.map PyData.str) := fun d hd d' hd' => by
    obtain ⟨x, _, rfl⟩ := List.mem_map.mp hd
    obtain ⟨y, _, rfl⟩ := List.mem_map.mp hd'
    rfl
  have hso : PySem.W.Sortable (bs.map PyData.str) := .inr fun d hd => by
    obtain ⟨x, _, rfl⟩ := List.mem_map.mp hd
    exact ⟨fun z => (nomatch z), fun _ z => (nomatch z)⟩
  have hdeep : ∀ b ∈ bs, X.A.in1.units + 1 + (PyData.str b).depth < cLine := fun b hb => by
    have hdep : (PyData.str b).depth ≤ 1 := by first | exact Nat.le_refl _ | exact Nat.zero_le _ | simp [PyData.depth]
    show X.A.units + 1 + 1 + _ < _
    omega
  show wpAny _ _ _ _ _ { s1 with heap := s1.heap.push (seqObj "list" vs.toArray 0) }
  refine wpAny_bind (wpAny_holding (PySem.W.list_sort_data (s := { s1 with heap := s1.heap.push (seqObj "list" vs.toArray 0) }) (R := fun v x => ∃ tk, v = Value.str x tk) (enc := PyData.str) (bs := bs) (n := 0) hoL (each_paired hbs) er hal hso (by rw [hvl]; exact hlz)
    hdeep fun out hlo hout => ?_))
  obtain ⟨e', he'⟩ := PyProof.Rows.sortedHeap_at (vs := vs) (out := List.toArray out) hoL
  have hp := paired_each hout
  have pms := List.mergeSort_perm bs (PySem.W.dataLe false PyData.str)
  have rise : Rise (bs.mergeSort (PySem.W.dataLe false PyData.str)) := by
    refine rise_of ?_ ((pms.trans pk).nodup_iff.mpr nd)
    have e : PySem.W.dataLe false PyData.str = fun a b : Str => decide (a.cps.toList ≤ b.cps.toList) := PySem.W.dataLe_str id
    rw [e]
    refine List.pairwise_mergeSort ?_ ?_ bs
    · intro a b c h1 h2
      exact decide_eq_true (List.le_trans (of_decide_eq_true h1) (of_decide_eq_true h2))
    · intro a b
      rcases List.le_total a.cps.toList b.cps.toList with z | z <;> simp [z]
  have hlen : (bs.mergeSort (PySem.W.dataLe false PyData.str)).length = n := by rw [List.length_mergeSort]; exact hvl
  have hnew : H s1.heap.objs.size = none := I.hok.fresh hz
  have key : ∀ h', (∀ b u, s1.heap.get? b = some u → h'.get? b = some u) → h'.get? s1.heap.objs.size = some (seqObj "list" (List.toArray out) e') →
      EP X pins σ Q (.ref s1.heap.objs.size) { s1 with heap := h' } := fun h' kk hg => by
    have J : Inv X pins σ (upd H s1.heap.objs.size (.lst ((bs.mergeSort (PySem.W.dataLe false PyData.str)).map V.str))) { s with heap := h', gens := s1.gens, drawn := s1.drawn, toks := s1.toks } :=
      I.call (ch := []) (Un.laid (fun b u e => kk b u (k1 b u e)) hz hnew) (I.hok.laid (fun b u e => kk b u (k1 b u e)) hz ⟨by rw [List.length_map, hlen]; exact hlz, out, e', paired_vals hp, by simpa using hg⟩) (by rw [g1]; exact I.bare) (fun _ z => nomatch z)
    have e : ({ s1 with heap := h' } : Shared) = { s with heap := h', gens := s1.gens, drawn := s1.drawn, toks := s1.toks } := by
      cases s1
      cases s
      cases o1
      rfl
    rw [e]
    exact ⟨.ref s1.heap.objs.size, _, J, rfl, q _ _ hnew rise (fun k => by rw [(pms.trans pk).mem_iff]; exact (hm k).symm) hlen⟩
  refine wpAny_pure ⟨_, rfl, key _ (fun b u eb => ?_) he'⟩
  have hb' : b < s1.heap.objs.size := Heap.lt_size eb
  rw [PyProof.Rows.sortedHeap_old (Nat.ne_of_lt hb') (by rw [size_push']; exact Nat.lt_succ_of_lt hb')]
  exact Heap.get?_push_of_some _ eb
end
section
variable {C : Ctx} {Γ : Gm} {L : Lp} {Q : D → Lp → Prop}
theorem c_setX {p : Addr} {xs : List Str} (hp : L p = some (.lst (xs.map D.str))) (hb : xs.length + 1 < scanBound) (q : ∀ l n, L l = none → n ≤ xs.length → Q (.ptr l) (put L l (.txs (fun k => decide (k ∈ xs)) n))) : LcR C (rSetX C.X.K C.X.w) [.ptr p] L Q := fun F vs H c r0 QV go => by
  obtain ⟨v, rfl, r⟩ := r0.oneE
  obtain ⟨ws, ha, ra, hz⟩ := c.at_ p _ hp
  have e := reps_strs ra
  subst e
  refine ⟨p, xs, by rw [r.ptrE], SqL.of ha, hb, fun l n hl hn => go _ _ _ (put L l (.txs (fun k => decide (k ∈ xs)) n)) (.ptr l) (c.newL hl ⟨upd_same, fun k hk => ?_⟩) (.newL hl) (q l n (c.free hl) hn)⟩
  obtain ⟨i, hi⟩ := List.getElem?_of_mem (of_decide_eq_true hk)
  obtain ⟨v, _, rv⟩ := ra.get (show (xs.map D.str)[i]? = some (.str k) by rw [List.getElem?_map, hi]; rfl)
  exact rv.bnd
theorem reps_ofS {K : PySem.W.Frag} {F : Fz} {H : Hp} : ∀ {xs : List Str}, (∀ x ∈ xs, SOk x) → Reps K F H (xs.map V.str) (xs.map D.str)
  | [], _ => .nil
  | x :: xs, h => .cons (.str x (h x List.mem_cons_self)) (reps_ofS fun y hy => h y (List.mem_cons_of_mem _ hy))
theorem c_sortX {p : Addr} {S : Str → Bool} {n : Nat} (hp : L p = some (.txs S n)) (hn : n ≤ sizeLine) (q : ∀ l ys, L l = none → Rise ys → (∀ k, k ∈ ys ↔ S k = true) → ys.length = n → Q (.ptr l) (put L l (.lst (ys.map D.str)))) : LcR C (rSortX C.X.w) [.ptr p] L Q := fun F vs H c r0 QV go => by
  obtain ⟨v, rfl, r⟩ := r0.oneE
  obtain ⟨ha, hs⟩ := c.at_ p _ hp
  refine ⟨p, S, n, by rw [r.ptrE], ha, fun l ys hl h1 h2 h3 => go _ _ _ (put L l (.lst (ys.map D.str))) (.ptr l) (c.newL hl ⟨_, upd_same, reps_ofS fun x hx => hs x ((h2 x).1 hx), by rw [List.length_map, h3]; exact hn⟩) (.newL hl) (q l ys (c.free hl) h1 h2 h3)⟩
end
end DL
namespace DL
open PySem PySem.Spec PyProof.Rows L2

/-! ### {k: v for .. in ..}, the keys tuples -/
section
variable {X : Cx}
theorem dtSet {pins : List (Addr × Obj)} {σ : L2.St} {H : Hp} {s : Shared} {E : Value → Shared → Prop} {dd b : Addr} {kvs : List (List Key × V)} {k : List Key} {v : V} {r : Value} {Q : Unit → Shared → Prop} (hu : X.A.units < cLine) (I : Inv X pins σ H s) (hD : H dd = some (.dT kvs)) (hz : kvs.length < sizeLine)
    (hk : H b = some (.tup (k.map kV))) (rv : RelV v r) (h : ∀ s', Inv X pins σ (upd H dd (.dT (putK kvs k v))) s' → Q () s') : wpAny (model X.prog X.w) X.A (dictSet dd (.ref b) r) Q E s := by
  obtain ⟨z, hd, xs, rel, ob⟩ := dt_of I.hok hD
  have hl : (putK kvs k v).length ≤ sizeLine := by have := length_putK kvs k v; omega
  have hxl : xs.length ≤ sizeLine := by rw [← Paired.length rel]; exact z
  refine wpAny_dictSet_heap (hsz := hxl) (knd := tupleKind (mixKind X.prog X.w)) hu (key_of I.hok hk) ob fun h' ob' hs => h _ ?_
  obtain ⟨q, es, ep, g1, g2, g3, g4, _, g5⟩ := ob'
  refine d_write I (by rw [hD]; exact True.intro) hs ⟨q, g1⟩ ⟨hl, hd, _, (rel.put k hk rv).keeps fun c ys ec => ?_, q, es, ep, g1, g2, g3, g4, g5⟩
  rw [upd_ne (ne_of ec hD (fun z => nomatch z))]
  exact ec
abbrev BX (X : Cx) (scope : Scope) (s : Shared) (H : Hp) (C : Addr) (cl : List (Str × Addr)) (fp : List Addr) : Cx := X.blk s H scope (compEnvC scope cl C X.env) fp
/-- what it reads as -/
def tDcT (wi : TI) (g : TG) (tt : TT) (tk tv : TE) (vs : List Nat) : TE := fun σ H Q => wi σ H fun J H1 => ∀ dd, H1 dd = none → ∃ W : Nat → Nat → Hp → Prop, (∃ m, W 0 m (upd H1 dd (.dT []))) ∧ ∀ i m H, W i m H →
  (J.stop i H ∧ Q (.ref dd) H) ∨ (J.go i H ∧ ∃ Nx : Hp → Prop, (∀ H', Nx H' → ∃ m', m' < m ∧ W (i + 1) m' H') ∧ ∀ x H', J.yld i H x H' → g x (wipe σ vs) H' fun σ2 H2 => wipe σ2 vs = wipe σ vs ∧ tt σ2 H2 fun b H3 =>
    if b = true then tk σ2 H3 fun y H4 => tv σ2 H4 fun z H5 => ∃ kvs k c, y = .ref c ∧ H5 c = some (.tup (k.map kV)) ∧ H5 dd = some (.dT kvs) ∧ kvs.length < sizeLine ∧ Nx (upd H5 dd (.dT (putK kvs k z))) else Nx H3)
theorem dcT_core {pins : List (Addr × Obj)} {s : Shared} {σ : L2.St} {H : Hp} {Q : VK} {kx vx tg iter : Expr} {ifs : List Expr} {scope : Scope} {own : List (Str × Nat)} {pos pos' : Pos} {wi : TI} {g : TG} {tt : TT} {tk tv : TE} {use : Option (Value → Sem Unit)} {Qf : Value → Shared → Prop}
    (hc : X.calm = true) (hu : X.A.units < cLine) (hN : X.N.Nodup) (I : Inv X pins σ H s) (hi : PI X tg iter wi) (ok : BlkOk X.N X.env.scope scope own)
    (hg : ∀ s H C cl fp, PG (BX X scope s H C cl fp) tg g) (ht : ∀ s H C cl fp, PTs (BX X scope s H C cl fp) ifs tt) (hk : ∀ s H C cl fp, PE (BX X scope s H C cl fp) kx tk) (he : ∀ s H C cl fp, PE (BX X scope s H C cl fp) vx tv) (hs : ∀ x, foldedSetIterable iter X.env x = pure x)
    (h : tDcT wi g tt tk tv (own.map (·.2)) σ H Q)
    (hfin : ∀ dd C s' m H', Inv X pins σ H' s' → Q (.ref dd) H' → s'.heap.Ns C m → FpOk X pins H' C → compPost (model X.prog X.w) X.A X.xe use Qf (.ref dd) C (.ok .next) s') :
    wpAny (model X.prog X.w) X.A (comprehension (.DictComp kx vx [⟨tg, iter, ifs, 0⟩] scope pos) scope X.env pos' newDict false (eval iter X.env) use) Qf X.xe s := by
  have cells : ∀ y ∈ scope.names, y.2 = .free → ∃ c, X.env.cells.lookup y.1 = some c := fun y hy e => by
    rcases ok.free y hy e with k | k
    · exact I.ok.has _ (Or.inl k)
    · exact I.ok.has _ (Or.inr k)
  refine wpAny_comprehension_free (use := use) rfl hs (closure_ok cells) ok.kind (fun y hy e => by rw [ok.uniq y hy, e]) (thn (hi.run pins s σ H _ I h) fun xv s1 hx => thn hx fun itv s2 h2 => ?_)
  obtain ⟨it, fp, tn, J, H2, rfl, I2, T, st2, f2, q⟩ := h2
  refine wpAny_newObj_type (newEnv_comp ?_)
  generalize hDD : s2.heap.objs.size = dd
  have newD : H2 dd = none := I2.hok.fresh (Nat.le_of_eq hDD)
  obtain ⟨W, ⟨m0, w0⟩, turn⟩ := q dd newD
  generalize hs3 : ({ s2 with heap := s2.heap.push { cls := .type "dict", data := .dict #[] } } : Shared) = s3
  have I3 : Inv X pins σ (upd H2 dd (.dT [])) s3 := by
    rw [← hs3]
    refine I2.laid (t' := s2.toks) (fun b o e => Heap.get?_push_of_some _ e) (Nat.le_of_eq hDD) ?_
    rw [← hDD]
    exact dt_empty s2.heap I2.big
  have e3 : s3.heap = s2.heap.push { cls := .type "dict", data := .dict #[] } := by rw [← hs3]
  have f3 : ∀ b ∈ fp, FpOk X pins (upd H2 dd (.dT [])) b ∧ b < s3.heap.objs.size := fun b hb => by
    obtain ⟨o, eo, _⟩ := T.obj _ _ st2 b hb
    have hlt := Heap.lt_size eo
    refine ⟨⟨?_, (f2 b hb).2⟩, by rw [e3, Heap.size_push]; exact Nat.lt_succ_of_lt hlt⟩
    rw [upd_ne (by rw [← hDD]; exact Nat.ne_of_lt hlt)]
    exact (f2 b hb).1
  have st3 : tn 0 s3.heap := T.keep _ _ _ st2 fun b _ o e => by rw [e3]; exact Heap.get?_push_of_some _ e
  have I4 := block_start I3 ok hN f3
  generalize hcl : cellsFrom (s3.heap.objs.size + 1) scope.names (cloFrom X.env.cells scope.names []) = cl at I4
  have pg := hg s3 (upd H2 dd (.dT [])) s3.heap.objs.size cl fp
  have pt := ht s3 (upd H2 dd (.dT [])) s3.heap.objs.size cl fp
  have pk := hk s3 (upd H2 dd (.dT [])) s3.heap.objs.size cl fp
  have pe := he s3 (upd H2 dd (.dT [])) s3.heap.objs.size cl fp
  unfold BX at pg pt pk pe
  show codeAny _ _ (.compStart (.DictComp kx vx [⟨tg, iter, ifs, 0⟩] scope pos) 0 (.ref it) (.ref dd) (compEnvC scope cl s3.heap.objs.size X.env)) (compPost (model X.prog X.w) X.A X.xe use Qf (.ref dd) s3.heap.objs.size) { s3 with heap := pushCells (s3.heap.push { cls := .type "dict", data := .dict #[] }) scope.names }
  have nfp : ∀ b ∈ fp, (upd H2 dd (.dT [])) b = none := fun b hb => (f3 b hb).1.1
  generalize hce : compEnvC scope cl s3.heap.objs.size X.env = ce at I4 pg pt pk pe ⊢
  have cL : ce.locals = s3.heap.objs.size := by subst hce; rfl
  generalize hH3 : upd H2 dd (.dT []) = H3 at I3 I4 pg pt pk pe w0 nfp f3
  generalize hs4 : ({ s3 with heap := pushCells (s3.heap.push { cls := .type "dict", data := .dict #[] }) scope.names } : Shared) = s4 at I4 ⊢
  have st4 : tn 0 s4.heap := T.keep _ _ _ st3 fun b _ o e => by rw [← hs4]; exact pushCells_keeps _ _ _ _ (Heap.get?_push_of_some _ e)
  let XB : Cx := X.blk s3 H3 scope ce fp
  have stat : ∀ {σ' : L2.St} {H' : Hp} {s' : Shared}, Inv XB [] σ' H' s' → (∀ b ∈ fp, H' b = none) → ∀ b ∈ fp, FpOk XB [] H' b := fun {σ' H' s'} I' hn b hb =>
    ⟨hn b hb, (I'.ok.exf b hb).1, I'.ok.exfs b hb, .inl hb, fun x c e => (I'.ok.exf b hb).2 x c e, fun p hp => absurd (show p ∈ ([] : List (Addr × Obj)) ++ [] from hp) (by simp)⟩
  have loop : codeAny (model X.prog X.w) X.A (.compLoop (.DictComp kx vx [⟨tg, iter, ifs, 0⟩] scope pos) 0 (.ref it) (.ref dd) ce) (compPost (model X.prog X.w) X.A X.xe use Qf (.ref dd) s3.heap.objs.size) s4 := by
    refine compLoop_anyD (fun n s' => ∃ i H', Inv XB [] (wipe σ (own.map (·.2))) H' s' ∧ tn i s'.heap ∧ (∀ b ∈ fp, H' b = none) ∧ W i n H') ?_ m0 ⟨0, H3, I4, st4, nfp, w0⟩
    rintro n s5 ⟨i, H5, I5, st5, n5, w5⟩
    rcases turn i n H5 w5 with ⟨stop, qq⟩ | ⟨go, Nx, hNx, step⟩
    · have td := T.done XB rfl rfl rfl hc i [] s5 _ H5 (fun _ _ => False) I5 (stat I5 n5) st5 stop
      refine thnF td fun r s6 ⟨hr, I6⟩ => ?_
      subst hr
      have back : Inv X pins σ H5 s6 := I3.call' (ch := fp) I6.os I6.base I6.hok I6.bare fun b hb => ⟨(f3 b hb).1.2.2.2.1, (f3 b hb).1.2.1, (f3 b hb).1.2.2.2.2.1, (f3 b hb).1.2.2.2.2.2⟩
      have nC : H5 s3.heap.objs.size = none := cL ▸ (show H5 ce.locals = none from I6.free)
      obtain ⟨m, hn, _⟩ := I6.loc
      have hn : s6.heap.Ns s3.heap.objs.size m := cL ▸ (show s6.heap.Ns ce.locals m from hn)
      exact hfin dd s3.heap.objs.size s6 m H5 back qq hn (I3.fpOk (Nat.le_refl _) nC)
    · have ti := T.item XB rfl rfl rfl hc i [] s5 _ H5 (fun _ _ => False) I5 (stat I5 n5) st5 go
      refine thnF ti fun r s6 ⟨u, hr, h6⟩ => ?_
      subst hr
      refine thnF h6 fun _ s7 ⟨x, H7, I7, r7, y7, st7, n7⟩ => ?_
      refine thnF (pg.run _ s7 _ H7 x u _ (I7.pinned (stat I7 n7) (T.obj _ _ st7)) r7 (step x H7 y7)) fun _ s8 ⟨σ8, H8, I8, hw8, q8⟩ => ?_
      refine thnF (pt.run _ s8 σ8 H8 _ I8 q8) fun b s9 ⟨H9, I9, q9⟩ => ?_
      have fin : ∀ {s' : Shared} {H' : Hp}, Inv XB ([] ++ pinsAt fp s7.heap) σ8 H' s' → Nx H' → ∃ m, m < n ∧ ∃ i H', Inv XB [] (wipe σ (own.map (·.2))) H' s' ∧ tn i s'.heap ∧ (∀ b ∈ fp, H' b = none) ∧ W i m H' := fun {s' H'} I' nx => by
        obtain ⟨m', hm, w'⟩ := hNx H' nx
        have pin' : ∀ b ∈ fp, ∀ o, s7.heap.get? b = some o → s'.heap.get? b = some o ∧ H' b = none := fun b hb o e =>
          let z := I'.pin (b, o) (List.mem_append_right _ (List.mem_append_right _ (mem_pinsAt hb e)))
          ⟨z.1, z.2.1⟩
        have hl : (wipe σ (own.map (·.2))).length = σ8.length := by rw [← hw8, wipe_length]
        refine ⟨m', hm, i + 1, H', (I'.unpinned (pins := [])).weak hl (fun j v e => (wipe_some (hw8 ▸ e)).1), T.keep _ _ _ st7 fun b hb o e => (pin' b hb o e).1, fun b hb => ?_, w'⟩
        obtain ⟨o, eo, _⟩ := T.obj _ _ st7 b hb
        exact (pin' b hb o eo).2
      cases b with
      | false => exact fin I9 (by simpa using q9)
      | true =>
        simp only [if_true] at q9 ⊢
        refine thnF (pk.run _ s9 σ8 H9 _ I9 q9) fun z s10 ⟨yk, H10, I10, r10, q10⟩ => ?_
        refine thnF (pe.run _ s10 σ8 H10 _ I10 q10) fun z2 s11 ⟨yv, H11, I11, r11, kvs, k, c, ek, hk11, hD11, hz11, nx⟩ => ?_
        subst ek
        obtain rfl : z = Value.ref c := r10
        exact dtSet (X := XB) hu I11 hD11 hz11 hk11 r11 fun s12 I12 => fin I12 nx
  exact codeAny_compStart_dict loop (T.self X.A 0 _ _ _ st4 loop)
theorem pe_dcT {kx vx tg iter : Expr} {ifs : List Expr} {scope : Scope} {own : List (Str × Nat)} {pos : Pos} {wi : TI} {g : TG} {tt : TT} {tk tv : TE} (hc : X.calm = true) (hu : X.A.units < cLine) (hN : X.N.Nodup) (hi : PI X tg iter wi) (ok : BlkOk X.N X.env.scope scope own)
    (hg : ∀ s H C cl fp, PG (BX X scope s H C cl fp) tg g) (ht : ∀ s H C cl fp, PTs (BX X scope s H C cl fp) ifs tt) (hk : ∀ s H C cl fp, PE (BX X scope s H C cl fp) kx tk) (he : ∀ s H C cl fp, PE (BX X scope s H C cl fp) vx tv) (hs : ∀ x, foldedSetIterable iter X.env x = pure x) :
    PE X (.DictComp kx vx [⟨tg, iter, ifs, 0⟩] scope pos) (tDcT wi g tt tk tv (own.map (·.2))) := by
  refine ⟨fun pins s σ H Q I h => ?_⟩
  rw [arm_eval_DictComp]
  refine dcT_core hc hu hN I hi ok hg ht hk he hs h fun dd C s' m H' I' q hn f => ⟨m, hn, fun h'' sb => ?_⟩
  obtain ⟨f0, f1, f2, f3, f4, f5⟩ := f
  exact ⟨.ref dd, H', I'.turned (t' := s'.toks) (fun b o hb e => (sb.2 b hb).trans e) f0 f1 f3 f4 f5, rfl, q⟩
end
end DL
namespace DL
open PySem PySem.Spec PyProof.Rows L2
theorem u100 {k : Nat} {A : Around} (r : Room k A) : A.units + 100 < cLine := by have := r.un; omega
theorem u64 {k : Nat} {A : Around} (r : Room k A) : A.units + 64 < cLine := by have := r.un; omega
theorem u1 {k : Nat} {A : Around} (r : Room k A) : A.units + 1 < cLine := by have := r.un; omega
theorem KDs.fst {K : PySem.W.Frag} {F : Fz} {H : Hp} : ∀ {kvs : List (List Key × V)} {kds : List (List Key × D)}, KDs K F H kvs kds → kvs.map (·.1) = kds.map (·.1)
  | _, _, .nil => rfl
  | _, _, .cons h t => by rw [List.map_cons, List.map_cons, KDs.fst t, h.1]
theorem kD_ok {K : PySem.W.Frag} {F : Fz} {H : Hp} {v : V} {k : List Key} (r : Rep K F H v (kD k)) : KOk k := by
  refine ⟨?_, fun x hx => ?_⟩
  · have := r.bnd
    have e : (k.map keyD).length ≤ sizeLine := this
    rwa [List.length_map] at e
  · obtain ⟨b, vs, rfl, hb, ra⟩ := Rep.tupE (show Rep K F H v (.tup (k.map keyD)) from r)
    obtain ⟨i, hi⟩ := List.getElem?_of_mem hx
    obtain ⟨v, _, rv⟩ := ra.get (show (k.map keyD)[i]? = some (.str x) by rw [List.getElem?_map, hi]; rfl)
    exact rv.bnd
theorem putD_mem {kds : List (List Key × D)} {k : List Key} {d : D} {q : List Key × D} (h : q ∈ putD kds k d) : q.1 = k ∨ ∃ p ∈ kds, p.1 = q.1 := by
  unfold putD at h
  split at h
  · obtain ⟨p, hp, e⟩ := List.mem_map.mp h
    split at e
    · rename_i e2
      exact .inl (by rw [← e]; exact e2)
    · exact .inr ⟨p, hp, by rw [e]⟩
  · rcases List.mem_append.mp h with h | h
    · exact .inr ⟨q, h, rfl⟩
    · rw [List.mem_singleton] at h
      exact .inl (by rw [h])
theorem putD_ok {kds : List (List Key × D)} {k : List Key} {d : D} (h : ∀ q ∈ kds, KOk q.1) (hk : KOk k) : ∀ q ∈ putD kds k d, KOk q.1 := fun q hq => by
  rcases putD_mem hq with e | ⟨p, hp, e⟩
  · rw [e]; exact hk
  · rw [← e]; exact h p hp
theorem mergeD_ok : ∀ (more kds : List (List Key × D)), (∀ q ∈ kds, KOk q.1) → (∀ q ∈ more, KOk q.1) → ∀ q ∈ mergeD kds more, KOk q.1
  | [], kds, h, _ => h
  | p :: more, kds, h, hm => mergeD_ok more (putD kds p.1 p.2) (putD_ok h (hm p List.mem_cons_self)) fun q hq => hm q (List.mem_cons_of_mem _ hq)
section
variable {C : Ctx} {Γ : Gm} {L : Lp} {e a b c o tg : Expr} {es ts : List Expr} {pos p1 p2 : Pos} {Q : D → Lp → Prop} {E : AEnds}
theorem r_inDT {p : Addr} {kds : List (List Key × D)} {k : List Key} (hp : L p = some (.dct kds)) (q : Q (.bl (valD kds k).isSome) L) : L2R C rInDT (kD k) (.ptr p) L Q := fun F vx vy H c rx ry QV go => by
  obtain ⟨kvs, ha, ra, _⟩ := c.at_ p _ hp
  obtain ⟨t, rfl, ht⟩ := kD_at rx
  refine ⟨p, valV kvs k, ry.ptrE, DGet.t ha ht, ?_⟩
  have e : (valV kvs k).isSome = (valD kds k).isSome := by
    rcases KDs.val ra k with ⟨e1, e2⟩ | ⟨v, d, e1, e2, _⟩ <;> rw [e1, e2] <;> rfl
  rw [e]
  exact go _ _ H L (.bl _) c (.refl L H) q
theorem r_notInDT {p : Addr} {kds : List (List Key × D)} {k : List Key} (hp : L p = some (.dct kds)) (q : Q (.bl (!(valD kds k).isSome)) L) : L2R C rNotInDT (kD k) (.ptr p) L Q := fun F vx vy H c rx ry QV go => by
  obtain ⟨kvs, ha, ra, _⟩ := c.at_ p _ hp
  obtain ⟨t, rfl, ht⟩ := kD_at rx
  refine ⟨p, valV kvs k, ry.ptrE, DGet.t ha ht, ?_⟩
  have e : (valV kvs k).isSome = (valD kds k).isSome := by
    rcases KDs.val ra k with ⟨e1, e2⟩ | ⟨v, d, e1, e2, _⟩ <;> rw [e1, e2] <;> rfl
  rw [e]
  exact go _ _ H L (.bl _) c (.refl L H) q
/-- d[k], there -/
theorem ae_getDT (hu : C.X.A.units + 1 < cLine) (h : AE C o Γ L fun x L1 => AE C b Γ L1 fun y L2 => ∃ p kds k d, x = .ptr p ∧ y = kD k ∧ L2 p = some (.dct kds) ∧ valD kds k = some d ∧ Q d L2) (hs : NoSl b := by exact fun _ _ => rfl) : AE C (.Subscript o b pos) Γ L Q :=
  ae_two (r := rGetDT) (pe_dget hu pe_we pe_we hs) (h.mono fun x L1 h1 => h1.mono fun y L2 ⟨p, kds, k, d, ex, ey, hp, hv, q⟩ => by
    subst ex ey
    intro F vx vy H c rx ry QV go
    obtain ⟨kvs, ha, ra, _⟩ := c.at_ p _ hp
    obtain ⟨t, rfl, ht⟩ := kD_at ry
    rcases KDs.val ra k with ⟨_, e2⟩ | ⟨v, d', e1, e2, rv⟩
    · rw [hv] at e2
      cases e2
    · rw [hv] at e2
      cases e2
      exact ⟨p, v, rx.ptrE, e1 ▸ DGet.t ha ht, go _ _ H L2 rv c (.refl L2 H) q⟩)
theorem ae_dict0 (q : ∀ p, L p = none → Q (.ptr p) (put L p (.dct []))) : AE C (.Dict [] [] pos) Γ L Q := fun F σ H ok QV go =>
  we_of pe_dnewT fun p hp => go _ _ _ (put L p (.dct [])) (.ptr p) (ok.con.newL hp ⟨[], upd_same, .nil, fun q hq => nomatch hq⟩) (.newL hp) (q p (ok.con.free hp))
theorem w_DT {p : Addr} {kds : List (List Key × D)} {k : List Key} {v : D} {Q : Lp → Prop} (hp : L p = some (.dct kds)) (hz : kds.length < sizeLine) (q : Q (put L p (.dct (putD kds k v)))) : L3R C rPutDT (.ptr p) (kD k) v L Q := fun F vo vi vv H c ro ri rv QV go => by
  obtain ⟨kvs, ha, ra, hk⟩ := c.at_ p _ hp
  obtain ⟨t, rfl, ht⟩ := kD_at ri
  have s := Mv.write (o := .dT (putK kvs k vv)) c hp
  refine ⟨p, upd H p (.dT (putK kvs k vv)), ro.ptrE, DPut.t ha ht (by rw [Paired.length ra]; exact hz), go _ (put L p (.dct (putD kds k v))) (c.write hp ⟨_, upd_same, KDs.mono s (KDs.put ra k rv), putD_ok hk (kD_ok ri)⟩) (.write c hp) q⟩
theorem c_listDT {p : Addr} {kds : List (List Key × D)} (hp : L p = some (.dct kds)) (hz : kds.length ≤ sizeLine) (q : ∀ l, L l = none → Q (.ptr l) (put L l (.lst (kds.map fun x => kD x.1)))) : LcR C rLstDT [.ptr p] L Q := fun F vs H c r0 QV go => by
  obtain ⟨v, rfl, r⟩ := r0.oneE
  obtain ⟨kvs, ha, ra, hk⟩ := c.at_ p _ hp
  refine ⟨p, kvs, by rw [r.ptrE], .inl ha, fun bs kr l hl => ?_⟩
  have e : kvs.map (·.1) = kds.map (·.1) := by
    exact KDs.fst ra
  have hks : ∀ k ∈ kvs.map (·.1), KOk k := fun k hkk => by
    rw [e] at hkk
    obtain ⟨x, hx, rfl⟩ := List.mem_map.mp hkk
    exact hk x hx
  have rr : Reps C.X.K F H (bs.map V.ref) (kds.map fun x => kD x.1) := by
    have := reps_keys (K := C.X.K) (F := F) kr hks
    rw [e, List.map_map] at this
    exact this
  exact go _ _ _ (put L l (.lst (kds.map fun x => kD x.1))) (.ptr l) (c.newL hl ⟨_, upd_same, rr.mono (.new hl), by rw [List.length_map]; exact hz⟩) (.newL hl) (q l (c.free hl))
/-- pairs (key, value) -/
def pD (x : List Key × D) : D := .tup [kD x.1, x.2]
theorem pairs_of {K : PySem.W.Frag} {F : Fz} {H : Hp} : ∀ {vs : List V} {kds : List (List Key × D)}, Reps K F H vs (kds.map pD) → ∃ (ts : List Addr) (q : List (List Key × Addr × V)), vs = ts.map V.ref ∧ PairsAtT H ts q ∧ KDs K F H (q.map fun x => (x.1, x.2.2)) kds ∧ ∀ y ∈ kds, KOk y.1
  | _, [], .nil => ⟨[], [], rfl, .nil, .nil, fun y hy => nomatch hy⟩
  | _, x :: kds, .cons r t => by
    obtain ⟨ts, q, rfl, h1, h2, h3⟩ := pairs_of t
    obtain ⟨a, ws, rfl, ha, ra⟩ := Rep.tupE (show Rep K F H _ (.tup [kD x.1, x.2]) from r)
    obtain ⟨v1, v2, rfl, r1, r2⟩ := Reps.twoE ra
    obtain ⟨b, rfl, hb⟩ := kD_at r1
    refine ⟨a :: ts, (x.1, b, v2) :: q, rfl, .cons ⟨ha, hb⟩ h1, .cons ⟨rfl, r2⟩ h2, fun y hy => ?_⟩
    rcases List.mem_cons.mp hy with e | hy
    · rw [e]; exact kD_ok r1
    · exact h3 y hy
theorem c_dictPT {p : Addr} {kds : List (List Key × D)} (hp : L p = some (.lst (kds.map pD))) (q : ∀ l, L l = none → Q (.ptr l) (put L l (.dct (mergeD [] kds)))) : LcR C (rDictPT C.X.K) [.ptr p] L Q := fun F vs H c r0 QV go => by
  obtain ⟨v, rfl, r⟩ := r0.oneE
  obtain ⟨ws, ha, ra, hz⟩ := c.at_ p _ hp
  obtain ⟨ts, qq, e, h1, h2, h3⟩ := pairs_of ra
  subst e
  refine ⟨p, ts, qq, by rw [r.ptrE], SqL.of ha, h1, fun l hl => go _ _ _ (put L l (.dct (mergeD [] kds))) (.ptr l) (c.newL hl ⟨_, upd_same, KDs.mono (.new hl) (KDs.merge h2 .nil), mergeD_ok kds [] (fun q hq => nomatch hq) h3⟩) (.newL hl) (q l (c.free hl))⟩
theorem c_lenDT {p : Addr} {kds : List (List Key × D)} (hp : L p = some (.dct kds)) (q : Q (.int kds.length) L) : LcR C rLenT [.ptr p] L Q := fun F vs H c r0 QV go => by
  obtain ⟨v, rfl, r⟩ := r0.oneE
  obtain ⟨kvs, ha, ra, hk⟩ := c.at_ p _ hp
  refine ⟨p, kvs, by rw [r.ptrE], ha, ?_⟩
  rw [Paired.length ra]
  exact go _ _ H L (.int _) c (.refl L H) q

/-! ### the comprehension -/
theorem Stay.dct {H : Hp} {p : Addr} {xs : List (List Key × V)} {o : HO} (h : H p = some (.dT xs)) : Stay H (upd H p o) :=
  ⟨fun a vs e => by rw [upd_ne (fun q => by rw [q, h] at e; cases e)]; exact e, fun a ob u e => by rw [upd_ne (fun q => by rw [q, h] at e; cases e)]; exact e, fun a e => by rw [upd_ne (fun q => by rw [q, h] at e; cases e)]; exact e⟩
theorem Fr.noneAt {L L' : Lp} {F F' : Fz} {H H' : Hp} (f : Fr L F H L' F' H') {a : Addr} {o : HO} (h : H a = some o) (n : L a = none) : L' a = none := by
  cases e : L' a with
  | none => rfl
  | some u =>
    rcases f.dom a (by rw [e]; simp) with z | z
    · exact absurd n z
    · rw [h] at z
      cases z
theorem ae_dcT (own : List (Str × Nat)) {scope : Scope} {kx vx iter : Expr} (hu : C.X.A.units < cLine)
    (h : AI C tg iter Γ L fun ds G L1 => ∃ I : Nat → List (List Key × D) → Lp → Prop, I 0 [] L1 ∧ (∀ i acc L2, I i acc L2 → G L2) ∧
      (∀ i d acc L2, ds[i]? = some d → I i acc L2 → ∃ Γ3 ws, (∀ j ∈ ws, j ∈ own.map (·.2)) ∧ ∀ s H Cc cl fp, AG (bctx C scope s H Cc cl fp) tg d (wipeG Γ (own.map (·.2))) Γ3 ws ∧
        AE (bctx C scope s H Cc cl fp) kx Γ3 L2 fun y L3 => ∃ k, y = kD k ∧ ∀ s H Cc cl fp, AE (bctx C scope s H Cc cl fp) vx Γ3 L3 fun z L4 => acc.length < sizeLine ∧ I (i + 1) (putD acc k z) L4) ∧
      ∀ acc L2, I ds.length acc L2 → ∀ p, L2 p = none → Q (.ptr p) (put L2 p (.dct acc)))
    (ok : BlkOk C.X.N C.X.env.scope scope own := by (dsimp only [fctx, bctx, cxOf, envOfC, compEnvC, Cx.blk]; exact blkOk_by (by decide +kernel))) (hs : ∀ x, foldedSetIterable iter C.X.env x = pure x := by intro _; rfl) : AE C (.DictComp kx vx [⟨tg, iter, [], 0⟩] scope pos) Γ L Q := fun F σ H okk QV go => by
  refine we_of (pe_dcT (wi := WI C.X tg iter) (g := gB C scope tg) (tt := ttB C scope []) (tk := teB C scope kx) (tv := teB C scope vx) C.calm hu C.nd pi_wi ok (fun s H0 Cc cl fp => ⟨fun pins s1 σ1 H1 v u Q1 I r q => (q s H0 Cc cl fp).run pins s1 u I r⟩) (fun s H0 Cc cl fp => ⟨fun pins s1 σ1 H1 Q1 I q => (q s H0 Cc cl fp).run pins s1 I⟩) (fun s H0 Cc cl fp => ⟨fun pins s1 σ1 H1 Q1 I q => (q s H0 Cc cl fp).run pins s1 I⟩) (fun s H0 Cc cl fp => ⟨fun pins s1 σ1 H1 Q1 I q => (q s H0 Cc cl fp).run pins s1 I⟩) hs) ?_
  refine h _ σ H okk _ fun {F1} J H1 L1 ds G c1 f1 it ⟨I, i0, hG, hb, hd⟩ => ?_
  intro dd hD
  have f1D := c1.nf hD
  refine ⟨fun i m H2 => m = ds.length - i ∧ i ≤ ds.length ∧ ∃ L2 F2 acc vacc, C.Con L2 F2 H2 ∧ Fr L1 F1 H1 L2 F2 H2 ∧ L2 dd = none ∧ ¬ F2 dd ∧ H2 dd = some (.dT vacc) ∧ KDs C.X.K F2 H2 vacc acc ∧ (∀ q ∈ acc, KOk q.1) ∧ I i acc L2, ⟨ds.length, by simp, Nat.zero_le _, L1, F1, [], [], c1.new hD, .new hD, c1.free hD, f1D, upd_same, .nil, (fun q hq => nomatch hq), i0⟩, ?_⟩
  rintro i m H2 ⟨rfl, hi, L2, F2, acc, vacc, c2, f2, lD, fD, hD2, ra, hks, i2⟩
  obtain ⟨k1, k2, k3⟩ := it i H2 L2 f2 c2 (hG i acc L2 i2)
  by_cases hlt : i < ds.length
  · refine .inr ⟨k1 hlt, fun H3 => ∃ L2 F2 acc vacc, C.Con L2 F2 H3 ∧ Fr L1 F1 H1 L2 F2 H3 ∧ L2 dd = none ∧ ¬ F2 dd ∧ H3 dd = some (.dT vacc) ∧ KDs C.X.K F2 H3 vacc acc ∧ (∀ q ∈ acc, KOk q.1) ∧ I (i + 1) acc L2, fun H3 hN => ⟨ds.length - (i + 1), by omega, rfl, hlt, hN⟩, fun x H' y => ?_⟩
    obtain ⟨d, hd2, rd, hH⟩ := k3 x H' y hlt
    have fH : Fr L2 F2 H2 L2 F2 H' := by
      rcases hH with e | ⟨T, vs, nT, e⟩
      · rw [e]; exact .refl L2 H2
      · rw [e]; exact .new nT
    have cH : C.Con L2 F2 H' := by
      rcases hH with e | ⟨T, vs, nT, e⟩
      · rw [e]; exact c2
      · rw [e]; exact c2.new nT
    obtain ⟨_, _, hD3⟩ := fH.hid hD2 (fun _ z => nomatch z) lD fD
    have slw : Sl C.X.K F2 H' (wipe σ (own.map (·.2))) (wipeG Γ (own.map (·.2))) := (okk.sl.mono ((f1.trans f2).trans fH).mv).wipe _
    obtain ⟨Γ3, ws, hws, hbody⟩ := hb i d acc L2 hd2 i2
    intro s0 H0 Cc cl fp
    refine (hbody s0 H0 Cc cl fp).1 _ _ H' x slw rd _ fun σ3 sl3 but => ⟨But.wiped but hws, ?_⟩
    intro s1 H01 Cc1 cl1 fp1
    refine ats_nil (C := bctx C scope s1 H01 Cc1 cl1 fp1) (Γ := Γ3) (L := L2) (Q := fun b L3 => b = true ∧ L3 = L2) ⟨rfl, rfl⟩ _ σ3 H' ⟨sl3, cH, ⟨fun _ _ _ _ _ _ _ _ _ _ _ z => z.elim⟩⟩ _ fun b H3 L3 c3 f3 ⟨eb, el⟩ => ?_
    subst eb el
    rw [if_pos rfl]
    obtain ⟨_, fD3, hD4⟩ := f3.hid hD3 (fun _ z => nomatch z) lD fD
    intro s2 H02 Cc2 cl2 fp2
    refine (hbody s2 H02 Cc2 cl2 fp2).2 _ σ3 H3 ⟨sl3.mono f3.mv, c3, ⟨fun _ _ _ _ _ _ _ _ _ _ _ z => z.elim⟩⟩ _ fun yv y H4 L4 r4 c4 f4 ⟨k, ek, q4⟩ => ?_
    subst ek
    obtain ⟨lD4, fD4, hD5⟩ := f4.hid hD4 (fun _ z => nomatch z) lD fD3
    intro s3 H03 Cc3 cl3 fp3
    refine q4 s3 H03 Cc3 cl3 fp3 _ σ3 H4 ⟨(sl3.mono f3.mv).mono f4.mv, c4, ⟨fun _ _ _ _ _ _ _ _ _ _ _ z => z.elim⟩⟩ _ fun zv z H5 L5 r5 c5 f5 ⟨hz, q5⟩ => ?_
    obtain ⟨lD5, fD5, hD6⟩ := f5.hid hD5 (fun _ z => nomatch z) lD4 fD4
    obtain ⟨b, rfl, hb4⟩ := kD_at r4
    have ra5 := KDs.mono f5.mv (KDs.mono f4.mv (KDs.mono f3.mv (KDs.mono fH.mv ra)))
    have st : Stay H5 (upd H5 dd (.dT (putK vacc k zv))) := .dct hD6
    have f6 := ((((f2.trans fH).trans f3).trans f4).trans f5)
    exact ⟨vacc, k, b, rfl, f5.stay.tup _ _ hb4, hD6, by rw [Paired.length ra5]; exact hz, L5, _, putD acc k z, putK vacc k zv, c5.hid st lD5 fD5, f6.hidw hD f1D st, lD5, fD5, upd_same, KDs.mono (.hid st fD5) (KDs.put ra5 k r5), putD_ok hks (kD_ok r4), q5⟩
  · have e : i = ds.length := by omega
    exact .inl ⟨k2 e, go _ _ H2 (put L2 dd (.dct acc)) (.ptr dd) (c2.shw fD ⟨vacc, hD2, ra, hks⟩) ((f1.trans f2).shw (f1.nul hD)) (hd acc L2 (by rw [← e]; exact i2) dd lD)⟩
end
end DL
namespace DL
open PySem PySem.Spec PyProof.Rows L2
section
variable {X : Cx}
def CPowX (i j : Int) : Prop := 0 ≤ j ∧ (Builtin.Int.intBits i : Int) * j ≤ 2 ^ 27
theorem op_powX : OpR X (binaryOp .Pow) (rI CPowX fun i j => .int (i ^ j.toNat)) := opI fun _ _ _ _ _ _ _ hc q => pow_int hc.1 hc.2 q
end
section
variable {C : Ctx} {Γ : Gm} {L : Lp} {Q : D → Lp → Prop}
theorem r_powX {i j : Int} (h : CPowX i j) (q : Q (.int (i ^ j.toNat)) L) : L2R C (rI CPowX fun i j => .int (i ^ j.toNat)) (.int i) (.int j) L Q := r_I (g' := fun i j => .int (i ^ j.toNat)) h (fun _ => .int _) q
end
theorem big_ok : CPowX ((10 : Int) ^ (60 : Int).toNat) 5 := by
  refine ⟨by decide, ?_⟩
  decide +kernel
end DL
namespace DL
open PySem PySem.Spec PyProof.Rows L2

/-! ### classes with slots -/
def putF (i : Nat) (d : D) (fs : List (Option D)) : List (Option D) := (fs ++ List.replicate (i + 1 - fs.length) none).set i (some d)
theorem putF_get (i : Nat) (d : D) (fs : List (Option D)) : (putF i d fs)[i]? = some (some d) := by
  unfold putF
  exact List.getElem?_set_self (by simp only [List.length_append, List.length_replicate]; omega)
theorem putF_ne {i j : Nat} {d x : D} {fs : List (Option D)} (h : j ≠ i) : (putF i d fs)[j]? = some (some x) ↔ fs[j]? = some (some x) := by
  unfold putF
  rw [List.getElem?_set_ne (Ne.symm h)]
  by_cases hj : j < fs.length
  · rw [List.getElem?_append_left hj]
  · rw [List.getElem?_eq_none_iff.mpr (by omega : fs.length ≤ j), List.getElem?_append_right (by omega), List.getElem?_replicate]
    constructor
    · intro q
      split at q <;> cases q
    · intro q
      cases q
theorem SlotR.put {K : PySem.W.Frag} {F : Fz} {H : Hp} {vs : List (Option V)} {fs : List (Option D)} (r : SlotR K F H vs fs) (i : Nat) {v : V} {d : D} (rv : Rep K F H v d) : SlotR K F H (SlX.putS i v vs) (putF i d fs) := by
  intro j x hx
  by_cases hj : j = i
  · subst hj
    rw [putF_get] at hx
    cases hx
    exact ⟨v, SlX.putS_get j v vs, rv⟩
  · obtain ⟨u, e, r'⟩ := r j x ((putF_ne hj).mp hx)
    exact ⟨u, (SlX.putS_ne hj).mpr e, r'⟩
section
variable {X : Cx} {o value : Expr} {f : Str} {pos pos' : Pos} {ta tv : TE}
/-- a store, and what is known of the instance's own dict -/
def sSl2 (K : PySem.W.Frag) (ta tv : TE) (f : Str) : TS := fun D σ H => tv σ H fun y H1 => ta σ H1 fun x H2 => ∃ a C dx p vs i, x = .ref a ∧ SlX.Slt H2 a C dx vs ∧ SlX.SCls K C ∧ SlX.Slot1 K C f p i ∧ (dx ≠ a → (H2 dx = some (.own a) ∨ H2 dx = some (.xd [])) → D.nx σ (SlX.slH H2 a C dx (SlX.putS i y vs)))
theorem ps_sl2 (ha : PE X o ta) (hv : PE X value tv) (hs : swapsWith value (some (.Attribute o f pos')) pos.line X.env = pure false := by rfl) : PS X (.Assign [.Attribute o f pos'] value pos) (sSl2 X.K ta tv f) := by
  refine ⟨fun pins s σ H D I h => ?_⟩
  refine plainObj_wpAny_Assign_Attribute (thn (hv.run pins s σ H _ I h) fun u s1 ⟨y, H1, I1, ry, q⟩ => thn (ha.run pins s1 σ H1 _ I1 q) fun ov s2 ⟨x, H2, I2, rx, a, C, dx, p, vs, i, ex, sl, c, t, q2⟩ => ?_) hs
  subst ex
  obtain rfl : ov = Value.ref a := rx
  have kn : H2 dx = some (.own a) ∨ H2 dx = some (.xd []) := by
    rcases sl with ⟨h1, _⟩ | ⟨_, h2⟩
    · obtain ⟨_, _, _, _, _, ho⟩ := ins_get I2.hok h1
      exact .inl ho
    · exact .inr h2
  exact SlX.setslot_ok I2 sl c t ry fun s3 I3 => ⟨σ, _, I3, q2 (SlX.slt_at I2 sl).1 kn⟩
end
section
variable {C : Ctx} {Γ : Gm} {L : Lp} {e o fe value : Expr} {es : List Expr} {pos p pos' apos np : Pos} {Q : D → Lp → Prop} {E : AEnds} {x f m : Str} {k : Nat} {sp : SpA} {Cl g : Addr}
/-- x is an instance of Cl: one of the store, or a frozen one -/
def IsIns (L : Lp) (x : D) (Cl : Addr) : Prop := (∃ a fs, x = .ptr a ∧ L a = some (.ins Cl fs)) ∨ ∃ fs, x = .obj Cl fs
/-- .. and its slot i holds d -/
def HasF (L : Lp) (x : D) (Cl : Addr) (i : Nat) (d : D) : Prop := (∃ a fs, x = .ptr a ∧ L a = some (.ins Cl fs) ∧ fs[i]? = some (some d)) ∨ ∃ fs, x = .obj Cl fs ∧ fs[i]? = some d
theorem HasF.st {a : Addr} {fs : List (Option D)} {i : Nat} {d : D} (h : L a = some (.ins Cl fs)) (e : fs[i]? = some (some d)) : HasF L (.ptr a) Cl i d := .inl ⟨a, fs, rfl, h, e⟩
theorem HasF.fz {fs : List D} {i : Nat} {d : D} (e : fs[i]? = some d) : HasF L (.obj Cl fs) Cl i d := .inr ⟨fs, rfl, e⟩
theorem IsIns.st {a : Addr} {fs : List (Option D)} (h : L a = some (.ins Cl fs)) : IsIns L (.ptr a) Cl := .inl ⟨a, fs, rfl, h⟩
theorem IsIns.fz {fs : List D} : IsIns L (.obj Cl fs) Cl := .inr ⟨fs, rfl⟩
theorem HasF.ins {x d : D} {i : Nat} (h : HasF L x Cl i d) : IsIns L x Cl := by
  rcases h with ⟨a, fs, e, h, _⟩ | ⟨fs, e, _⟩
  · exact .inl ⟨a, fs, e, h⟩
  · exact .inr ⟨fs, e⟩
theorem IsIns.slt {F : Fz} {H : Hp} {v : V} {x : D} (h : IsIns L x Cl) (c : C.Con L F H) (r : Rep C.X.K F H v x) : ∃ a dx vs, v = .ref a ∧ SlX.Slt H a Cl dx vs := by
  rcases h with ⟨a, fs, rfl, ha⟩ | ⟨fs, rfl⟩
  · obtain ⟨dx, vs, st, _⟩ := c.at_ a _ ha
    exact ⟨a, dx, vs, r.ptrE, st⟩
  · cases r with
    | obj hl h hx hu hn hi => exact ⟨_, _, _, rfl, .inr ⟨h, hx⟩⟩
theorem HasF.slt {F : Fz} {H : Hp} {v : V} {x d : D} {i : Nat} (h : HasF L x Cl i d) (c : C.Con L F H) (r : Rep C.X.K F H v x) : ∃ a dx vs u, v = .ref a ∧ SlX.Slt H a Cl dx vs ∧ vs[i]? = some (some u) ∧ Rep C.X.K F H u d := by
  rcases h with ⟨a, fs, rfl, ha, hd⟩ | ⟨fs, rfl, hd⟩
  · obtain ⟨dx, vs, st, sr⟩ := c.at_ a _ ha
    obtain ⟨u, e1, e2⟩ := sr i d hd
    exact ⟨a, dx, vs, u, r.ptrE, st, e1, e2⟩
  · cases r with
    | @obj a _ dx us vs _ hl h hx hu hn hi =>
      have hlt : i < vs.length := by rw [hn]; exact (List.getElem?_eq_some_iff.mp hd).1
      exact ⟨_, _, _, vs[i], rfl, .inr ⟨h, hx⟩, hu i _ (List.getElem?_eq_getElem hlt), hi i _ d (List.getElem?_eq_getElem hlt) hd⟩
theorem ae_sl (h : AE C e Γ L fun x L1 => ∃ Cl p i d, HasF L1 x Cl i d ∧ SlX.SCls C.X.K Cl ∧ SlX.Slot1 C.X.K Cl f p i ∧ Q d L1) (hb : attributeBase e f C.X.env (eval e C.X.env) = eval e C.X.env := by rfl) : AE C (.Attribute e f pos) Γ L Q := fun F σ H ok QV go =>
  we_of (SlX.pe_sl pe_we hb) (h _ σ H ok _ fun v x H1 L1 r c fr ⟨Cl, p, i, d, hf, sc, sl, q⟩ => by
    obtain ⟨a, dx, vs, u, e, st, e1, e2⟩ := hf.slt c r
    exact ⟨a, Cl, dx, p, vs, i, u, e, st, sc, sl, e1, go u d H1 L1 e2 c fr q⟩)
theorem Stay.slH {H : Hp} {a Cl dx : Addr} {vs : List (Option V)} {fs : List (Option V)} (st : SlX.Slt H a Cl dx fs) (kn : H dx = some (.own a) ∨ H dx = some (.xd [])) : Stay H (SlX.slH H a Cl dx vs) := by
  have key : ∀ b u, H b = some u → (∀ xs, u ≠ .ins Cl dx xs) → (∀ ws, u ≠ SlX.SlO a Cl dx ws) → b ≠ a := fun b u e n1 n2 z => by
    rw [z] at e
    rcases st with ⟨h1, _⟩ | ⟨h1, _⟩ <;> rw [h1] at e
    · exact n1 _ (Option.some.inj e).symm
    · exact n2 _ (Option.some.inj e).symm
  refine ⟨fun b ws e => ?_, fun b ob u e => ?_, fun b e => ?_⟩
  · have h1 := key b _ e (fun _ z => nomatch z) (fun _ z => by unfold SlX.SlO at z; cases z)
    have h2 : b ≠ dx := fun z => by rw [z] at e; rcases kn with q | q <;> rw [q] at e <;> cases e
    rw [SlX.slH_ne h1 h2]; exact e
  · have h1 := key b _ e (fun _ z => nomatch z) (fun _ z => by unfold SlX.SlO at z; cases z)
    have h2 : b ≠ dx := fun z => by rw [z] at e; rcases kn with q | q <;> rw [q] at e <;> cases e
    rw [SlX.slH_ne h1 h2]; exact e
  · have h1 := key b _ e (fun _ z => nomatch z) (fun _ z => by unfold SlX.SlO at z; cases z)
    by_cases h2 : b = dx
    · unfold SlX.slH
      rw [upd_ne h1, h2, upd_same]
    · rw [SlX.slH_ne h1 h2]; exact e
theorem as_sl (h : AE C value Γ L fun y L1 => AE C o Γ L1 fun x L2 => ∃ a Cl fs p i, x = .ptr a ∧ L2 a = some (.ins Cl fs) ∧ SlX.SCls C.X.K Cl ∧ SlX.Slot1 C.X.K Cl f p i ∧ E.nx Γ (put L2 a (.ins Cl (putF i y fs)))) (hs : swapsWith value (some (.Attribute o f pos')) pos.line C.X.env = pure false := by rfl) : AS C (.Assign [.Attribute o f pos'] value pos) Γ L E := fun F σ H ok DD go =>
  ws_of (ps_sl2 pe_we pe_we hs) (h _ σ H ok _ fun vy y H1 L1 ry c1 f1 q1 => q1 _ σ H1 (ok.step c1 f1) _ fun {F2} vx x H2 L2 rx c2 f2 ⟨a, Cl, fs, p, i, ex, ha, sc, sl, q⟩ => by
    subst ex
    obtain ⟨dx, vs, st, sr⟩ := c2.at_ a _ ha
    refine ⟨a, Cl, dx, p, vs, i, rx.ptrE, st, sc, sl, fun ne kn => ?_⟩
    have stay : Stay H2 (SlX.slH H2 a Cl dx (SlX.putS i vy vs)) := Stay.slH st kn
    have dxL : ∀ b mo, L2 b = some mo → b ≠ dx := fun b mo hb z => by
      have hcc := c2.at_ b mo hb
      subst z
      cases mo with
      | lst ds => obtain ⟨ws, h1, _⟩ := hcc; rcases kn with q | q <;> rw [q] at h1 <;> cases h1
      | dct ds => obtain ⟨ws, h1, _⟩ := hcc; rcases kn with q | q <;> rw [q] at h1 <;> cases h1
      | ins C' fs' =>
        obtain ⟨dx', vs', h1, _⟩ := hcc
        rcases h1 with ⟨h1, _⟩ | ⟨h1, _⟩ <;> rcases kn with q | q <;> rw [q] at h1 <;> first | cases h1 | (unfold SlX.SlO at h1; cases h1)
      | set S n => rcases kn with q | q <;> rw [show H2 b = _ from hcc] at q <;> cases q
      | txs S n => rcases kn with q | q <;> rw [hcc.1] at q <;> cases q
      | kd kds => obtain ⟨kvs, e, _⟩ := hcc; rcases kn with q | q <;> rw [e] at q <;> cases q
    have nfa := c2.nw ha
    have mv : Mv F2 H2 F2 (SlX.slH H2 a Cl dx (SlX.putS i vy vs)) := ⟨stay, fun _ z => z, fun b u z e => by
      have h1 : b ≠ a := fun q => nfa (q ▸ z)
      have h2 : b ≠ dx := fun q => by
        obtain ⟨_, o', e', n1, n2⟩ := c2.fz b z
        rw [q] at e'
        rcases kn with k | k
        · rw [k] at e'; exact n1 a (Option.some.inj e').symm
        · rw [k] at e'; exact n2 (Option.some.inj e').symm
      rw [SlX.slH_ne h1 h2]; exact e⟩
    have fr : Fr L2 F2 H2 (put L2 a (.ins Cl (putF i y fs))) F2 (SlX.slH H2 a Cl dx (SlX.putS i vy vs)) := by
      refine ⟨fun b u e no n => ?_, fun b e => upd_live (upd_live e), stay, fun b z => ?_, mv.fz, mv.fk, fun b z => .inl z⟩
      · have h1 : b ≠ a := fun z => by rw [z, ha] at n; cases n
        by_cases h2 : b = dx
        · subst h2
          rcases kn with q | q
          · rw [q] at e; exact absurd (Option.some.inj e).symm (no a)
          · rw [q] at e
            cases e
            exact stay.xd _ q
        · rw [SlX.slH_ne h1 h2]; exact e
      · by_cases e : b = a
        · exact .inl (by rw [e, ha]; simp)
        · rw [put_ne e] at z
          exact .inl z
    refine go.nx _ _ Γ (put L2 a (.ins Cl (putF i y fs))) (ok.step ⟨fun b mo hb => ?_, fun b z => ?_⟩ ((f1.trans f2).trans fr)) ((f1.trans f2).trans fr) q
    · by_cases e : b = a
      · subst e
        rw [put_same] at hb
        cases hb
        exact ⟨dx, SlX.putS i vy vs, SlX.slH_slt ne, (sr.put i (ry.mono f2.mv)).mono mv⟩
      · rw [put_ne e] at hb
        exact (c2.at_ b mo hb).mono mv (SlX.slH_ne e (dxL b mo hb))
    · obtain ⟨n, u, e, k1, k2⟩ := c2.fz b z
      have h1 : b ≠ a := fun q => nfa (q ▸ z)
      exact ⟨by rw [put_ne h1]; exact n, u, mv.fk b u z e, k1, k2⟩)
/-- an instance is made -/
theorem run_makeA {pins : List (Addr × Obj)} {σ : L2.St} {Z : Fz} {H : Hp} {s : Shared} {us : List Value} {vs : List V} {ds : List D} {QV : VK} (M : Mk C.X.K Cl g) (F : FnA C.X.prog C.X.w C.X.K C.X.mg C.X.base k g sp) (hr : Room (k + 1) C.X.A) (I : Inv C.X pins σ H s) (ok : Ok C Γ L Z σ H) (r : Vals vs us) (rd : Reps C.X.K Z H vs ds)
    (h : ∀ x, L x = none → sp (.ptr x :: ds) (put L x (.ins Cl [])) (fun v L2 => v = .non ∧ Q (.ptr x) L2) (C.R Γ)) (go : Go C L Z H Q QV) : wpAny (model C.X.prog C.X.w) C.X.A (call (.ref Cl) us) (EP C.X pins σ QV) C.X.xe s := by
  have n1 : H (s.heap.objs.size + 1) = none := I.hok.fresh (Nat.le_succ _)
  have n0 : H s.heap.objs.size = none := I.hok.fresh (Nat.le_refl _)
  have hne : s.heap.objs.size + 1 ≠ s.heap.objs.size := Nat.ne_of_gt (Nat.lt_succ_self _)
  have n1' : (upd H s.heap.objs.size (.own (s.heap.objs.size + 1))) (s.heap.objs.size + 1) = none := by rw [upd_ne hne]; exact n1
  have I2 := Inv.made (C := Cl) I
  have c2 : C.Con (put L (s.heap.objs.size + 1) (.ins Cl [])) Z (upd (upd H s.heap.objs.size (.own (s.heap.objs.size + 1))) (s.heap.objs.size + 1) (.ins Cl s.heap.objs.size [])) :=
    (ok.con.new n0).newL n1' ⟨s.heap.objs.size, [], .inl ⟨upd_same, rfl⟩, fun i d e => by simp at e⟩
  have f2 : Fr L Z H (put L (s.heap.objs.size + 1) (.ins Cl [])) Z (upd (upd H s.heap.objs.size (.own (s.heap.objs.size + 1))) (s.heap.objs.size + 1) (.ins Cl s.heap.objs.size [])) := (Fr.new n0).trans (Fr.newL n1')
  have r2 : Vals (V.ref (s.heap.objs.size + 1) :: vs) (Value.ref (s.heap.objs.size + 1) :: us) := .cons rfl r
  refine wpAny_call (make_map (f := g) I.kIn M.makes M.init (beq_iff_eq.mp M.fn) (codeAny_mono (F _ C.X.stack _ _ (Value.ref (s.heap.objs.size + 1) :: us) _ (fun v H2 => v = .non ∧ QV (.ref (s.heap.objs.size + 1)) H2) (L2.WE C.W σ) (hr.make Cl us []) (I2.env0.make Cl us []) r2 ?_) fun r s' hq' => ?_))
  · refine ⟨.ptr (s.heap.objs.size + 1) :: ds, _, Z, _, C.R Γ, .cons (.ptr _) (rd.mono f2.mv), c2, h _ (ok.con.free n1), fun d L' ⟨ed, q⟩ v H' rv c fr => ?_, fun cls fs L' q d H' xd c fr => ok.lr.of cls d σ H' Γ L' fs (ok.sl.mono (f2.trans fr).mv) c (f2.trans fr) xd q⟩
    subst ed
    exact ⟨rv.nonE, go _ _ H' L' (.ptr _) c (f2.trans fr) q⟩
  · cases r with
    | error e => exact passAt C.tk σ pins _ _ e s' I2 hq'
    | ok fl =>
      cases fl with
      | ret u =>
        obtain ⟨v, H', I3, rv, ev, q3⟩ := I2.after hq'
        subst ev
        exact ⟨rv, ⟨V.ref (s.heap.objs.size + 1), H', I3, rfl, q3⟩⟩
      | next => exact False.elim hq'
      | brk => exact False.elim hq'
      | cont => exact False.elim hq'
/-- Cl(e, ..), Cl the module's class x -/
theorem ae_make (M : Mk C.X.K Cl g) (F : FnA C.X.prog C.X.w C.X.K C.X.mg C.X.base k g sp) (hm : C.X.mg x = some (.ref Cl)) (hr : Room (k + 1) C.X.A) (h : AA C (e :: es) Γ L fun ds L1 => ∀ x, L1 x = none → sp (.ptr x :: ds) (put L1 x (.ins Cl [])) (fun v L2 => v = .non ∧ Q (.ptr x) L2) (C.R Γ)) (hg : Gl C.X x := by rfl) (hdb : (x == ("__debug__" : Str)) = false := by decide)
    (he : starEach (e :: es) C.X.env = (false, eval e C.X.env) :: starEach es C.X.env := by rfl) (hpl : (backTo pos (starEach es C.X.env)).any (·.1) = false := by rfl) : AE C (.Call (.Name x p) (e :: es) [] pos) Γ L Q := fun Z σ H ok QV go => by
  refine ⟨fun pins s I => ?_⟩
  refine wpAny_Call_Name_kw (ld_glob I hg hm ?_ hdb)
  refine PySem.W.callWith_K (h₀ := C.X.base) I.ok.mod.kin M.kp (thn ((h _ σ H ok (fun vs H1 => ∃ ds L1 Z1, Reps C.X.K Z1 H1 vs ds ∧ C.Con L1 Z1 H1 ∧ Fr L Z H L1 Z1 H1 ∧ ∀ x, L1 x = none → sp (.ptr x :: ds) (put L1 x (.ins Cl [])) (fun v L2 => v = .non ∧ Q (.ptr x) L2) (C.R Γ)) (fun vs ds H1 L1 r c f q => ⟨ds, L1, _, r, c, f, q⟩)).run pos pins s I) fun us s1 ⟨vs, H1, I1, r, ds, L1, Z1, rd, c1, f1, q⟩ => ⟨I1.kIn, ?_⟩) he hpl
  exact run_makeA M F hr I1 (ok.step c1 f1) r rd q (go.after f1)
/-- f(e, ..), f an instance of Cl -/
theorem ae_callO (c : StX.CallO C.X.K Cl g) (F : FnA C.X.prog C.X.w C.X.K C.X.mg C.X.base k g sp) (hr : Room k C.X.A) (h : AE C fe Γ L fun y L1 => (∃ a, y = .ptr a ∨ ∃ fs, y = .obj a fs) ∧ AA C (e :: es) Γ L1 fun ds L2 => IsIns L2 y Cl ∧ sp (y :: ds) L2 Q (C.R Γ))
    (ht : eval (.Call fe (e :: es) [] pos) C.X.env = (do callWith pos (← eval fe C.X.env) [] (backTo pos (starEach (e :: es) C.X.env)) (backToKw pos (keywordEach [] C.X.env))) := by rfl)
    (he : starEach (e :: es) C.X.env = (false, eval e C.X.env) :: starEach es C.X.env := by rfl) (hpl : (backTo pos (starEach es C.X.env)).any (·.1) = false := by rfl) : AE C (.Call fe (e :: es) [] pos) Γ L Q := fun Z σ H ok QV go => by
  refine ⟨fun pins s I => ?_⟩
  refine Call_ (thn ((h _ σ H ok (fun v H1 => ∃ y a L1 Z1, v = .ref a ∧ Rep C.X.K Z1 H1 v y ∧ C.Con L1 Z1 H1 ∧ Fr L Z H L1 Z1 H1 ∧ AA C (e :: es) Γ L1 fun ds L2 => IsIns L2 y Cl ∧ sp (y :: ds) L2 Q (C.R Γ)) (fun v y H1 L1 r cc f ⟨ey, q⟩ => by
    obtain ⟨a, rfl⟩ : ∃ a, v = .ref a := by
      rcases ey with ⟨a, rfl | ⟨fs, rfl⟩⟩
      · exact ⟨a, r.ptrE⟩
      · cases r; exact ⟨_, rfl⟩
    exact ⟨y, a, L1, _, rfl, r, cc, f, q⟩)).run pins s I) fun u s1 ⟨v, H1, I1, ry, y, a, L1, Z1, ev, rep, c1, f1, q⟩ => ?_) ht
  subst ev
  obtain rfl : u = Value.ref a := ry
  refine StX.callO_with (thn ((q _ σ H1 (ok.step c1 f1) (fun vs H2 => ∃ ds L2 Z2, Reps C.X.K Z2 H2 vs ds ∧ C.Con L2 Z2 H2 ∧ Fr L1 Z1 H1 L2 Z2 H2 ∧ IsIns L2 y Cl ∧ sp (y :: ds) L2 Q (C.R Γ)) (fun vs ds H2 L2 r cc f q => ⟨ds, L2, _, r, cc, f, q⟩)).run pos pins s1 I1) fun us s2 ⟨vs, H2, I2, r, ds, L2, Z2, rd, c2, f2, hi, q2⟩ => ?_) he hpl
  obtain ⟨a', dx, ws, ea, st⟩ := hi.slt c2 (rep.mono f2.mv)
  cases ea
  obtain ⟨ox, od, J, hd⟩ := StX.insC_at I2 (.inl ⟨dx, ws, st⟩)
  exact ⟨⟨Cl, ox, od, J, hd⟩, wpAny_call (PySem.W.kco_code I2.kIn J hd c.at_ c.fn c.fi (run_fnA (us := .ref a :: us) (vs := .ref a :: vs) F hr I2 (ok.step c2 (f1.trans f2)) (.cons rfl r) (.cons (rep.mono f2.mv) rd) q2 (go.after (f1.trans f2))))⟩
/-- o.m(e, ..), o.m() -/
theorem ae_meth {pl : Sem Bool} (c : SlX.SCls C.X.K Cl) (hm : Meth C.X.K Cl m g) (F : FnA C.X.prog C.X.w C.X.K C.X.mg C.X.base k g sp) (hr : Room k C.X.A) (h : AE C o Γ L fun y L1 => IsIns L1 y Cl ∧ AA C (e :: es) Γ L1 fun ds L2 => sp (y :: ds) L2 Q (C.R Γ))
    (hst : starEach (e :: es) C.X.env = (false, eval e C.X.env) :: starEach es C.X.env := by rfl) (hpl : (backTo pos (starEach es C.X.env)).any (·.1) = false := by rfl)
    (ht : eval (.Call (.Attribute o m apos) (e :: es) [] pos) C.X.env = (do
      let ov ← eval o C.X.env
      standAt apos.atName
      let (f, first) ← holding [ov] (getMethod ov m pl)
      callWith pos f first (backTo pos (starEach (e :: es) C.X.env)) (backToKw pos (keywordEach [] C.X.env))) := by rfl) : AE C (.Call (.Attribute o m apos) (e :: es) [] pos) Γ L Q := fun Z σ H ok QV go => by
  refine ⟨fun pins s I => ?_⟩
  refine PySem.W.methodCall_KW (pl := pl) (thn ((h _ σ H ok (fun v H1 => ∃ y L1 Z1, Rep C.X.K Z1 H1 v y ∧ C.Con L1 Z1 H1 ∧ Fr L Z H L1 Z1 H1 ∧ IsIns L1 y Cl ∧ AA C (e :: es) Γ L1 fun ds L2 => sp (y :: ds) L2 Q (C.R Γ)) (fun v y H1 L1 r cc f ⟨hi, q⟩ => ⟨y, L1, _, r, cc, f, hi, q⟩)).run pins s I) fun u s1 ⟨v, H1, I1, ry, y, L1, Z1, rep, c1, f1, hi, q⟩ => ?_) ht
  obtain ⟨a, dx, ws, ea, st⟩ := hi.slt c1 rep
  subst ea
  obtain rfl : u = Value.ref a := ry
  refine SlX.getmethsl_ok I1 st c hm ?_
  refine PySem.W.callWith_K (first := [.ref a]) (h₀ := C.X.base) I.ok.mod.kin hm.kp (thn ((q _ σ H1 (ok.step c1 f1) (fun vs H2 => ∃ ds L2 Z2, Reps C.X.K Z2 H2 vs ds ∧ C.Con L2 Z2 H2 ∧ Fr L1 Z1 H1 L2 Z2 H2 ∧ sp (y :: ds) L2 Q (C.R Γ)) (fun vs ds H2 L2 r cc f q => ⟨ds, L2, _, r, cc, f, q⟩)).run pos pins s1 I1) fun us s2 ⟨vs, H2, I2, r, ds, L2, Z2, rd, c2, f2, q2⟩ => ⟨I2.kIn, ?_⟩) hst hpl
  exact wpAny_call (run_fnA (us := .ref a :: us) (vs := .ref a :: vs) F hr I2 (ok.step c2 (f1.trans f2)) (.cons rfl r) (.cons (rep.mono f2.mv) rd) q2 (go.after (f1.trans f2)))
theorem ae_meth0 {pl : Sem Bool} (c : SlX.SCls C.X.K Cl) (hm : Meth C.X.K Cl m g) (F : FnA C.X.prog C.X.w C.X.K C.X.mg C.X.base k g sp) (hr : Room k C.X.A) (h : AE C o Γ L fun y L1 => IsIns L1 y Cl ∧ sp [y] L1 Q (C.R Γ))
    (ht : eval (.Call (.Attribute o m apos) [] [] pos) C.X.env = (do
      let ov ← eval o C.X.env
      standAt apos.atName
      let (f, first) ← holding [ov] (getMethod ov m pl)
      callWith pos f first (backTo pos (starEach [] C.X.env)) (backToKw pos (keywordEach [] C.X.env))) := by rfl) : AE C (.Call (.Attribute o m apos) [] [] pos) Γ L Q := fun Z σ H ok QV go => by
  refine ⟨fun pins s I => ?_⟩
  refine PySem.W.methodCall_KW (pl := pl) (thn ((h _ σ H ok (fun v H1 => ∃ y L1 Z1, Rep C.X.K Z1 H1 v y ∧ C.Con L1 Z1 H1 ∧ Fr L Z H L1 Z1 H1 ∧ IsIns L1 y Cl ∧ sp [y] L1 Q (C.R Γ)) (fun v y H1 L1 r cc f ⟨hi, q⟩ => ⟨y, L1, _, r, cc, f, hi, q⟩)).run pins s I) fun u s1 ⟨v, H1, I1, ry, y, L1, Z1, rep, c1, f1, hi, q⟩ => ?_) ht
  obtain ⟨a, dx, ws, ea, st⟩ := hi.slt c1 rep
  subst ea
  obtain rfl : u = Value.ref a := ry
  refine SlX.getmethsl_ok I1 st c hm ?_
  exact PySem.W.callWith_K0 (first := [.ref a]) I1.kIn hm.kp (wpAny_call (run_fnA (us := [.ref a]) (vs := [.ref a]) F hr I1 (ok.step c1 f1) (.cons rfl .nil) (.cons rep .nil) q (go.after f1)))
/-- the class's property f: p, its getter g -/
structure Prop1 (K : PySem.W.Frag) (Cl : Addr) (f : Str) (p g : Addr) : Prop where
  at_ : PySem.W.findIn K (.ref Cl) f = some (some (.ref p))
  get : PySem.W.specialIn K (.ref p) "__get__" = some (some (.builtin "property.__get__"))
  tk : PySem.W.takesIn K (.ref p) = some true
  rc : ∃ rest, PySem.W.recIn K p "property" = some (.ref g :: rest)
theorem ae_prop {pr : Addr} (c : SlX.SCls C.X.K Cl) (hp : Prop1 C.X.K Cl f pr g) (F : FnA C.X.prog C.X.w C.X.K C.X.mg C.X.base k g sp) (hr : Room (k + 1) C.X.A) (h : AE C e Γ L fun y L1 => IsIns L1 y Cl ∧ sp [y] L1 Q fun _ _ _ => False)
    (hb : attributeBase e f C.X.env (eval e C.X.env) = eval e C.X.env := by rfl) : AE C (.Attribute e f pos) Γ L Q := fun Z σ H ok QV go =>
  we_of (SlX.pe_propSl (CX := L2.CX C.X.prog C.X.w) (E := fun _ _ _ => False) pe_we c hp.at_ hp.get hp.tk hp.rc F hr (fun _ _ _ _ z => by obtain ⟨_, _, _, _, _, _, _, _, _, _, _, _, z⟩ := z; exact z) hb) (h _ σ H ok _ fun v y H1 L1 r cc fr ⟨hi, q⟩ => by
    obtain ⟨a, dx, ws, ea, st⟩ := hi.slt cc r
    exact ⟨a, dx, ws, ea, st, [y], L1, _, Q, fun _ _ _ => False, .cons (ea ▸ r) .nil, cc, q, fun d L' q v H' rv c f => go v d H' L' rv c (fr.trans f) q, fun _ _ _ z => z.elim⟩)
/-! ### freezing -/
def del (L : Lp) (a : Addr) : Lp := fun b => if b = a then none else L b
theorem del_same {a : Addr} : del L a a = none := if_pos rfl
theorem del_ne {a b : Addr} (h : b ≠ a) : del L a b = L b := if_neg h
theorem del_le (a : Addr) : Le (del L a) L := fun b o e => by
  unfold del at e
  split at e
  · cases e
  · exact e
theorem del_put {a : Addr} {o : MO} (h : L a = none) : del (put L a o) a = L := by
  funext b
  unfold del
  by_cases e : b = a
  · rw [if_pos e, e, h]
  · rw [if_neg e, put_ne e]
/-- d may be told as d', the store L as L' -/
def Frz (C : Ctx) (L : Lp) (d : D) (L' : Lp) (d' : D) : Prop := ∀ pins σ s F H v, Inv C.X pins σ H s → C.Con L F H → Rep C.X.K F H v d → ∃ F' H', Inv C.X pins σ H' s ∧ Rep C.X.K F' H' v d' ∧ C.Con L' F' H' ∧ Fr L F H L' F' H'
theorem AE.frz (h : AE C e Γ L fun d L1 => ∃ d' L2, Frz C L1 d L2 d' ∧ Q d' L2) : AE C e Γ L Q := fun F σ H ok QV go => ⟨fun pins s I =>
  thn ((h _ σ H ok (fun v H' => ∃ d L' F', Rep C.X.K F' H' v d ∧ C.Con L' F' H' ∧ Fr L F H L' F' H' ∧ ∃ d' L2, Frz C L' d L2 d' ∧ Q d' L2) (fun v d H' L' r c f q => ⟨d, L', _, r, c, f, q⟩)).run pins s I) fun u s1 ⟨v, H1, I1, rv, d, L1, F1, r1, c1, f1, d', L2, z, q⟩ => by
    obtain ⟨F2, H2, I2, r2, c2, f2⟩ := z _ _ _ _ _ v I1 c1 r1
    exact ⟨v, H2, I2, rv, go v d' H2 L2 r2 c2 (f1.trans f2) q⟩⟩
theorem Frz.trans {L1 L2 : Lp} {d d1 d2 : D} (a : Frz C L d L1 d1) (b : Frz C L1 d1 L2 d2) : Frz C L d L2 d2 := fun pins σ s F H v I c r => by
  obtain ⟨F1, H1, I1, r1, c1, f1⟩ := a pins σ s F H v I c r
  obtain ⟨F2, H2, I2, r2, c2, f2⟩ := b pins σ s F1 H1 v I1 c1 r1
  exact ⟨F2, H2, I2, r2, c2, f1.trans f2⟩
theorem frz_go {F : Fz} {H : Hp} {a : Addr} {mo : MO} {o : HO} (c : C.Con L F H) (ha : L a = some mo) (ho : H a = some o) (h1 : ∀ y, o ≠ .own y) (h2 : o ≠ .xd []) : C.Con (del L a) (fun b => F b ∨ b = a) H ∧ Fr L F H (del L a) (fun b => F b ∨ b = a) H := by
  have mv : Mv F H (fun b => F b ∨ b = a) H := ⟨.refl H, fun b z => .inl z, fun b o z e => e⟩
  refine ⟨⟨fun b u e => ((c.at_ b u (del_le a b u e)).mono mv rfl), fun b z => ?_⟩, ⟨fun b u e _ _ => e, fun b z => z, .refl H, fun b z => .inl ((del_le a).ne z), fun b z => .inl z, fun b u z e => e, fun b z => ?_⟩⟩
  · rcases z with z | z
    · exact ⟨(del_le a).none (c.fz b z).1, (c.fz b z).2⟩
    · rw [z]
      exact ⟨del_same, o, ho, h1, h2⟩
  · rcases z with z | z
    · exact .inl z
    · rw [z, ha]
      exact .inr (.inl (by simp))
theorem frz_lst {a : Addr} {ds : List D} (ha : L a = some (.lst ds)) : Frz C L (.ptr a) (del L a) (.flst ds) := fun pins σ s F H v I c r => by
  obtain ⟨vs, e, rr, z⟩ := c.at_ a _ ha
  obtain ⟨c2, f2⟩ := frz_go c ha e (fun _ z => nomatch z) (fun z => nomatch z)
  have r2 := rr.mono f2.mv
  refine ⟨_, H, I, ?_, c2, f2⟩
  rw [r.ptrE]
  exact .flst (.inr rfl) e (by rw [rr.length]; exact z) rr.length fun i v d h1 h2 => by
    obtain ⟨d', e, q⟩ := r2.getV h1
    rw [h2] at e
    cases e
    exact q
theorem frz_dct {a : Addr} {kds : List (List Key × D)} (ha : L a = some (.dct kds)) : Frz C L (.ptr a) (del L a) (.fdct kds) := fun pins σ s F H v I c r => by
  obtain ⟨kvs, e, rr, z⟩ := c.at_ a _ ha
  obtain ⟨od, I1⟩ := I.lock e True.intro
  have nfa := c.nw ha
  have ne : ∀ b u, H b = some u → (∀ k, u ≠ .dT k) → b ≠ a := fun b u eb nd q => by rw [q, e] at eb; exact nd _ (Option.some.inj eb).symm
  have st : Stay H (upd H a (.frz od (.dT kvs))) := ⟨fun b vs eb => by rw [upd_ne (ne b _ eb fun _ z => nomatch z)]; exact eb, fun b o xs eb => by rw [upd_ne (ne b _ eb fun _ z => nomatch z)]; exact eb, fun b eb => by rw [upd_ne (ne b _ eb fun _ z => nomatch z)]; exact eb⟩
  have mv : Mv F H (fun b => F b ∨ b = a) (upd H a (.frz od (.dT kvs))) := ⟨st, fun b z => .inl z, fun b o z eb => by
    have hb : b ≠ a := fun q => nfa (q ▸ z)
    rw [upd_ne hb]; exact eb⟩
  have key : ∀ {kvs : List (List Key × V)} {kds : List (List Key × D)}, KDs C.X.K F H kvs kds → ∀ (i : Nat) (v : List Key × V) (d : List Key × D), kvs[i]? = some v → kds[i]? = some d → v.1 = d.1 ∧ Rep C.X.K F H v.2 d.2 := by
    intro kvs kds h
    induction h with
    | nil => intro i v d h1 _; simp at h1
    | cons h1 h2 ih =>
      intro i v d e1 e2
      cases i with
      | zero => simp at e1 e2; subst e1 e2; exact h1
      | succ i => exact ih i v d (by simpa using e1) (by simpa using e2)
  refine ⟨_, _, I1, ?_, ⟨fun b u eb => ?_, fun b zz => ?_⟩, ⟨fun b u eb _ nb => ?_, fun b zz => upd_live zz, st, fun b zz => .inl ((del_le a).ne zz), mv.fz, mv.fk, fun b zz => ?_⟩⟩
  · rw [r.ptrE]
    exact .fdct (.inr rfl) upd_same z (Paired.length rr) (fun i v d h1 h2 => (key rr i v d h1 h2).1) fun i v d h1 h2 => (key rr i v d h1 h2).2.mono mv
  · have hb : b ≠ a := fun q => by rw [q, del_same] at eb; cases eb
    exact (c.at_ b u (del_le a b u eb)).mono mv (upd_ne hb)
  · rcases zz with zz | zz
    · have hb : b ≠ a := fun q => nfa (q ▸ zz)
      obtain ⟨n, o, eo, k1, k2⟩ := c.fz b zz
      exact ⟨(del_le a).none n, o, by rw [upd_ne hb]; exact eo, k1, k2⟩
    · rw [zz]
      exact ⟨del_same, _, upd_same, (fun _ z => nomatch z), (fun z => nomatch z)⟩
  · have hb : b ≠ a := fun q => by rw [q, ha] at nb; cases nb
    rw [upd_ne hb]; exact eb
  · rcases zz with zz | zz
    · exact .inl zz
    · rw [zz, ha]
      exact .inr (.inl (by simp))
theorem frz_ins {a : Addr} {gs : List D} (ha : L a = some (.ins Cl (gs.map some))) (hn : gs ≠ []) : Frz C L (.ptr a) (del L a) (.obj Cl gs) := fun pins σ s F H v I c r => by
  obtain ⟨dx, us, st, sr⟩ := c.at_ a _ ha
  have hu : us ≠ [] := fun z => by
    cases gs with
    | nil => exact hn rfl
    | cons g gs =>
      obtain ⟨u, e, _⟩ := sr 0 g rfl
      rw [z] at e
      simp at e
  rcases st with ⟨_, z⟩ | ⟨e, hx⟩
  · exact absurd z hu
  obtain ⟨c2, f2⟩ := frz_go c ha e (fun _ z => by unfold SlX.SlO at z; cases z) (fun z => by unfold SlX.SlO at z; cases z)
  have key : ∀ i (h : i < gs.length), ∃ u, us[i]? = some (some u) ∧ Rep C.X.K F H u gs[i] := fun i h => sr i gs[i] (by rw [List.getElem?_map, List.getElem?_eq_getElem h]; rfl)
  have hv : ∃ vs : List V, vs.length = gs.length ∧ ∀ (i : Nat) (v : V), vs[i]? = some v → us[i]? = some (some v) ∧ ∀ d, gs[i]? = some d → Rep C.X.K F H v d := by
    refine ⟨List.ofFn fun i : Fin gs.length => (key i.1 i.2).choose, by simp, fun i v e => ?_⟩
    have hi := (List.getElem?_eq_some_iff.mp e).1
    rw [List.length_ofFn] at hi
    rw [List.getElem?_ofFn, dif_pos hi] at e
    cases e
    refine ⟨(key i hi).choose_spec.1, fun d hd => ?_⟩
    rw [List.getElem?_eq_getElem hi] at hd
    cases hd
    exact (key i hi).choose_spec.2
  obtain ⟨vs, hl, hvs⟩ := hv
  refine ⟨_, H, I, ?_, c2, f2⟩
  rw [r.ptrE]
  exact .obj (.inr rfl) e hx (fun i v h => (hvs i v h).1) hl fun i v d h1 h2 => ((hvs i v h1).2 d h2).mono f2.mv
/-- a slot's content is frozen -/
theorem frz_fld {a t : Addr} {fs : List (Option D)} {i : Nat} {x' : D} {L' : Lp} (ha : L a = some (.ins Cl fs)) (hi : fs[i]? = some (some (.ptr t))) (z : Frz C L (.ptr t) L' x') (ha' : L' a = some (.ins Cl fs)) : Frz C L (.ptr a) (put L' a (.ins Cl (fs.set i (some x')))) (.ptr a) := fun pins σ s F H v I c r => by
  obtain ⟨F', H', I', r', c', f'⟩ := z pins σ s F H (.ref t) I c (.ptr t)
  obtain ⟨dx, us, st, sr⟩ := c'.at_ a _ ha'
  obtain ⟨u, e1, e2⟩ := sr i _ hi
  have eu := e2.ptrE
  subst eu
  refine ⟨F', H', I', by rw [r.ptrE]; exact .ptr a, ⟨fun b o hb => ?_, fun b zz => ?_⟩, ⟨f'.keep, f'.live, f'.stay, fun b zz => ?_, f'.fz, f'.fk, f'.off⟩⟩
  · by_cases e : b = a
    · subst e
      rw [put_same] at hb
      cases hb
      refine ⟨dx, us, st, fun j d hj => ?_⟩
      by_cases ej : j = i
      · subst ej
        rw [List.getElem?_set_self (List.getElem?_eq_some_iff.mp hi).1] at hj
        cases hj
        exact ⟨_, e1, r'⟩
      · rw [List.getElem?_set_ne (Ne.symm ej)] at hj
        exact sr j d hj
    · rw [put_ne e] at hb
      exact c'.at_ b o hb
  · have hba : b ≠ a := fun q => c'.nw ha' (q ▸ zz)
    rw [put_ne hba]
    exact c'.fz b zz
  · by_cases e : b = a
    · exact .inl (by rw [e, ha]; simp)
    · rw [put_ne e] at zz
      exact f'.dom b zz
end
end DL
namespace DL
open PySem PySem.Spec PyProof.Rows L2
/-- each item goes to f of it, and the store stays -/
def Each (C : Ctx) (scope : Scope) (own : List (Str × Nat)) (tg elt : Expr) (Γ : Gm) (ds : List D) (L1 : Lp) (f : D → D) : Prop := ∀ (i : Nat) (d : D), ds[i]? = some d → ∃ Γ3 ws, (∀ j ∈ ws, j ∈ own.map (·.2)) ∧ ∀ s H Cc cl fp, AG (bctx C scope s H Cc cl fp) tg d (wipeG Γ (own.map (·.2))) Γ3 ws ∧ AV (bctx C scope s H Cc cl fp) elt Γ3 L1 (f d)
section
variable {C : Ctx} {Γ Γ1 Γ2 : Gm} {L : Lp} {e a b c o tg elt iter : Expr} {es ts : List Expr} {pos p1 p2 p3 : Pos} {E : AEnds} {Q : D → Lp → Prop} {scope : Scope}
theorem each1 {own : List (Str × Nat)} {ds : List D} {f : D → D} {Γ3 : D → Gm} {ws : List Nat} (hw : ∀ j ∈ ws, j ∈ own.map (·.2)) (h : ∀ (i : Nat) (d : D), ds[i]? = some d → ∀ s H Cc cl fp, AG (bctx C scope s H Cc cl fp) tg d (wipeG Γ (own.map (·.2))) (Γ3 d) ws ∧ AV (bctx C scope s H Cc cl fp) elt (Γ3 d) L (f d)) : Each C scope own tg elt Γ ds L f :=
  fun i d hd => ⟨Γ3 d, ws, hw, h i d hd⟩
theorem ae_tupLc (own : List (Str × Nat)) (hm : C.X.mg "tuple" = none) (h : AI C tg iter Γ L fun ds G L1 => ∃ f : D → D, G L1 ∧ ds.length ≤ sizeLine ∧ Each C scope own tg elt Γ ds L1 f ∧ Q (.tup (ds.map f)) L1)
    (ok : BlkOk C.X.N C.X.env.scope scope own := by (dsimp only [fctx, bctx, cxOf, envOfC, compEnvC, Cx.blk]; exact blkOk_by (by decide +kernel))) (hs : ∀ x, foldedSetIterable iter C.X.env x = pure x := by intro _; rfl) (hg : Gl C.X "tuple" := by rfl)
    (he : starEach [.ListComp elt [⟨tg, iter, [], 0⟩] scope p2] C.X.env = [(false, eval (.ListComp elt [⟨tg, iter, [], 0⟩] scope p2) C.X.env)] := by rfl) :
    AE C (.Call (.Name "tuple" p1) [.ListComp elt [⟨tg, iter, [], 0⟩] scope p2] [] pos) Γ L Q := by
  refine AE.drop (ae_callT call_tuple_of hm (aa_cons (ae_lc own ?_ ok hs) he) (hg := hg) (he := he))
  refine fun F σ H okk RV go => h _ σ H okk RV fun J H' L' ds G c f it ⟨g, hG, hz, hf, q⟩ => go J H' L' ds G c f it (lc_map g hG hz hf fun p hp => ?_)
  exact aa_nil (c_tupL put_same ⟨L', le_put hp, q⟩)
theorem ae_allLc (own : List (Str × Nat)) (hm : C.X.mg "all" = none) (h : AI C tg iter Γ L fun ds G L1 => ∃ f : D → Bool, G L1 ∧ ds.length ≤ sizeLine ∧ Each C scope own tg elt Γ ds L1 (fun d => .bl (f d)) ∧ Q (.bl (ds.all f)) L1)
    (ok : BlkOk C.X.N C.X.env.scope scope own := by (dsimp only [fctx, bctx, cxOf, envOfC, compEnvC, Cx.blk]; exact blkOk_by (by decide +kernel))) (hs : ∀ x, foldedSetIterable iter C.X.env x = pure x := by intro _; rfl) (hg : Gl C.X "all" := by rfl)
    (he : starEach [.ListComp elt [⟨tg, iter, [], 0⟩] scope p2] C.X.env = [(false, eval (.ListComp elt [⟨tg, iter, [], 0⟩] scope p2) C.X.env)] := by rfl) :
    AE C (.Call (.Name "all" p1) [.ListComp elt [⟨tg, iter, [], 0⟩] scope p2] [] pos) Γ L Q := by
  refine AE.drop (ae_callB (cr_all C.calm) hm (aa_cons (ae_lc own ?_ ok hs) he) (hg := hg) (he := he))
  refine fun F σ H okk RV go => h _ σ H okk RV fun J H' L' ds G c f it ⟨g, hG, hz, hf, q⟩ => go J H' L' ds G c f it (lc_map _ hG hz hf fun p hp => ?_)
  refine aa_nil (c_all (bs := ds.map g) (by rw [List.map_map]; exact put_same) ⟨L', le_put hp, ?_⟩)
  rw [List.all_map]
  exact q
theorem ae_anyLc (own : List (Str × Nat)) (hm : C.X.mg "any" = none) (h : AI C tg iter Γ L fun ds G L1 => ∃ f : D → Bool, G L1 ∧ ds.length ≤ sizeLine ∧ Each C scope own tg elt Γ ds L1 (fun d => .bl (f d)) ∧ Q (.bl (ds.any f)) L1)
    (ok : BlkOk C.X.N C.X.env.scope scope own := by (dsimp only [fctx, bctx, cxOf, envOfC, compEnvC, Cx.blk]; exact blkOk_by (by decide +kernel))) (hs : ∀ x, foldedSetIterable iter C.X.env x = pure x := by intro _; rfl) (hg : Gl C.X "any" := by rfl)
    (he : starEach [.ListComp elt [⟨tg, iter, [], 0⟩] scope p2] C.X.env = [(false, eval (.ListComp elt [⟨tg, iter, [], 0⟩] scope p2) C.X.env)] := by rfl) :
    AE C (.Call (.Name "any" p1) [.ListComp elt [⟨tg, iter, [], 0⟩] scope p2] [] pos) Γ L Q := by
  refine AE.drop (ae_callB (cr_any C.calm) hm (aa_cons (ae_lc own ?_ ok hs) he) (hg := hg) (he := he))
  refine fun F σ H okk RV go => h _ σ H okk RV fun J H' L' ds G c f it ⟨g, hG, hz, hf, q⟩ => go J H' L' ds G c f it (lc_map _ hG hz hf fun p hp => ?_)
  refine aa_nil (c_any (bs := ds.map g) (by rw [List.map_map]; exact put_same) ⟨L', le_put hp, ?_⟩)
  rw [List.any_map]
  exact q
end
end DL
namespace DL
open PySem PySem.Spec PyProof.Rows L2
section
variable {C : Ctx} {Γ : Gm} {L : Lp} {Q : D → Lp → Prop}
abbrev rNotN : R2 := fun x y H Q => y = .non ∧ Q (.bl (!decide (x = .non))) H
theorem r_notN {x : D} {k : Bool} (hk : match x with | .non => k = false | _ => k = true) (q : Q (.bl k) L) : L2R C rNotN x .non L Q := fun F vx vy H c rx ry QV go => by
  refine ⟨ry.nonE, ?_⟩
  have e : (!decide (vx = V.non)) = k := by
    cases rx <;> simp only at hk <;> subst hk <;> simp
  rw [e]
  exact go _ _ H L (.bl _) c (.refl L H) q
theorem pys_map {α : Type} (f : α → D) : ∀ xs : List α, pys (xs.map f) = xs.map fun x => py (f x)
  | [] => by rw [List.map_nil, pys, List.map_nil]
  | x :: xs => by rw [List.map_cons, pys, pys_map f xs, List.map_cons]
theorem okDs_map {α : Type} (f : α → D) : ∀ xs : List α, (∀ x ∈ xs, okD (f x) = true) → okDs (xs.map f) = true
  | [], _ => by rw [List.map_nil, okDs]
  | x :: xs, h => by rw [List.map_cons, okDs, h x List.mem_cons_self, okDs_map f xs fun y hy => h y (List.mem_cons_of_mem _ hy)]; rfl
theorem r_eqNil {xs : List D} (hx : okD (.tup xs) = true) (dx : (py (.tup xs)).depth ≤ 64) (q : Q (.bl xs.isEmpty) L) : L2R C (rEqD C.X.K) (.tup xs) (.tup []) L Q := by
  refine r_eqD hx (by rw [okD, okDs]) dx (by decide) ?_
  have e : PyData.eqv (py (.tup xs)) (py (.tup [])) = xs.isEmpty := by
    rw [py, py, pys]
    cases xs with
    | nil => rw [pys, PyData.eqv, PyData.eqvAll]; rfl
    | cons x xs => rw [pys, PyData.eqv, PyData.eqvAll]; rfl
  rw [e]
  exact q
end
end DL
namespace DL
open PySem PySem.Spec PyProof.Rows L2
section
variable {C : Ctx} {Γ : Gm} {L : Lp} {Q : D → Lp → Prop} {e : Expr} {pos : Pos}
theorem ae_neg (h : AE C e Γ L fun d L1 => ∃ i : Int, d = .int i ∧ Q (.int (-i)) L1) : AE C (.UnaryOp .USub e pos) Γ L Q := fun F σ H ok QV go =>
  we_of (pe_un un_neg pe_we) (h _ σ H ok _ fun v d H1 L1 r c f ⟨i, ed, q⟩ => by
    subst ed
    exact ⟨i, r.intE, go _ _ H1 L1 (.int _) c f q⟩)
end
end DL
namespace DL
open PySem PySem.Spec PyProof.Rows L2
section
variable {C : Ctx} {Γ : Gm} {L : Lp} {Q : D → Lp → Prop} {o e : Expr} {pos apos : Pos}
theorem ae_append (h : AE C o Γ L fun x L1 => ∃ p zs, x = .ptr p ∧ L1 p = some (.lst zs) ∧ AE C e Γ L1 fun y L2 => ∃ xs, L2 p = some (.lst xs) ∧ xs.length < sizeLine ∧ Q .non (put L2 p (.lst (xs ++ [y]))))
    (hp : PE C.X (.Call (.Attribute o "append" apos) [e] [] pos) (tBM C.X.K "list" rAppend (WE C.X o) (WA C.X [e])) := by exact pe_bm PySem.F.plainAttrs_list PySem.F.slot_list_append PySem.F.type_list_append mt_append pe_we pa_we)
    (hs : starEach [e] C.X.env = [(false, eval e C.X.env)] := by rfl) : AE C (.Call (.Attribute o "append" apos) [e] [] pos) Γ L Q :=
  ae_bm (id := "list.append") hp (h.mono fun x L1 ⟨p, zs, ex, hz, h2⟩ => by
    subst ex
    exact ⟨.inl ⟨rfl, zs, hz⟩, aa_cons (h2.mono fun y L2 ⟨xs, hx, hl, q⟩ => aa_nil (m_append hx hl q)) hs⟩)
theorem ae_extT (h : AE C o Γ L fun x L1 => ∃ p zs, x = .ptr p ∧ L1 p = some (.lst zs) ∧ AE C e Γ L1 fun y L2 => ∃ xs ys, y = .tup ys ∧ L2 p = some (.lst xs) ∧ xs.length + ys.length ≤ sizeLine ∧ Q .non (put L2 p (.lst (xs ++ ys))))
    (hp : PE C.X (.Call (.Attribute o "extend" apos) [e] [] pos) (tBM C.X.K "list" (rExtT C.X.K) (WE C.X o) (WA C.X [e])) := by exact pe_bm PySem.F.plainAttrs_list PySem.F.slot_list_extend PySem.F.type_list_extend mt_extendT pe_we pa_we)
    (hs : starEach [e] C.X.env = [(false, eval e C.X.env)] := by rfl) : AE C (.Call (.Attribute o "extend" apos) [e] [] pos) Γ L Q :=
  ae_bm (id := "list.extend") hp (h.mono fun x L1 ⟨p, zs, ex, hz, h2⟩ => by
    subst ex
    exact ⟨.inl ⟨rfl, zs, hz⟩, aa_cons (h2.mono fun y L2 ⟨xs, ys, ey, hx, hl, q⟩ => aa_nil (by subst ey; exact m_extendT hx hl q)) hs⟩)
theorem ae_extL (h : AE C o Γ L fun x L1 => ∃ p zs, x = .ptr p ∧ L1 p = some (.lst zs) ∧ AE C e Γ L1 fun y L2 => ∃ xs b ys, y = .ptr b ∧ L2 p = some (.lst xs) ∧ L2 b = some (.lst ys) ∧ xs.length + ys.length ≤ sizeLine ∧ Q .non (put L2 p (.lst (xs ++ ys))))
    (hp : PE C.X (.Call (.Attribute o "extend" apos) [e] [] pos) (tBM C.X.K "list" rExtend (WE C.X o) (WA C.X [e])) := by exact pe_bm PySem.F.plainAttrs_list PySem.F.slot_list_extend PySem.F.type_list_extend mt_extend pe_we pa_we)
    (hs : starEach [e] C.X.env = [(false, eval e C.X.env)] := by rfl) : AE C (.Call (.Attribute o "extend" apos) [e] [] pos) Γ L Q :=
  ae_bm (id := "list.extend") hp (h.mono fun x L1 ⟨p, zs, ex, hz, h2⟩ => by
    subst ex
    exact ⟨.inl ⟨rfl, zs, hz⟩, aa_cons (h2.mono fun y L2 ⟨xs, b, ys, ey, hx, hy, hl, q⟩ => aa_nil (by subst ey; exact m_extendL hx hy hl q)) hs⟩)
end
theorem sl_eq : sizeLine = 16777216 := rfl
end DL
namespace DL
open PySem PySem.Spec PyProof.Rows L2
section
variable {C : Ctx} {Γ : Gm} {L : Lp} {a b c : Expr} {pos : Pos}
theorem at_chain {op op' : CmpOp} {r r' : R2} {Q : Bool → Lp → Prop} (ho : OpR C.X (compareOp op) r) (ho' : OpR C.X (compareOp op') r')
    (h : AE C a Γ L fun x L1 => AE C b Γ L1 fun y L2 => L2R C r x y L2 fun d L3 => ∃ k, d = .bl k ∧ (k = true → AE C c Γ L3 fun z L4 => L2R C r' y z L4 fun d L5 => ∃ k, d = .bl k ∧ Q k L5) ∧ (k = false → Q false L3))
    (hp : PT C.X (.Compare a [op, op'] [b, c] pos) (tTest (tChain r r' (WE C.X a) (WE C.X b) (WE C.X c)))) : AT C (.Compare a [op, op'] [b, c] pos) Γ L Q := fun F σ H ok QV go =>
  wt_of hp (h _ σ H ok _ fun vx x H1 L1 rx c1 f1 q1 => q1 _ σ H1 (ok.step c1 f1) _ fun vy y H2 L2 ry c2 f2 q2 => q2 _ vx vy H2 c2 (rx.mono f2.mv) ry _ fun v d H3 L3 r3 c3 f3 ⟨k, ek, k1, k2⟩ => by
    subst ek
    refine ⟨k, r3.blE, ?_⟩
    cases k with
    | true =>
      have o3 := ok.step c3 ((f1.trans f2).trans f3)
      exact (k1 rfl) _ σ H3 o3 _ fun vz z H4 L4 rz c4 f4 q4 => q4 _ vy vz H4 c4 ((ry.mono f3.mv).mono f4.mv) rz _ fun w e H5 L5 r5 c5 f5 ⟨k', ee, q5⟩ => by
        subst ee
        exact ⟨k', r5.blE, go k' H5 L5 c5 ((((f1.trans f2).trans f3).trans f4).trans f5) q5⟩
    | false => exact ⟨false, rfl, go false H3 L3 c3 ((f1.trans f2).trans f3) (k2 rfl)⟩)
end
end DL
namespace DL
open PySem PySem.Spec PyProof.Rows L2
/-- d is a dict with these pairs, of the store or frozen -/
def DR (L : Lp) (d : D) (kds : List (List Key × D)) : Prop := (∃ t, d = .ptr t ∧ L t = some (.dct kds)) ∨ d = .fdct kds
/-- d is a list of these things -/
def LR (L : Lp) (d : D) (ds : List D) : Prop := (∃ t, d = .ptr t ∧ L t = some (.lst ds)) ∨ d = .flst ds
theorem DR.st {L : Lp} {t : Addr} {kds : List (List Key × D)} (h : L t = some (.dct kds)) : DR L (.ptr t) kds := .inl ⟨t, rfl, h⟩
theorem DR.fz {L : Lp} {kds : List (List Key × D)} : DR L (.fdct kds) kds := .inr rfl
theorem LR.st {L : Lp} {t : Addr} {ds : List D} (h : L t = some (.lst ds)) : LR L (.ptr t) ds := .inl ⟨t, rfl, h⟩
theorem LR.fz {L : Lp} {ds : List D} : LR L (.flst ds) ds := .inr rfl
theorem DR.put {L : Lp} {d : D} {kds : List (List Key × D)} (h : DR L d kds) {a : Addr} {o : MO} (n : L a = none) : DR (put L a o) d kds := by
  rcases h with ⟨t, e, h⟩ | h
  · exact .inl ⟨t, e, by rw [put_ne (ne_of_free h n)]; exact h⟩
  · exact .inr h
theorem LR.put {L : Lp} {d : D} {ds : List D} (h : LR L d ds) {a : Addr} {o : MO} (n : L a = none) : LR (put L a o) d ds := by
  rcases h with ⟨t, e, h⟩ | h
  · exact .inl ⟨t, e, by rw [put_ne (ne_of_free h n)]; exact h⟩
  · exact .inr h
/-- .. an object that is no dict written -/
theorem DR.wr {L : Lp} {d : D} {kds : List (List Key × D)} (h : DR L d kds) {a : Addr} {o u : MO} (n : L a = some u) (nd : ∀ k, u ≠ .dct k) : DR (DL.put L a o) d kds := by
  rcases h with ⟨t, e, h⟩ | h
  · refine .inl ⟨t, e, ?_⟩
    have : t ≠ a := fun z => by rw [z, n] at h; exact nd _ (Option.some.inj h)
    rw [put_ne this]; exact h
  · exact .inr h
theorem DR.le {L L' : Lp} {d : D} {kds : List (List Key × D)} (h : DR L d kds) (le : Le L L') : DR L' d kds := by
  rcases h with ⟨t, e, h⟩ | h
  · exact .inl ⟨t, e, le _ _ h⟩
  · exact .inr h
theorem LR.le {L L' : Lp} {d : D} {ds : List D} (h : LR L d ds) (le : Le L L') : LR L' d ds := by
  rcases h with ⟨t, e, h⟩ | h
  · exact .inl ⟨t, e, le _ _ h⟩
  · exact .inr h
section
variable {C : Ctx} {Γ : Gm} {L : Lp} {Q : D → Lp → Prop} {o b e tg : Expr} {pos : Pos} {d : D} {ds : List D} {kds : List (List Key × D)}
theorem DR.at_ {F : Fz} {H : Hp} {v : V} (h : DR L d kds) (c : C.Con L F H) (r : Rep C.X.K F H v d) : ∃ a kvs, v = .ref a ∧ Rd H a (.dT kvs) ∧ KDs C.X.K F H kvs kds ∧ ∀ q ∈ kds, KOk q.1 := by
  rcases h with ⟨t, rfl, ht⟩ | rfl
  · obtain ⟨kvs, h1, h2, h3⟩ := c.at_ t _ ht
    exact ⟨t, kvs, r.ptrE, .inl h1, h2, h3⟩
  · cases r with
    | fdct hl h hk hn he hi =>
      have key : ∀ {kvs : List (List Key × V)} {kds : List (List Key × D)}, kvs.length = kds.length → (∀ (i : Nat) (v : List Key × V) (d : List Key × D), kvs[i]? = some v → kds[i]? = some d → v.1 = d.1 ∧ Rep C.X.K F H v.2 d.2) → KDs C.X.K F H kvs kds := by
        intro kvs
        induction kvs with
        | nil => intro kds hl _; cases kds with | nil => exact .nil | cons _ _ => simp at hl
        | cons v vs ih =>
          intro kds hl hh
          cases kds with
          | nil => simp at hl
          | cons d ds => exact .cons (hh 0 v d rfl rfl) (ih (by simpa using hl) fun i x y h1 h2 => hh (i + 1) x y (by simpa using h1) (by simpa using h2))
      exact ⟨_, _, rfl, .inr ⟨_, h⟩, key hn fun i v d h1 h2 => ⟨he i v d h1 h2, hi i v d h1 h2⟩, hk⟩
theorem LR.at_ {F : Fz} {H : Hp} {v : V} (h : LR L d ds) (c : C.Con L F H) (r : Rep C.X.K F H v d) : ∃ a vs, v = .ref a ∧ H a = some (.lst vs) ∧ Reps C.X.K F H vs ds ∧ ds.length ≤ sizeLine := by
  rcases h with ⟨t, rfl, ht⟩ | rfl
  · obtain ⟨vs, h1, h2, h3⟩ := c.at_ t _ ht
    exact ⟨t, vs, r.ptrE, h1, h2, h3⟩
  · cases r with
    | flst hl h hz hn hi => exact ⟨_, _, rfl, h, Reps.of_get hn hi, by rw [← hn]; exact hz⟩
theorem DGet.rt {H : Hp} {a b : Addr} {kvs : List (List Key × V)} {k : List Key} (e : Rd H a (.dT kvs)) (eb : H b = some (.tup (k.map kV))) : DGet H a (.ref b) (valV kvs k) := .inr ⟨kvs, k, b, e, rfl, eb, rfl⟩
theorem dr_in {k : List Key} (hp : DR L d kds) (q : Q (.bl (valD kds k).isSome) L) : L2R C rInDT (kD k) d L Q := fun F vx vy H c rx ry QV go => by
  obtain ⟨t, rfl, ht⟩ := kD_at rx
  obtain ⟨p, kvs, rfl, ha, ra, _⟩ := hp.at_ c ry
  refine ⟨p, valV kvs k, rfl, DGet.rt ha ht, ?_⟩
  have e : (valV kvs k).isSome = (valD kds k).isSome := by
    rcases KDs.val ra k with ⟨e1, e2⟩ | ⟨v, d, e1, e2, _⟩ <;> rw [e1, e2] <;> rfl
  rw [e]
  exact go _ _ H L (.bl _) c (.refl L H) q
theorem dr_notIn {k : List Key} (hp : DR L d kds) (q : Q (.bl (!(valD kds k).isSome)) L) : L2R C rNotInDT (kD k) d L Q := fun F vx vy H c rx ry QV go => by
  obtain ⟨t, rfl, ht⟩ := kD_at rx
  obtain ⟨p, kvs, rfl, ha, ra, _⟩ := hp.at_ c ry
  refine ⟨p, valV kvs k, rfl, DGet.rt ha ht, ?_⟩
  have e : (valV kvs k).isSome = (valD kds k).isSome := by
    rcases KDs.val ra k with ⟨e1, e2⟩ | ⟨v, d, e1, e2, _⟩ <;> rw [e1, e2] <;> rfl
  rw [e]
  exact go _ _ H L (.bl _) c (.refl L H) q
theorem dr_get {k : List Key} {x : D} (hp : DR L d kds) (hv : valD kds k = some x) (q : Q x L) : L2R C rGetDT d (kD k) L Q := fun F vx vy H c rx ry QV go => by
  obtain ⟨p, kvs, rfl, ha, ra, _⟩ := hp.at_ c rx
  obtain ⟨t, rfl, ht⟩ := kD_at ry
  rcases KDs.val ra k with ⟨_, e2⟩ | ⟨v, d', e1, e2, rv⟩
  · rw [hv] at e2
    cases e2
  · rw [hv] at e2
    cases e2
    exact ⟨p, v, rfl, e1 ▸ DGet.rt ha ht, go _ _ H L rv c (.refl L H) q⟩
theorem ae_dget (hu : C.X.A.units + 1 < cLine) (h : AE C o Γ L fun x L1 => AE C b Γ L1 fun y L2 => ∃ kds k d, y = kD k ∧ DR L2 x kds ∧ valD kds k = some d ∧ Q d L2) (hs : NoSl b := by exact fun _ _ => rfl) : AE C (.Subscript o b pos) Γ L Q :=
  ae_two (r := rGetDT) (pe_dget hu pe_we pe_we hs) (h.mono fun x L1 h1 => h1.mono fun y L2 ⟨kds, k, d, ey, hp, hv, q⟩ => by
    subst ey
    exact dr_get hp hv q)
theorem lr_len (hp : LR L d ds) (q : Q (.int ds.length) L) : LcR C (rLenQ C.X.K) [d] L Q := fun F vs H c r0 QV go => by
  obtain ⟨v, rfl, r⟩ := r0.oneE
  obtain ⟨p, ws, rfl, ha, ra, hzz⟩ := hp.at_ c r
  refine ⟨p, ws, rfl, .inl (SqL.of ha), ?_⟩
  rw [ra.length]
  exact go _ _ H L (.int _) c (.refl L H) q
abbrev rLenD : List V → Hp → VK → Prop := fun xs H Q => ∃ (p : Addr) (kvs : List (List Key × V)), xs = [.ref p] ∧ Rd H p (.dT kvs) ∧ Q (.int ((kvs.length : Nat) : Int)) H
theorem call_lenD {X : Cx} : CallR X (.builtin "len") rLenD := by
  intro pins s σ H xs us Q I r h
  obtain ⟨p, kvs, rfl, hp, q⟩ := h
  obtain ⟨u, rfl, rx⟩ := vals1 r
  obtain rfl : u = .ref p := rx
  obtain ⟨z, hd, ys, rel, dd⟩ := dt_rd I.hok hp
  have hl : kvs.length = ys.length := Paired.length rel
  refine call_len_dictH hd dd (by rw [← hl]; rw [sizeLine_eq] at z; omega) ?_
  rw [← hl]
  exact ⟨.int ((kvs.length : Nat) : Int), H, I.tok _, ⟨_, rfl⟩, q⟩
theorem dr_len (hp : DR L d kds) (q : Q (.int kds.length) L) : LcR C rLenD [d] L Q := fun F vs H c r0 QV go => by
  obtain ⟨v, rfl, r⟩ := r0.oneE
  obtain ⟨p, kvs, rfl, ha, ra, _⟩ := hp.at_ c r
  refine ⟨p, kvs, rfl, ha, ?_⟩
  rw [Paired.length ra]
  exact go _ _ H L (.int _) c (.refl L H) q
theorem lr_ix {i : Int} {x : D} (hp : LR L d ds) (h : atI ds i = some x) (q : Q x L) : L2R C (rIxL C.X.K) d (.int i) L Q := fun F vx vy H c rx ry QV go => by
  obtain ⟨p, vs, rfl, ha, ra, hz⟩ := hp.at_ c rx
  obtain ⟨v, h1, h2⟩ := atI_reps ra h
  exact ⟨p, vs, i, v, rfl, ry.intE, SqL.of ha, h1, go _ _ H L h2 c (.refl L H) q⟩
theorem lr_tup (hp : LR L d ds) (q : Q (.tup ds) L) : LcR C (rTupOf C.X.K) [d] L Q := fun F vs H c r0 QV go => by
  obtain ⟨v, rfl, r⟩ := r0.oneE
  obtain ⟨p, ws, rfl, ha, ra, hzz⟩ := hp.at_ c r
  exact ⟨p, ws, rfl, .inl ⟨SqL.of ha, fun l hl => go _ _ _ L (Rep.tupI upd_same (ra.mono (.new hl)) hzz) (c.new hl) (.new hl) q⟩⟩
theorem lr_lst (hp : LR L d ds) (q : ∀ l, L l = none → Q (.ptr l) (put L l (.lst ds))) : LcR C (rLstOf C.X.K) [d] L Q := fun F vs H c r0 QV go => by
  obtain ⟨v, rfl, r⟩ := r0.oneE
  obtain ⟨p, ws, rfl, ha, ra, hzz⟩ := hp.at_ c r
  exact ⟨p, ws, rfl, .inl (SqL.of ha), fun l hl => go _ _ _ (put L l (.lst ds)) (.ptr l) (c.newL hl ⟨ws, upd_same, ra.mono (.new hl), hzz⟩) (.newL hl) (q l (c.free hl))⟩
/-- a frozen list is walked -/
theorem ai_flst {R : List D → (Lp → Prop) → Lp → Prop} (h : AE C e Γ L fun d L1 => ∃ ds, d = .flst ds ∧ (ds.length ≤ sizeLine → R ds (fun _ => True) L1)) : AI C tg e Γ L R := fun F σ H ok RV go =>
  wi_of (pi_list pe_we) (h _ σ H ok _ fun v d H1 L1 r c f ⟨ds, ed, q⟩ => by
    subst ed
    cases r with
    | @flst p vs _ hl ha hzz hn hi =>
      have ra := Reps.of_get hn hi
      refine ⟨p, rfl, ⟨vs, SqL.of ha⟩, go _ H1 L1 ds _ c f (fun i H2 L2 s2 c2 g2 => ?_) (q (by rw [← hn]; exact hzz))⟩
      have hq : SqL C.X.K H2 p vs := SqL.of (s2.fk _ _ hl ha)
      refine ⟨fun hi => ⟨vs, vs[i]'(by rw [hn]; exact hi), hq, List.getElem?_eq_getElem _⟩, fun hi => ⟨vs, hq, by rw [hn, hi]; exact Nat.le_refl _⟩, fun x H' y hi => ?_⟩
      obtain ⟨e1, y⟩ := y
      subst e1
      obtain ⟨d, hd, rd⟩ := ra.getV (y vs hq)
      exact ⟨d, hd, rd.mono s2.mv, .inl rfl⟩)
end
end DL
namespace DL
open PySem PySem.Spec PyProof.Rows L2
/-- a def as it stands, its defaults whatever they are -/
structure FunX (K : PySem.W.Frag) (x qual : Str) (st : Stmt) (f : Addr) (fd : FuncData) : Prop where
  ex : ∃ (oc : Value) (od : Option Addr) (dV kV doc pm : Value) (an : Option Addr) (cdv ct : Value) (osl : Array (Option Value)),
    fd = PySem.W.fnOf x qual (defArgs st) (defBody st) (defScope st) dV kV doc pm an cdv ct ∧ K.lookup f = some ⟨oc, od, .func fd, osl⟩ ∧ PySem.W.codeIn K cdv qual = true
  kp : PySem.W.keepIn K (.ref f) = true
theorem FunX.of {K : PySem.W.Frag} {x qual : Str} {st : Stmt} {f : Addr} {fd : FuncData} (F : Fun K x qual st f fd) : FunX K x qual st f fd := by
  obtain ⟨⟨oc, od, kV, doc, pm, an, cdv, ct, osl, h⟩, kp⟩ := F
  exact ⟨⟨oc, od, .none, kV, doc, pm, an, cdv, ct, osl, h⟩, kp⟩
theorem FunX.binds {K : PySem.W.Frag} {x qual : Str} {st : Stmt} {f : Addr} {fd : FuncData} {ps : List Str} (F : FunX K x qual st f fd)
    (h : ∀ (dV kV doc pm : Value) (an : Option Addr) (cdv ct : Value) (us : List Value), us.length = ps.length → bindArgs (PySem.W.fnOf x qual (defArgs st) (defBody st) (defScope st) dV kV doc pm an cdv ct) ⟨us, []⟩ = pure (ps.zip us)) : Binds K fd ps [] := by
  obtain ⟨oc, od, dV, kV, doc, pm, an, cdv, ct, osl, rfl, lk, hcd⟩ := F.ex
  exact .all (h dV kV doc pm an cdv ct)
theorem fnAX {P : Program} {w : World} {K : PySem.W.Frag} {mg : Str → Option Value} {base : Heap} {x qual : Str} {st : Stmt} {f : Addr} {fd : FuncData} {N ps : List Str} {k : Nat} {sp : SpA} (F : FunX K x qual st f fd) (S : FnScope N ps (defScope st)) (hb : Binds K fd ps [])
    (len : ∀ ds L Q R, sp ds L Q R → ds.length = ps.length)
    (hbody : ∀ (cdv : Value) (A : Around) (outer : List Env) (s : Shared) (H : Hp) (E : XK) (ds : List D) (L : Lp) (Q : D → Lp → Prop) (R : Value → List (Str × D) → Lp → Prop), Room k (A.deeper (envOfC qual (defScope st) s.heap.objs.size f cdv)) → sp ds L Q R →
      ASs (fctx P w K mg base N qual (defScope st) f cdv A outer s H E S.nd R) (defBody st) (startG N ds) L (endsOf Q)) : FnA P w K mg base (k + 1) f sp := by
  have G : FnOk P w K mg base (L2.CX P w) (k + 1) f fd ps (toSp P w K sp) := by
    obtain ⟨oc, od, dV, kV, doc, pm, an, cdv, ct, osl, rfl, lk, hcd⟩ := F.ex
    refine fn_of lk hcd S (fun vs H Q E ⟨ds, L, Z, Q', R', r, _, h, _⟩ => by rw [r.length]; exact len _ _ _ _ h) fun A outer s H vs Q E hr ⟨ds, L, Z, Q', R', r, c, h, hq, he⟩ => ?_
    refine ⟨_, pss_we, hbody cdv A outer s H E ds L Q' R' hr h _ (L2.start N vs) H ⟨sl_start r, c, ⟨fun cls d σ' H' Γ' L' fs _ c' f' xd q => he cls fs L' q d H' xd c' f'⟩⟩ _ ⟨?_, ?_, ?_, ?_⟩⟩
    · rintro Z' σ' H' Γ' L' ok' f' ⟨L2, le, q⟩
      exact hq .non L2 q .non H' .non (ok'.con.le le) (f'.leR le)
    · rintro Z' v d H' L' rv c' f' ⟨L2, le, q⟩
      exact hq d L2 q v H' rv (c'.le le) (f'.leR le)
    · rintro _ _ _ _ _ _ _ z
      exact z.elim
    · rintro _ _ _ _ _ _ _ z
      exact z.elim
  exact (G.raw hb .nil).imp fun vs H Q E h => by rw [List.append_nil]; exact h
end DL
namespace DL
open PySem PySem.Spec PyProof.Rows L2
/-- as fnA, the raw form -/
theorem fnAok {P : Program} {w : World} {K : PySem.W.Frag} {mg : Str → Option Value} {base : Heap} {x qual : Str} {st : Stmt} {f : Addr} {fd : FuncData} {N ps : List Str} {k : Nat} {sp : SpA} (F : Fun K x qual st f fd) (S : FnScope N ps (defScope st))
    (len : ∀ ds L Q R, sp ds L Q R → ds.length = ps.length)
    (hbody : ∀ (cdv : Value) (A : Around) (outer : List Env) (s : Shared) (H : Hp) (E : XK) (ds : List D) (L : Lp) (Q : D → Lp → Prop) (R : Value → List (Str × D) → Lp → Prop), Room k (A.deeper (envOfC qual (defScope st) s.heap.objs.size f cdv)) → sp ds L Q R →
      ASs (fctx P w K mg base N qual (defScope st) f cdv A outer s H E S.nd R) (defBody st) (startG N ds) L (endsOf Q)) : FnOk P w K mg base (L2.CX P w) (k + 1) f fd ps (toSp P w K sp) := by
  refine F.okX S (fun vs H Q E ⟨ds, L, Z, Q', R', r, _, h, _⟩ => by rw [r.length]; exact len _ _ _ _ h) fun cdv A outer s H vs Q E hr ⟨ds, L, Z, Q', R', r, c, h, hq, he⟩ => ?_
  refine ⟨_, pss_we, hbody cdv A outer s H E ds L Q' R' hr h _ (L2.start N vs) H ⟨sl_start r, c, ⟨fun cls d σ' H' Γ' L' fs _ c' f' xd q => he cls fs L' q d H' xd c' f'⟩⟩ _ ⟨?_, ?_, ?_, ?_⟩⟩
  · rintro Z' σ' H' Γ' L' ok' f' ⟨L2, le, q⟩
    exact hq .non L2 q .non H' .non (ok'.con.le le) (f'.leR le)
  · rintro Z' v d H' L' rv c' f' ⟨L2, le, q⟩
    exact hq d L2 q v H' rv (c'.le le) (f'.leR le)
  · rintro _ _ _ _ _ _ _ z
    exact z.elim
  · rintro _ _ _ _ _ _ _ z
    exact z.elim
/-- the law's promise at its script -/
theorem law_sp {P : Program} {w : World} {K : PySem.W.Frag} {H : Hp} {a : Addr} {ns : List Int} {sp : SpA} (hO : Only H) (hS : SqL K H a (ns.map V.int)) (h : ∀ Q R, Q (.bl true) (fun _ => none) → sp [.ilst ns] (fun _ => none) Q R) : toSp P w K sp [.ref a] H (fun v _ => v = .bl true) fun _ _ _ => False := by
  refine ⟨[.ilst ns], fun _ => none, fun _ => False, fun d _ => d = .bl true, fun _ _ _ => False, .cons (.ilst ?_) .nil, ⟨fun a o e => (nomatch e), fun a z => z.elim⟩, h _ _ rfl, fun d L' ed v H' rv _ _ => by subst ed; exact rv.blE, fun _ _ _ z => z.elim⟩
  rcases hS with (h1 | ⟨o, h1⟩) | h1
  · rcases hO a with z | ⟨o, xs, z⟩ <;> rw [h1] at z <;> cases z
  · exact .inl ⟨o, h1⟩
  · exact .inr h1
theorem law_cx {P : Program} {w : World} {H : Hp} {s : Shared} {e : Value} {s' : Shared} (z : L2.CX P w [] H s (fun _ _ _ => False) e s') : False := by
  obtain ⟨_, _, _, _, _, _, _, _, _, _, _, _, z⟩ := z
  exact z
end DL
namespace DL
open PySem PySem.Spec PyProof.Rows L2
/-- a def with defaults of which none is used -/
theorem binds_d {K : PySem.W.Frag} {fd : FuncData} {ps : List Str} {T : Addr} {o : Obj} {its : Array Value} {n : Nat} (lT : K.lookup T = some o) (oT : o.data = .seq its n)
    (h : ∀ us : List Value, us.length = ps.length → ∃ k, bindArgs fd ⟨us, []⟩ = seqItems? (.ref T) >>= k ∧ k (some its) = pure (ps.zip us)) : Binds K fd ps [] := fun s us X hl => by
  rw [List.append_nil] at hl ⊢
  obtain ⟨k, e1, e2⟩ := h us hl
  refine BindsTo.of_looks fun M => ?_
  rw [e1]
  exact looks_items X lT oT (.of_pure e2)
end DL
namespace DL
open PySem PySem.Spec PyProof.Rows L2
/-! ### late choice: which rule of an operator applies is told behind its operands -/
theorem orO {X : Cx} {f : Value → Value → Sem Value} {r r' : R2} (h : OpR X f r) (h' : OpR X f r') : OpR X f (fun x y H Q => r x y H Q ∨ r' x y H Q) := fun pins s σ H x y v u Q I rx ry q =>
  q.elim (h pins s σ H x y v u Q I rx ry) (h' pins s σ H x y v u Q I rx ry)
theorem orC {X : Cx} {f : Value} {r r' : List V → Hp → VK → Prop} (h : CallR X f r) (h' : CallR X f r') : CallR X f (fun xs H Q => r xs H Q ∨ r' xs H Q) := fun pins s σ H xs us Q I rx q =>
  q.elim (h pins s σ H xs us Q I rx) (h' pins s σ H xs us Q I rx)
theorem ix_dT {X : Cx} (hu : X.A.units + 1 < cLine) : IxR X rGetDT := fun value slice pins s σ H x y v u Q I rx ry h hs => by
  obtain ⟨a, w, ex, g, q⟩ := h
  subst ex
  obtain rfl : v = Value.ref a := rx
  exact tail_any (dict_typeIs I g) PySem.F.slot_dict_getitem.lookup (d_getItem hu I g ry fun w' s3 I3 rw' => ⟨w, H, I3, rw', q⟩) hs
section
variable {C : Ctx} {Γ : Gm} {L : Lp} {e a b c o : Expr} {es : List Expr} {pos : Pos} {st : Stmt} {sts : List Stmt} {E : AEnds} {Q : D → Lp → Prop} {x y : D} {r r' : R2}
theorem L2R.le (h : L2R C r x y L Q) : L2R C (fun x y H Q => r x y H Q ∨ r' x y H Q) x y L Q := fun F vx vy H c rx ry QV go => .inl (h F vx vy H c rx ry QV go)
theorem L2R.ri (h : L2R C r' x y L Q) : L2R C (fun x y H Q => r x y H Q ∨ r' x y H Q) x y L Q := fun F vx vy H c rx ry QV go => .inr (h F vx vy H c rx ry QV go)
theorem LcR.le {r r' : List V → Hp → VK → Prop} {xs : List D} (h : LcR C r xs L Q) : LcR C (fun xs H Q => r xs H Q ∨ r' xs H Q) xs L Q := fun F vs H c rx QV go => .inl (h F vs H c rx QV go)
theorem LcR.ri {r r' : List V → Hp → VK → Prop} {xs : List D} (h : LcR C r' xs L Q) : LcR C (fun xs H Q => r xs H Q ∨ r' xs H Q) xs L Q := fun F vs H c rx QV go => .inr (h F vs H c rx QV go)

/-! a + b -/
@[irreducible] def rAddA (K : PySem.W.Frag) : R2 := fun x y H Q => rI0 (fun i j => .int (i + j)) x y H Q ∨ (fun x y H Q => rAddS x y H Q ∨ (fun x y H Q => rCatA K x y H Q ∨ rCat x y H Q) x y H Q) x y H Q
theorem op_addA {X : Cx} : OpR X (binaryOp .Add) (rAddA X.K) := by
  unfold rAddA
  exact orO op_add (orO op_add_str (orO op_catA op_cat))
theorem add_I {i j : Int} (q : Q (.int (i + j)) L) : L2R C (rAddA C.X.K) (.int i) (.int j) L Q := by
  unfold rAddA
  exact .le (r_add q)
theorem add_S {i j : Str} (q : Q (.str (i ++ j)) L) (h : i.length + j.length ≤ sizeLine) : L2R C (rAddA C.X.K) (.str i) (.str j) L Q := by
  unfold rAddA
  exact .ri (.le (r_addS h q))
theorem add_T {xs ys : List D} (q : Q (.tup (xs ++ ys)) L) (h : xs.length + ys.length ≤ sizeLine) : L2R C (rAddA C.X.K) (.tup xs) (.tup ys) L Q := by
  unfold rAddA
  exact .ri (.ri (.le (r_catT h q)))
theorem add_L {p z : Addr} {xs ys : List D} (hp : L p = some (.lst xs)) (hz : L z = some (.lst ys)) (q : ∀ l, L l = none → Q (.ptr l) (put L l (.lst (xs ++ ys)))) (h : xs.length + ys.length ≤ sizeLine) : L2R C (rAddA C.X.K) (.ptr p) (.ptr z) L Q := by
  unfold rAddA
  exact .ri (.ri (.ri fun F vx vy H c rx ry QV go => by
  obtain ⟨vs, ha, ra, _⟩ := c.at_ p _ hp
  obtain ⟨ws, hb, rb, _⟩ := c.at_ z _ hz
  refine ⟨p, z, vs, ws, rx.ptrE, ry.ptrE, ha, hb, by rw [ra.length, rb.length]; exact h, fun l hl => ?_⟩
  exact go _ _ _ (put L l (.lst (xs ++ ys))) (.ptr l) (c.newL hl ⟨_, upd_same, (ra.append rb).mono (.new hl), by rw [List.length_append]; exact h⟩) (.newL hl) (q l (c.free hl))))
/-! a - b, a * b, .. of ints; text * n -/
@[irreducible] def rMulA : R2 := fun x y H Q => rI CMul (fun i j => .int (i * j)) x y H Q ∨ rMulS x y H Q
theorem op_mulA {X : Cx} : OpR X (binaryOp .Mult) rMulA := by
  unfold rMulA
  exact orO op_mul op_mulS
theorem mul_I {i j : Int} (q : Q (.int (i * j)) L) (h : CMul i j) : L2R C rMulA (.int i) (.int j) L Q := by
  unfold rMulA
  exact .le (r_mul h q)
theorem mul_S {z : Str} {n : Int} (q : Q (.str (repS z n.toNat)) L) (h0 : 0 ≤ n) (h1 : n ≤ 1000000) (hz : z.length * n.toNat ≤ 1000000) : L2R C rMulA (.str z) (.int n) L Q := by
  unfold rMulA
  exact .ri (r_mulS h0 h1 hz q)

/-! ### plain data: of texts, ints, None and tuples alone; equality -/
mutual
def plD : D → Bool
  | .non => true
  | .int _ => true
  | .str _ => true
  | .tup ds => plDs ds
  | _ => false
def plDs : List D → Bool
  | [] => true
  | d :: ds => plD d && plDs ds
end
mutual
theorem plD_ok : ∀ d : D, plD d = true → okD d = true
  | .non, _ => by rw [okD]
  | .int _, _ => by rw [okD]
  | .str _, _ => by rw [okD]
  | .tup ds, h => by rw [plD] at h; rw [okD]; exact plDs_ok ds h
  | .bl _, h => by simp [plD] at h
  | .ty _, h => by simp [plD] at h
  | .ptr _, h => by simp [plD] at h
  | .ilst _, h => by simp [plD] at h
  | .obj _ _, h => by simp [plD] at h
  | .flst _, h => by simp [plD] at h
  | .fdct _, h => by simp [plD] at h
  | .kdct _, h => by simp [plD] at h
theorem plDs_ok : ∀ ds : List D, plDs ds = true → okDs ds = true
  | [], _ => by rw [okDs]
  | d :: ds, h => by
    rw [plDs, Bool.and_eq_true] at h
    rw [okDs, plD_ok d h.1, plDs_ok ds h.2]
    rfl
end
theorem plDs_map {α : Type} (f : α → D) : ∀ xs : List α, (∀ x ∈ xs, plD (f x) = true) → plDs (xs.map f) = true
  | [], _ => by rw [List.map_nil, plDs]
  | x :: xs, h => by rw [List.map_cons, plDs, h x List.mem_cons_self, plDs_map f xs fun y hy => h y (List.mem_cons_of_mem _ hy)]; rfl
end
end DL
namespace DL
open PySem PySem.Spec PyProof.Rows L2
mutual
theorem eqv_pl : ∀ (x y : D), plD x = true → plD y = true → PyData.eqv (py x) (py y) = true → x = y
  | .non, .non, _, _, _ => rfl
  | .int i, .int j, _, _, h => by
    rw [py, py, PyData.eqv] at h
    rw [eq_of_beq h]
  | .str x, .str y, _, _, h => by
    rw [py, py, PyData.eqv] at h
    rw [eq_of_beq h]
  | .tup xs, .tup ys, hx, hy, h => by
    rw [plD] at hx hy
    rw [py, py, PyData.eqv] at h
    rw [eqvs_pl xs ys hx hy h]
  | .non, .int _, _, _, h => by simp [py, PyData.eqv] at h
  | .non, .str _, _, _, h => by simp [py, PyData.eqv] at h
  | .non, .tup _, _, _, h => by simp [py, PyData.eqv] at h
  | .int _, .non, _, _, h => by simp [py, PyData.eqv] at h
  | .int _, .str _, _, _, h => by simp [py, PyData.eqv] at h
  | .int _, .tup _, _, _, h => by simp [py, PyData.eqv] at h
  | .str _, .non, _, _, h => by simp [py, PyData.eqv] at h
  | .str _, .int _, _, _, h => by simp [py, PyData.eqv] at h
  | .str _, .tup _, _, _, h => by simp [py, PyData.eqv] at h
  | .tup _, .non, _, _, h => by simp [py, PyData.eqv] at h
  | .tup _, .int _, _, _, h => by simp [py, PyData.eqv] at h
  | .tup _, .str _, _, _, h => by simp [py, PyData.eqv] at h
  | .bl _, _, hx, _, _ => by simp [plD] at hx
  | .ty _, _, hx, _, _ => by simp [plD] at hx
  | .ptr _, _, hx, _, _ => by simp [plD] at hx
  | .ilst _, _, hx, _, _ => by simp [plD] at hx
  | .obj _ _, _, hx, _, _ => by simp [plD] at hx
  | .flst _, _, hx, _, _ => by simp [plD] at hx
  | .fdct _, _, hx, _, _ => by simp [plD] at hx
  | .kdct _, _, hx, _, _ => by simp [plD] at hx
  | _, .bl _, _, hy, _ => by simp [plD] at hy
  | _, .ty _, _, hy, _ => by simp [plD] at hy
  | _, .ptr _, _, hy, _ => by simp [plD] at hy
  | _, .ilst _, _, hy, _ => by simp [plD] at hy
  | _, .obj _ _, _, hy, _ => by simp [plD] at hy
  | _, .flst _, _, hy, _ => by simp [plD] at hy
  | _, .fdct _, _, hy, _ => by simp [plD] at hy
  | _, .kdct _, _, hy, _ => by simp [plD] at hy
theorem eqvs_pl : ∀ (xs ys : List D), plDs xs = true → plDs ys = true → PyData.eqvAll (pys xs) (pys ys) = true → xs = ys
  | [], [], _, _, _ => rfl
  | x :: xs, y :: ys, hx, hy, h => by
    rw [plDs, Bool.and_eq_true] at hx hy
    rw [pys, pys, PyData.eqvAll, Bool.and_eq_true] at h
    rw [eqv_pl x y hx.1 hy.1 h.1, eqvs_pl xs ys hx.2 hy.2 h.2]
  | [], _ :: _, _, _, h => by simp [pys, PyData.eqvAll] at h
  | _ :: _, [], _, _, h => by simp [pys, PyData.eqvAll] at h
end
mutual
theorem eqv_rf : ∀ (x : D), plD x = true → PyData.eqv (py x) (py x) = true
  | .non, _ => by rw [py, PyData.eqv]
  | .int i, _ => by rw [py, PyData.eqv]; exact beq_self_eq_true i
  | .str x, _ => by rw [py, PyData.eqv]; exact beq_self_eq_true x
  | .tup xs, hx => by
    rw [plD] at hx
    rw [py, PyData.eqv]
    exact eqvs_rf xs hx
  | .bl _, hx => by simp [plD] at hx
  | .ty _, hx => by simp [plD] at hx
  | .ptr _, hx => by simp [plD] at hx
  | .ilst _, hx => by simp [plD] at hx
  | .obj _ _, hx => by simp [plD] at hx
  | .flst _, hx => by simp [plD] at hx
  | .fdct _, hx => by simp [plD] at hx
  | .kdct _, hx => by simp [plD] at hx
theorem eqvs_rf : ∀ (xs : List D), plDs xs = true → PyData.eqvAll (pys xs) (pys xs) = true
  | [], _ => by rw [pys, PyData.eqvAll]
  | x :: xs, hx => by
    rw [plDs, Bool.and_eq_true] at hx
    rw [pys, PyData.eqvAll, eqv_rf x hx.1, eqvs_rf xs hx.2]
    rfl
end
theorem eqv_iff {x y : D} (hx : plD x = true) (hy : plD y = true) : PyData.eqv (py x) (py y) = true ↔ x = y := ⟨eqv_pl x y hx hy, fun e => by subst e; exact eqv_rf x hx⟩
/-! ### kinds of plain data -/
class Enc (α : Type) where
  enc : α → D
  pl : ∀ x, plD (enc x) = true
  inj : ∀ x y, enc x = enc y → x = y
  dep : Nat
  dpt : ∀ x, (py (enc x)).depth ≤ dep
open Enc
instance : Enc Str := ⟨.str, fun _ => by rw [plD], fun _ _ h => D.str.inj h, 1, fun _ => by rw [py, PyData.depth]; decide⟩
instance : Enc Int := ⟨.int, fun _ => by rw [plD], fun _ _ h => D.int.inj h, 1, fun _ => by rw [py, PyData.depth]; decide⟩
instance : Enc Nat := ⟨fun n => .int n, fun _ => by rw [plD], fun _ _ h => Int.ofNat.inj (D.int.inj h), 1, fun _ => by rw [py, PyData.depth]; decide⟩
theorem depAll {ds : List PyData} {n : Nat} (h : ∀ d ∈ ds, d.depth ≤ n) : (PyData.tuple ds).depth ≤ n + 1 := by
  have key : ∀ ds : List PyData, (∀ d ∈ ds, d.depth ≤ n) → PyData.depthAll ds ≤ n := by
    intro ds
    induction ds with
    | nil => intro _; rw [PyData.depthAll]; exact Nat.zero_le _
    | cons d ds ih =>
      intro h
      rw [PyData.depthAll]
      exact Nat.max_le.mpr ⟨h d List.mem_cons_self, ih fun x hx => h x (List.mem_cons_of_mem _ hx)⟩
  rw [PyData.depth]
  have := key ds h
  omega
theorem map_encinj {α : Type} [Enc α] : ∀ xs ys : List α, xs.map (enc (α := α)) = ys.map enc → xs = ys
  | [], [], _ => rfl
  | x :: xs, y :: ys, h => by
    rw [List.map_cons, List.map_cons] at h
    injection h with h1 h2
    rw [inj x y h1, map_encinj xs ys h2]
  | [], _ :: _, h => by cases h
  | _ :: _, [], h => by cases h
instance encL {α : Type} [Enc α] : Enc (List α) := ⟨fun xs => .tup (xs.map enc), fun xs => by rw [plD]; exact plDs_map _ _ fun x _ => pl x, fun xs ys h => map_encinj xs ys (D.tup.inj h), dep α + 1, fun xs => by
  rw [py, pys_map]
  refine depAll fun d hd => ?_
  obtain ⟨x, _, rfl⟩ := List.mem_map.mp hd
  exact dpt x⟩
instance encP {α β : Type} [Enc α] [Enc β] : Enc (α × β) := ⟨fun p => .tup [enc p.1, enc p.2], fun p => by rw [plD, plDs, plDs, plDs, pl, pl]; rfl, fun p q h => by
  have h := D.tup.inj h
  injection h with h1 h2
  injection h2 with h2 _
  exact Prod.ext (inj _ _ h1) (inj _ _ h2), max (dep α) (dep β) + 1, fun p => by
  rw [py, pys, pys, pys]
  refine depAll fun d hd => ?_
  rcases List.mem_cons.mp hd with e | hd
  · rw [e]; exact Nat.le_trans (dpt _) (Nat.le_max_left _ _)
  · rw [List.mem_singleton.mp hd]; exact Nat.le_trans (dpt _) (Nat.le_max_right _ _)⟩
/-- three beside one another -/
structure T3 (α β γ : Type) where
  a : α
  b : β
  c : γ
instance encT {α β γ : Type} [Enc α] [Enc β] [Enc γ] : Enc (T3 α β γ) := ⟨fun p => .tup [enc p.a, enc p.b, enc p.c], fun p => by rw [plD, plDs, plDs, plDs, plDs, pl, pl, pl]; rfl, fun p q h => by
  have h := D.tup.inj h
  injection h with h1 h2
  injection h2 with h2 h3
  injection h3 with h3 _
  cases p
  cases q
  congr 1
  · exact inj _ _ h1
  · exact inj _ _ h2
  · exact inj _ _ h3, max (dep α) (max (dep β) (dep γ)) + 1, fun p => by
  rw [py, pys, pys, pys, pys]
  refine depAll fun d hd => ?_
  rcases List.mem_cons.mp hd with e | hd
  · rw [e]; exact Nat.le_trans (dpt _) (Nat.le_max_left _ _)
  · rcases List.mem_cons.mp hd with e | hd
    · rw [e]; exact Nat.le_trans (dpt _) (Nat.le_trans (Nat.le_max_left _ _) (Nat.le_max_right _ _))
    · rw [List.mem_singleton.mp hd]; exact Nat.le_trans (dpt _) (Nat.le_trans (Nat.le_max_right _ _) (Nat.le_max_right _ _))⟩
theorem enc_ok {α : Type} [Enc α] (x : α) : okD (enc x) = true := plD_ok _ (pl x)
theorem eqv_enc {α : Type} [Enc α] (x y : α) : PyData.eqv (py (enc x)) (py (enc y)) = true ↔ x = y := (eqv_iff (pl x) (pl y)).trans ⟨inj x y, fun e => by rw [e]⟩

theorem eqv_dec {α : Type} [Enc α] [DecidableEq α] (x y : α) : PyData.eqv (py (enc x)) (py (enc y)) = decide (x = y) := by
  by_cases h : x = y
  · rw [decide_eq_true h]; exact (eqv_enc x y).mpr h
  · rw [decide_eq_false h]
    cases e : PyData.eqv (py (enc x)) (py (enc y)) with
    | false => rfl
    | true => exact absurd ((eqv_enc x y).mp e) h
section
variable {C : Ctx} {Γ : Gm} {L : Lp} {Q : D → Lp → Prop} {x y : D}
@[irreducible] def rEqA (K : PySem.W.Frag) : R2 := fun x y H Q => rEq x y H Q ∨ rEqD K x y H Q
theorem op_eqA {X : Cx} (hu : X.A.units + 64 < cLine) : OpR X (compareOp .Eq) (rEqA X.K) := by
  unfold rEqA
  exact orO op_eq (op_eqD hu)
@[irreducible] def rNeA (K : PySem.W.Frag) : R2 := fun x y H Q => rNe x y H Q ∨ rNeD K x y H Q
theorem op_neA {X : Cx} (hu : X.A.units + 64 < cLine) : OpR X (compareOp .NotEq) (rNeA X.K) := by
  unfold rNeA
  exact orO op_ne (op_neD hu)
theorem eq_I {i j : Int} (q : Q (.bl (decide (i = j))) L) : L2R C (rEqA C.X.K) (.int i) (.int j) L Q := by
  unfold rEqA
  exact .le (r_eqI q)
theorem ne_I {i j : Int} (q : Q (.bl (!decide (i = j))) L) : L2R C (rNeA C.X.K) (.int i) (.int j) L Q := by
  unfold rNeA
  exact .le (r_neI q)
theorem eq_S {i j : Str} (q : Q (.bl (decide (i = j))) L) : L2R C (rEqA C.X.K) (.str i) (.str j) L Q := by
  unfold rEqA
  exact .le (r_eqS q)
theorem ne_S {i j : Str} (q : Q (.bl (!decide (i = j))) L) : L2R C (rNeA C.X.K) (.str i) (.str j) L Q := by
  unfold rNeA
  exact .le (r_neS q)
theorem eq_D (hx : okD x = true) (hy : okD y = true) (dx : (py x).depth ≤ 64) (dy : (py y).depth ≤ 64) (q : Q (.bl (PyData.eqv (py x) (py y))) L) : L2R C (rEqA C.X.K) x y L Q := by
  unfold rEqA
  exact .ri (r_eqD hx hy dx dy q)
theorem ne_D (hx : okD x = true) (hy : okD y = true) (dx : (py x).depth ≤ 64) (dy : (py y).depth ≤ 64) (q : Q (.bl (!PyData.eqv (py x) (py y))) L) : L2R C (rNeA C.X.K) x y L Q := by
  unfold rNeA
  exact .ri (r_neD hx hy dx dy q)
theorem eq_self (hx : okD x = true) (dx : (py x).depth ≤ 64) (q : Q (.bl true) L) : L2R C (rEqA C.X.K) x x L Q := by
  unfold rEqA
  exact .ri (r_eqSame hx dx q)
theorem ne_self (hx : okD x = true) (dx : (py x).depth ≤ 64) (q : Q (.bl false) L) : L2R C (rNeA C.X.K) x x L Q := by
  unfold rNeA
  exact .ri (r_neSame hx dx q)

theorem eq_E {α : Type} [Enc α] [DecidableEq α] {x y : α} (q : Q (.bl (decide (x = y))) L) (h : dep α ≤ 64 := by decide) : L2R C (rEqA C.X.K) (enc x) (enc y) L Q := by
  exact eq_D (enc_ok x) (enc_ok y) (Nat.le_trans (dpt x) h) (Nat.le_trans (dpt y) h) (by rw [eqv_dec]; exact q)

theorem ne_E {α : Type} [Enc α] [DecidableEq α] {x y : α} (q : Q (.bl (!decide (x = y))) L) (h : dep α ≤ 64 := by decide) : L2R C (rNeA C.X.K) (enc x) (enc y) L Q := by
  exact ne_D (enc_ok x) (enc_ok y) (Nat.le_trans (dpt x) h) (Nat.le_trans (dpt y) h) (by rw [eqv_dec]; exact q)
end
end DL
namespace DL
open PySem PySem.Spec PyProof.Rows L2
section
variable {C : Ctx} {Γ : Gm} {L : Lp} {e a b c o tg iter elt : Expr} {es : List Expr} {pos p p1 p2 : Pos} {st : Stmt} {sts : List Stmt} {E : AEnds} {Q : D → Lp → Prop} {x y : D}
/-! ### a < b -/
@[irreducible] def rLtA (K : PySem.W.Frag) : R2 := fun x y H Q => rI0 (fun i j => .bl (decide (i < j))) x y H Q ∨ (fun x y H Q => rLtS x y H Q ∨ rLtD K x y H Q) x y H Q
theorem op_ltA {X : Cx} (hu : X.A.units + 64 < cLine) : OpR X (compareOp .Lt) (rLtA X.K) := by
  unfold rLtA
  exact orO op_lt (orO op_lt_str (op_ltD hu))
theorem lt_I {i j : Int} (q : Q (.bl (decide (i < j))) L) : L2R C (rLtA C.X.K) (.int i) (.int j) L Q := by
  unfold rLtA
  exact .le (r_lt q)
theorem lt_S {i j : Str} (q : Q (.bl (decide (i.cps.toList < j.cps.toList))) L) : L2R C (rLtA C.X.K) (.str i) (.str j) L Q := by
  unfold rLtA
  exact .ri (.le (r_ltS q))
theorem lt_D (hx : okD x = true) (hy : okD y = true) (hal : PySem.W.alike (py x) (py y) = true) (hn : py x ≠ .none) (dx : (py x).depth ≤ 64) (q : Q (.bl (PySem.W.dataLt (py x) (py y))) L) : L2R C (rLtA C.X.K) x y L Q := by
  unfold rLtA
  exact .ri (.ri (r_ltD hx hy hal hn dx q))
/-! ### x is None -/
abbrev rIsN : R2 := fun x y H Q => y = .non ∧ Q (.bl (decide (x = .non))) H
def isN : D → Bool
  | .non => true
  | _ => false
theorem is_N (q : Q (.bl (isN x)) L) : L2R C rIsN x .non L Q := fun F vx vy H c rx ry QV go => by
  refine ⟨ry.nonE, ?_⟩
  have e : decide (vx = V.non) = isN x := by
    cases rx <;> simp [isN]
  rw [e]
  exact go _ _ H L (.bl _) c (.refl L H) q
theorem not_N (q : Q (.bl (!isN x)) L) : L2R C rNotN x .non L Q := fun F vx vy H c rx ry QV go => by
  refine ⟨ry.nonE, ?_⟩
  have e : (!decide (vx = V.non)) = !isN x := by
    cases rx <;> simp [isN]
  rw [e]
  exact go _ _ H L (.bl _) c (.refl L H) q
/-! ### x[i] -/
@[irreducible] def rIxA (K : PySem.W.Frag) : R2 := fun x y H Q => rIxT K x y H Q ∨ (fun x y H Q => rIxL K x y H Q ∨ (fun x y H Q => rIxS x y H Q ∨ rGetDT x y H Q) x y H Q) x y H Q
theorem ix_A {X : Cx} (hu : X.A.units + 1 < cLine) : IxR X (rIxA X.K) := by
  unfold rIxA
  exact ix_tup.or (ix_list.or (ix_str.or (ix_dT hu)))
theorem ixa_T {xs : List D} {i : Int} {d : D} (q : Q d L) (h : atI xs i = some d) : L2R C (rIxA C.X.K) (.tup xs) (.int i) L Q := by
  unfold rIxA
  exact .le (r_ixT h q)
theorem ixa_L {p : Addr} {xs : List D} {i : Int} {d : D} (hp : L p = some (.lst xs)) (q : Q d L) (h : atI xs i = some d) : L2R C (rIxA C.X.K) (.ptr p) (.int i) L Q := by
  unfold rIxA
  exact .ri (.le (r_ixL hp h q))
theorem ixa_N {ns : List Int} {i k : Int} (q : Q (.int k) L) (h : atI ns i = some k) : L2R C (rIxA C.X.K) (.ilst ns) (.int i) L Q := by
  unfold rIxA
  exact .ri (.le (r_ixN h q))
theorem ixa_S {z : Str} {i : Int} {k : Nat} (q : Q (.str ⟨#[k]⟩) L) (h : atI z.cps.toList i = some k) : L2R C (rIxA C.X.K) (.str z) (.int i) L Q := by
  unfold rIxA
  exact .ri (.ri (.le (r_ixS h q)))
theorem ixa_D {p : Addr} {kds : List (List Key × D)} {k : List Key} {d : D} (hp : L p = some (.dct kds)) (q : Q d L) (hv : valD kds k = some d) : L2R C (rIxA C.X.K) (.ptr p) (kD k) L Q := by
  unfold rIxA
  exact .ri (.ri (.ri fun F vx vy H c rx ry QV go => by
  obtain ⟨kvs, ha, ra, _⟩ := c.at_ p _ hp
  obtain ⟨t, rfl, ht⟩ := kD_at ry
  rcases KDs.val ra k with ⟨_, e2⟩ | ⟨v, d', e1, e2, rv⟩
  · rw [hv] at e2
    cases e2
  · rw [hv] at e2
    cases e2
    exact ⟨p, v, rx.ptrE, e1 ▸ DGet.t ha ht, go _ _ H L rv c (.refl L H) q⟩))
/-! ### x[i:j] -/
@[irreducible] def rSlAA (K : PySem.W.Frag) : V → Option Int → Option Int → Hp → VK → Prop := fun x lo hi H Q => rSlA K x lo hi H Q ∨ (fun x lo hi H Q => rSlL K x lo hi H Q ∨ rSlS x lo hi H Q) x lo hi H Q
theorem sl_A {X : Cx} : SlR X (rSlAA X.K) := by
  unfold rSlAA
  exact sl_tupA.or (sl_list.or sl_str)
theorem sla_T {xs : List D} {lo hi : Option Int} (q : Q (.tup (cut xs lo hi)) L) : LsR C (rSlAA C.X.K) (.tup xs) lo hi L Q := by
  unfold rSlAA
  exact fun F v H c r QV go => .inl (s_tup q F v H c r QV go)
theorem sla_L {p : Addr} {xs : List D} {lo hi : Option Int} (hp : L p = some (.lst xs)) (q : ∀ l, L l = none → Q (.ptr l) (put L l (.lst (cut xs lo hi)))) : LsR C (rSlAA C.X.K) (.ptr p) lo hi L Q := by
  unfold rSlAA
  exact fun F v H c r QV go => .inr (.inl (s_lst hp q F v H c r QV go))
theorem sla_S {z : Str} {lo hi : Option Int} (q : Q (.str (cutS z lo hi)) L) : LsR C (rSlAA C.X.K) (.str z) lo hi L Q := by
  unfold rSlAA
  exact fun F v H c r QV go => .inr (.inr (s_str q F v H c r QV go))
/-! ### ints: <=, >, >=, - -/
@[irreducible] def rLeA : R2 := rI0 fun i j => .bl (decide (i ≤ j))
theorem op_leA {X : Cx} : OpR X (compareOp .LtE) rLeA := by
  unfold rLeA
  exact op_le
theorem le_I {i j : Int} (q : Q (.bl (decide (i ≤ j))) L) : L2R C rLeA (.int i) (.int j) L Q := by
  unfold rLeA
  exact r_le q
@[irreducible] def rGtA : R2 := rI0 fun i j => .bl (decide (j < i))
theorem op_gtA {X : Cx} : OpR X (compareOp .Gt) rGtA := by
  unfold rGtA
  exact op_gt
theorem gt_I {i j : Int} (q : Q (.bl (decide (j < i))) L) : L2R C rGtA (.int i) (.int j) L Q := by
  unfold rGtA
  exact r_gt q
@[irreducible] def rGeA : R2 := rI0 fun i j => .bl (decide (j ≤ i))
theorem op_geA {X : Cx} : OpR X (compareOp .GtE) rGeA := by
  unfold rGeA
  exact op_ge
theorem ge_I {i j : Int} (q : Q (.bl (decide (j ≤ i))) L) : L2R C rGeA (.int i) (.int j) L Q := by
  unfold rGeA
  exact r_ge q
@[irreducible] def rSubA : R2 := rI0 fun i j => .int (i - j)
theorem op_subA {X : Cx} : OpR X (binaryOp .Sub) rSubA := by
  unfold rSubA
  exact op_sub
theorem sub_I {i j : Int} (q : Q (.int (i - j)) L) : L2R C rSubA (.int i) (.int j) L Q := by
  unfold rSubA
  exact r_sub q
@[irreducible] def rModA : R2 := rI (fun _ j => 0 < j) fun i j => .int (i % j)
theorem op_modA {X : Cx} : OpR X (binaryOp .Mod) rModA := by
  unfold rModA
  exact op_mod
theorem mod_I {i j : Int} (q : Q (.int (i % j)) L) (h : 0 < j) : L2R C rModA (.int i) (.int j) L Q := by
  unfold rModA
  exact r_mod h q
@[irreducible] def rDivA : R2 := rI CDiv fun i j => .int (i / j)
theorem op_divA {X : Cx} : OpR X (binaryOp .FloorDiv) rDivA := by
  unfold rDivA
  exact op_fdiv
theorem div_I {i j : Int} (q : Q (.int (i / j)) L) (h : CDiv i j) : L2R C rDivA (.int i) (.int j) L Q := by
  unfold rDivA
  exact r_fdiv h q
@[irreducible] def rIsA : R2 := rIsN
theorem op_isA {X : Cx} : OpR X (compareOp .Is) rIsA := by
  unfold rIsA
  exact op_isN
theorem isa_N (q : Q (.bl (isN x)) L) : L2R C rIsA x .non L Q := by
  unfold rIsA
  exact is_N q
@[irreducible] def rIsNotA : R2 := rNotN
theorem op_isNotA {X : Cx} : OpR X (compareOp .IsNot) rIsNotA := by
  unfold rIsNotA
  exact op_notN
theorem isnota_N (q : Q (.bl (!isN x)) L) : L2R C rIsNotA x .non L Q := by
  unfold rIsNotA
  exact not_N q
/-! ### len(x) -/
@[irreducible] def rLenA (K : PySem.W.Frag) : List V → Hp → VK → Prop := fun xs H Q => rLenQ K xs H Q ∨ (fun xs H Q => rLenSt xs H Q ∨ rLenD xs H Q) xs H Q
theorem call_lenA {X : Cx} : CallR X (.builtin "len") (rLenA X.K) := by
  unfold rLenA
  exact orC call_len_seq (orC call_len_str call_lenD)
end
end DL
namespace DL
open PySem PySem.Spec PyProof.Rows L2
/-! ### the plain things: words, texts, cells, rules -/
abbrev Wd := Str
abbrev Cell := List Wd
abbrev Rl := List (List Wd × List Cell)
def dW (ws : List Wd) : D := .tup (ws.map .str)
def dC (cs : List Cell) : D := .tup (cs.map dW)
def dRu (r : List Wd × List Cell) : D := .tup [dW r.1, dC r.2]
def dR (rs : Rl) : D := .tup (rs.map dRu)
def kS (ws : List Wd) : List Key := ws.map .inr
def tbl (rs : Rl) : List (List Key × D) := rs.map fun r => (kS r.1, dC r.2)
theorem kD_kS (ws : List Wd) : kD (kS ws) = dW ws := by
  unfold kD kS dW
  rw [List.map_map]
  rfl
theorem kS_inj {a b : List Wd} (h : kS a = kS b) : a = b := by
  unfold kS at h
  exact (List.map_inj_right fun x y e => Sum.inr.inj e).mp h
theorem cut_nn {α : Type} (xs : List α) (a b : Nat) : cut xs (some (a : Int)) (some (b : Int)) = (xs.drop a).take (b - a) := by
  unfold cut
  have h1 : HT.sIx xs.length 0 (some (a : Int)) = min a xs.length := by
    unfold HT.sIx
    simp
    omega
  have h2 : HT.sIx xs.length xs.length (some (b : Int)) = min b xs.length := by
    unfold HT.sIx
    simp
    omega
  rw [h1, h2]
  by_cases h : a ≤ xs.length
  · rw [Nat.min_eq_left h]
    apply List.ext_getElem?
    intro i
    simp only [List.getElem?_take, List.getElem?_drop]
    by_cases hb : b ≤ xs.length
    · rw [Nat.min_eq_left hb]
    · rw [Nat.min_eq_right (by omega)]
      by_cases c1 : i < xs.length - a
      · rw [if_pos c1, if_pos (by omega)]
      · rw [if_neg c1]
        split
        · rw [List.getElem?_eq_none (by omega)]
        · rfl
  · have e : min a xs.length = xs.length := Nat.min_eq_right (by omega)
    rw [e, List.drop_eq_nil_of_le (Nat.le_refl _), List.drop_eq_nil_of_le (by omega : xs.length ≤ a)]
    simp
theorem cut_from {α : Type} (xs : List α) (a : Nat) : cut xs (some (a : Int)) none = xs.drop a := by
  have h : cut xs (some (a : Int)) none = cut xs (some (a : Int)) (some (xs.length : Int)) := by
    unfold cut
    have e : HT.sIx xs.length xs.length (some (xs.length : Int)) = xs.length := by
      unfold HT.sIx
      simp
      intro h
      omega
    rw [e]
    rfl
  rw [h, cut_nn]
  apply List.take_of_length_le
  rw [List.length_drop]
  exact Nat.le_refl _
theorem cut_to {α : Type} (xs : List α) (b : Nat) : cut xs none (some (b : Int)) = xs.take b := by
  have h : cut xs none (some (b : Int)) = cut xs (some ((0 : Nat) : Int)) (some (b : Int)) := by
    unfold cut HT.sIx
    simp
  rw [h, cut_nn]
  simp
/-- what the rules say of a key -/
def lk (rs : Rl) (k : List Wd) : Option (List Cell) := (rs.find? fun r => decide (r.1 = k)).map (·.2)
theorem val_tbl (rs : Rl) (k : List Wd) : valD (tbl rs) (kS k) = (lk rs k).map dC := by
  unfold valD tbl lk
  induction rs with
  | nil => rfl
  | cons r rs ih =>
    rw [List.map_cons]
    by_cases e : r.1 = k
    · rw [List.find?_cons_of_pos (by simp [e]), List.find?_cons_of_pos (by simp [e])]
      rfl
    · rw [List.find?_cons_of_neg (by simpa using fun z => e (kS_inj z)), List.find?_cons_of_neg (by simpa using e)]
      exact ih
theorem isSome_tbl (rs : Rl) (k : List Wd) : (valD (tbl rs) (kS k)).isSome = (lk rs k).isSome := by
  rw [val_tbl]
  cases lk rs k <;> rfl
/-- the words that stand at a place, one a cell -/
def wAt (cs : List Cell) (a m : Nat) : Option (List Wd) :=
  if ((cs.drop a).take m).length < m ∨ ((cs.drop a).take m).any (fun c => decide (c.length ≠ 1)) = true then none else some (((cs.drop a).take m).map fun c => c.headD Str.empty)
theorem wAt_len {cs : List Cell} {a m : Nat} {ws : List Wd} (h : wAt cs a m = some ws) : ws.length = m := by
  unfold wAt at h
  split at h
  · cases h
  · rename_i hc
    cases h
    rw [List.length_map]
    have h1 : ((cs.drop a).take m).length ≤ m := by rw [List.length_take]; omega
    have h2 : ¬ ((cs.drop a).take m).length < m := fun z => hc (.inl z)
    omega
def fits (rs : Rl) (cs : List Cell) (a m : Nat) : Bool := match wAt cs a m with | some w => (lk rs w).isSome | none => false
def szAt (rs : Rl) (cs : List Cell) (a : Nat) : Nat := if fits rs cs a 3 then 3 else if fits rs cs a 2 then 2 else if fits rs cs a 1 then 1 else 0
def kAt (rs : Rl) (cs : List Cell) (a : Nat) : List Wd := if szAt rs cs a = 0 then [] else (wAt cs a (szAt rs cs a)).getD []
theorem fits_w {rs : Rl} {cs : List Cell} {a m : Nat} (h : fits rs cs a m = true) : ∃ w z, wAt cs a m = some w ∧ lk rs w = some z := by
  unfold fits at h
  cases e : wAt cs a m with
  | none => rw [e] at h; cases h
  | some w =>
    rw [e] at h
    cases e2 : lk rs w with
    | none => simp [e2] at h
    | some z => exact ⟨w, z, rfl, e2⟩
theorem szAt_fits {rs : Rl} {cs : List Cell} {a : Nat} (h : szAt rs cs a ≠ 0) : fits rs cs a (szAt rs cs a) = true := by
  unfold szAt at h ⊢
  by_cases h3 : fits rs cs a 3 = true
  · rw [if_pos h3]; exact h3
  · rw [if_neg h3] at h ⊢
    by_cases h2 : fits rs cs a 2 = true
    · rw [if_pos h2]; exact h2
    · rw [if_neg h2] at h ⊢
      by_cases h1 : fits rs cs a 1 = true
      · rw [if_pos h1]; exact h1
      · rw [if_neg h1] at h
        exact absurd rfl h
theorem szAt_le (rs : Rl) (cs : List Cell) (a : Nat) : szAt rs cs a ≤ 3 := by
  unfold szAt
  split
  · omega
  · split
    · omega
    · split <;> omega
theorem kAt_some {rs : Rl} {cs : List Cell} {a : Nat} (h : szAt rs cs a ≠ 0) : ∃ z, wAt cs a (szAt rs cs a) = some (kAt rs cs a) ∧ lk rs (kAt rs cs a) = some z ∧ (kAt rs cs a).length = szAt rs cs a := by
  obtain ⟨w, z, h1, h2⟩ := fits_w (szAt_fits h)
  have e : kAt rs cs a = w := by
    unfold kAt
    rw [if_neg h, h1]
    rfl
  rw [e]
  exact ⟨z, h1, h2, wAt_len h1⟩
theorem kAt_none {rs : Rl} {cs : List Cell} {a : Nat} (h : szAt rs cs a = 0) : kAt rs cs a = [] := by
  unfold kAt
  rw [if_pos h]
/-- rewriting from the left, with fuel -/
def rwF (rs : Rl) (cs : List Cell) : Nat → Nat → List Cell
  | 0, _ => []
  | n + 1, a => if a < cs.length then (if szAt rs cs a = 0 then (cs.getD a []) :: rwF rs cs n (a + 1) else (lk rs (kAt rs cs a)).getD [] ++ rwF rs cs n (a + szAt rs cs a)) else []
def rw1 (rs : Rl) (cs : List Cell) : List Cell := rwF rs cs cs.length 0
theorem rwF_end {rs : Rl} {cs : List Cell} {n a : Nat} (h : cs.length ≤ a) : rwF rs cs n a = [] := by
  cases n with
  | zero => rfl
  | succ n =>
    show (if a < cs.length then _ else _) = _
    rw [if_neg (by omega)]
theorem rwF_0 {rs : Rl} {cs : List Cell} {n a : Nat} (h : a < cs.length) (h0 : szAt rs cs a = 0) : rwF rs cs (n + 1) a = cs.getD a [] :: rwF rs cs n (a + 1) := by
  show (if a < cs.length then _ else _) = _
  rw [if_pos h, if_pos h0]
theorem rwF_1 {rs : Rl} {cs : List Cell} {n a : Nat} {z : List Cell} (h : a < cs.length) (h0 : szAt rs cs a ≠ 0) (hz : lk rs (kAt rs cs a) = some z) : rwF rs cs (n + 1) a = z ++ rwF rs cs n (a + szAt rs cs a) := by
  show (if a < cs.length then _ else _) = _
  rw [if_pos h, if_neg h0, hz]
  rfl
theorem lk_mem {rs : Rl} {k : List Wd} {z : List Cell} (h : lk rs k = some z) : (k, z) ∈ rs := by
  unfold lk at h
  cases e : rs.find? (fun r => decide (r.1 = k)) with
  | none => rw [e] at h; cases h
  | some r =>
    rw [e] at h
    cases h
    have h1 := List.find?_some e
    have h2 := List.mem_of_find?_eq_some e
    have : r.1 = k := of_decide_eq_true h1
    rw [← this]
    exact h2
/-- rules of which each writes at most two cells -/
def RL2 (rs : Rl) : Prop := ∀ r ∈ rs, r.2.length ≤ 2
theorem RL2.lk {rs : Rl} (h : RL2 rs) {k : List Wd} {z : List Cell} (e : lk rs k = some z) : z.length ≤ 2 := h _ (lk_mem e)
end DL
namespace DL
open PySem PySem.Spec PyProof.Rows L2
theorem okD_dW (ws : List Wd) : okD (dW ws) = true := by
  unfold dW
  rw [okD]
  exact okDs_map _ _ fun x _ => by rw [okD]
theorem okD_dC (cs : List Cell) : okD (dC cs) = true := by
  unfold dC
  rw [okD]
  exact okDs_map _ _ fun x _ => okD_dW x
theorem okD_dRu (r : List Wd × List Cell) : okD (dRu r) = true := by
  unfold dRu
  rw [okD, okDs, okDs, okDs, okD_dW, okD_dC]
  rfl
theorem okD_dR (rs : Rl) : okD (dR rs) = true := by
  unfold dR
  rw [okD]
  exact okDs_map _ _ fun x _ => okD_dRu x
theorem dep_all {ds : List PyData} {n : Nat} (h : ∀ d ∈ ds, d.depth ≤ n) : (PyData.tuple ds).depth ≤ n + 1 := by
  have key : ∀ ds : List PyData, (∀ d ∈ ds, d.depth ≤ n) → PyData.depthAll ds ≤ n := by
    intro ds
    induction ds with
    | nil => intro _; rw [PyData.depthAll]; exact Nat.zero_le _
    | cons d ds ih =>
      intro h
      rw [PyData.depthAll]
      exact Nat.max_le.mpr ⟨h d List.mem_cons_self, ih fun x hx => h x (List.mem_cons_of_mem _ hx)⟩
  rw [PyData.depth]
  have := key ds h
  omega
theorem dep_dW (ws : List Wd) : (py (dW ws)).depth ≤ 2 := by
  unfold dW
  rw [py, pys_map]
  refine dep_all fun d hd => ?_
  obtain ⟨x, _, rfl⟩ := List.mem_map.mp hd
  rw [py, PyData.depth]
  first | exact Nat.le_refl _ | exact Nat.zero_le _
theorem dep_dC (cs : List Cell) : (py (dC cs)).depth ≤ 3 := by
  unfold dC
  rw [py, pys_map]
  refine dep_all fun d hd => ?_
  obtain ⟨x, _, rfl⟩ := List.mem_map.mp hd
  exact dep_dW x
theorem dep_dRu (r : List Wd × List Cell) : (py (dRu r)).depth ≤ 4 := by
  unfold dRu
  rw [py, pys, pys, pys]
  refine dep_all fun d hd => ?_
  rcases List.mem_cons.mp hd with e | hd
  · rw [e]; exact Nat.le_succ_of_le (dep_dW _)
  · rw [List.mem_singleton] at hd
    rw [hd]
    exact dep_dC _
theorem dep_dR (rs : Rl) : (py (dR rs)).depth ≤ 5 := by
  unfold dR
  rw [py, pys_map]
  refine dep_all fun d hd => ?_
  obtain ⟨x, _, rfl⟩ := List.mem_map.mp hd
  exact dep_dRu x
end DL
namespace DL
open PySem PySem.Spec PyProof.Rows L2
/-- the rules with a rule set -/
def putR (rs : Rl) (k : List Wd) (z : List Cell) : Rl := if rs.any (fun r => decide (r.1 = k)) then rs.map fun r => if r.1 = k then (r.1, z) else r else rs ++ [(k, z)]
theorem any_tbl (rs : Rl) (k : List Wd) : (tbl rs).any (fun kv => decide (kv.1 = kS k)) = rs.any fun r => decide (r.1 = k) := by
  unfold tbl
  rw [List.any_map]
  congr 1
  funext r
  show decide (kS r.1 = kS k) = decide (r.1 = k)
  by_cases e : r.1 = k
  · rw [e, decide_eq_true rfl, decide_eq_true rfl]
  · rw [decide_eq_false e, decide_eq_false fun z => e (kS_inj z)]
theorem put_tbl (rs : Rl) (k : List Wd) (z : List Cell) : putD (tbl rs) (kS k) (dC z) = tbl (putR rs k z) := by
  unfold putD putR
  rw [any_tbl]
  split
  · unfold tbl
    rw [List.map_map, List.map_map]
    refine List.map_congr_left fun r _ => ?_
    show (if kS r.1 = kS k then (kS r.1, dC z) else (kS r.1, dC r.2)) = _
    by_cases e : r.1 = k
    · rw [if_pos (by rw [e])]
      show _ = (kS (if r.1 = k then (r.1, z) else r).1, dC (if r.1 = k then (r.1, z) else r).2)
      rw [if_pos e]
    · rw [if_neg fun q => e (kS_inj q)]
      show _ = (kS (if r.1 = k then (r.1, z) else r).1, dC (if r.1 = k then (r.1, z) else r).2)
      rw [if_neg e]
  · unfold tbl
    rw [List.map_append]
    rfl
section
variable {C : Ctx} {Γ : Gm} {L : Lp} {Q : D → Lp → Prop} {o b : Expr} {pos : Pos}
theorem r_inW {p : D} {rs : Rl} {k : List Wd} (hp : DR L p (tbl rs)) (q : Q (.bl (lk rs k).isSome) L) : L2R C rInDT (dW k) p L Q := by
  rw [← kD_kS]
  refine dr_in hp ?_
  rw [isSome_tbl]
  exact q
theorem r_notInW {p : D} {rs : Rl} {k : List Wd} (hp : DR L p (tbl rs)) (q : Q (.bl (!(lk rs k).isSome)) L) : L2R C rNotInDT (dW k) p L Q := by
  rw [← kD_kS]
  refine dr_notIn hp ?_
  rw [isSome_tbl]
  exact q
theorem ae_getW (hu : C.X.A.units + 1 < cLine) (h : AE C o Γ L fun x L1 => AE C b Γ L1 fun y L2 => ∃ rs k z, y = dW k ∧ DR L2 x (tbl rs) ∧ lk rs k = some z ∧ Q (dC z) L2) (hs : NoSl b := by exact fun _ _ => rfl) : AE C (.Subscript o b pos) Γ L Q :=
  ae_dget hu (h.mono fun x L1 h1 => h1.mono fun y L2 ⟨rs, k, z, ey, hp, hl, q⟩ => ⟨tbl rs, kS k, dC z, by rw [kD_kS]; exact ey, hp, by rw [val_tbl, hl]; rfl, q⟩) hs
theorem w_W {p : Addr} {rs : Rl} {k : List Wd} {z : List Cell} {Q : Lp → Prop} (hp : L p = some (.dct (tbl rs))) (hz : rs.length < sizeLine) (q : Q (put L p (.dct (tbl (putR rs k z))))) : L3R C rPutDT (.ptr p) (dW k) (dC z) L Q := by
  rw [← kD_kS]
  refine w_DT hp (by unfold tbl; rw [List.length_map]; exact hz) ?_
  rw [put_tbl]
  exact q
end
end DL
namespace DL
open PySem PySem.Spec PyProof.Rows L2
def rwAll (rss : List Rl) (cs : List Cell) : List Cell := rss.foldl (fun cs rs => rw1 rs cs) cs
theorem wAt_end {cs : List Cell} {a m : Nat} {ws : List Wd} (h : wAt cs a m = some ws) (hm : 0 < m) : a + m ≤ cs.length := by
  unfold wAt at h
  split at h
  · cases h
  · rename_i hc
    have h2 : ¬ ((cs.drop a).take m).length < m := fun z => hc (.inl z)
    rw [List.length_take, List.length_drop] at h2
    omega
theorem rwF_len {rs : Rl} (hR : RL2 rs) (cs : List Cell) : ∀ n a, (rwF rs cs n a).length ≤ 2 * (cs.length - a)
  | 0, a => Nat.zero_le _
  | n + 1, a => by
    by_cases h : a < cs.length
    · by_cases h0 : szAt rs cs a = 0
      · rw [rwF_0 h h0, List.length_cons]
        have := rwF_len hR cs n (a + 1)
        omega
      · obtain ⟨z, h1, h2, h3⟩ := kAt_some h0
        have h4 := wAt_end h1 (by omega)
        have h5 := hR.lk h2
        rw [rwF_1 h h0 h2, List.length_append]
        have := rwF_len hR cs n (a + szAt rs cs a)
        omega
    · rw [rwF_end (by omega)]
      exact Nat.zero_le _
theorem rw1_len {rs : Rl} (hR : RL2 rs) (cs : List Cell) : (rw1 rs cs).length ≤ 2 * cs.length := by
  have := rwF_len hR cs cs.length 0
  unfold rw1
  omega
theorem rwAll_len : ∀ (rss : List Rl) (cs : List Cell), (∀ rs ∈ rss, RL2 rs) → (rwAll rss cs).length ≤ cs.length * 2 ^ rss.length
  | [], cs, _ => by
    rw [List.length_nil, Nat.pow_zero, Nat.mul_one]
    exact Nat.le_refl _
  | rs :: rss, cs, h => by
    have h1 := rw1_len (h rs List.mem_cons_self) cs
    have h2 := rwAll_len rss (rw1 rs cs) fun r hr => h r (List.mem_cons_of_mem _ hr)
    show (rwAll rss (rw1 rs cs)).length ≤ _
    rw [List.length_cons, Nat.pow_succ]
    have h3 : (rw1 rs cs).length * 2 ^ rss.length ≤ (2 * cs.length) * 2 ^ rss.length := Nat.mul_le_mul_right _ h1
    have h4 : (2 * cs.length) * 2 ^ rss.length = cs.length * (2 ^ rss.length * 2) := by rw [Nat.mul_comm 2, Nat.mul_assoc, Nat.mul_comm 2]
    omega
theorem rwAll_snoc (rss : List Rl) (rs : Rl) (cs : List Cell) : rwAll (rss ++ [rs]) cs = rw1 rs (rwAll rss cs) := by
  unfold rwAll
  rw [List.foldl_append]
  rfl
end DL
namespace DL
open PySem PySem.Spec PyProof.Rows L2
def abc : List Nat := ("abcdefghijklmnopqrstuvwxyz" : Str).cps.toList
/-- a word -/
def wdS (x : Str) : Bool := decide (1 ≤ x.length) && decide (x.length ≤ 8) && x.cps.toList.all fun k => decide (k ∈ abc)
def wdD : D → Bool
  | .str x => wdS x
  | _ => false
def txD : D → Bool
  | .tup ds => ds.all wdD
  | _ => false
theorem txD_dW {d : D} (h : txD d = true) : ∃ ws : List Wd, d = dW ws ∧ ∀ x ∈ ws, wdS x = true := by
  cases d with
  | tup ds =>
    have key : ∀ ds : List D, ds.all wdD = true → ∃ ws : List Wd, ds = ws.map .str ∧ ∀ x ∈ ws, wdS x = true := by
      intro ds
      induction ds with
      | nil => intro _; exact ⟨[], rfl, fun x hx => nomatch hx⟩
      | cons d ds ih =>
        intro h
        rw [List.all_cons, Bool.and_eq_true] at h
        obtain ⟨ws, e, hw⟩ := ih h.2
        cases d with
        | str x =>
          refine ⟨x :: ws, by rw [e]; rfl, fun y hy => ?_⟩
          rcases List.mem_cons.mp hy with z | z
          · rw [z]; exact h.1
          · exact hw y z
        | _ => exact absurd h.1 (by simp [wdD])
    obtain ⟨ws, e, hw⟩ := key ds h
    exact ⟨ws, by rw [e]; rfl, hw⟩
  | _ => simp [txD] at h
theorem txD_of {ws : List Wd} (h : ∀ x ∈ ws, wdS x = true) : txD (dW ws) = true := by
  show (ws.map D.str).all wdD = true
  rw [List.all_map, List.all_eq_true]
  exact h
/-- one behind the other they rise -/
def adj : List Wd → Bool
  | x :: y :: r => decide (x.cps.toList < y.cps.toList) && adj (y :: r)
  | _ => true
theorem adj_rise : ∀ {ws : List Wd}, Rise ws → adj ws = true
  | [], _ => rfl
  | [_], _ => rfl
  | x :: y :: r, h => by
    obtain ⟨h1, h2⟩ := List.pairwise_cons.mp h
    show (decide _ && adj (y :: r)) = true
    rw [adj_rise h2, decide_eq_true (h1 y List.mem_cons_self)]
    rfl
def ltP : D → Bool
  | .tup [.str x, .str y] => decide (x.cps.toList < y.cps.toList)
  | _ => false
theorem adj_zip : ∀ ws : List Wd, (zipD (ws.map .str) ((ws.drop 1).map .str)).all ltP = adj ws
  | [] => rfl
  | [_] => rfl
  | x :: y :: r => by
    show (decide _ && (zipD ((y :: r).map .str) (((y :: r).drop 1).map .str)).all ltP) = _
    rw [adj_zip (y :: r)]
    rfl
def ceD (d : D) : Bool := txD d && match d with | .tup ds => decide (ds.length ≤ 3) && adj (ds.map fun d => match d with | .str x => x | _ => Str.empty) | _ => false
theorem ceD_dW (ws : List Wd) : ceD (dW ws) = ((ws.all wdS) && decide (ws.length ≤ 3) && adj ws) := by
  unfold ceD
  have e1 : txD (dW ws) = ws.all wdS := by
    show (ws.map D.str).all wdD = _
    rw [List.all_map]
    rfl
  have e2 : ((ws.map D.str).map fun d => match d with | .str x => x | _ => Str.empty) = ws := by
    rw [List.map_map]
    exact List.map_id _
  rw [e1]
  show (_ && (decide ((ws.map D.str).length ≤ 3) && adj _)) = _
  rw [e2, List.length_map, Bool.and_assoc]
def csD : D → Bool
  | .tup ds => decide (ds.length ≤ 2) && ds.all ceD
  | _ => false
def kyD : D → Bool
  | .tup ds => ds.all wdD && decide (1 ≤ ds.length) && decide (ds.length ≤ 3)
  | _ => false
end DL
namespace DL
open PySem PySem.Spec PyProof.Rows L2
theorem signs_len (x : Str) : (sgnsOf x).length = x.length := by
  unfold sgnsOf
  rw [List.length_map, Array.length_toList]
  rfl
theorem signs_get {x : Str} {i : Nat} {d : D} (h : (sgnsOf x)[i]? = some d) : ∃ k, x.cps.toList[i]? = some k ∧ d = .str (sgn k) := by
  unfold sgnsOf at h
  rw [List.getElem?_map] at h
  cases e : x.cps.toList[i]? with
  | none => rw [e] at h; cases h
  | some k => rw [e] at h; cases h; exact ⟨k, rfl, rfl⟩
theorem okD_isi {C : Ctx} {L : Lp} {Q : D → Lp → Prop} {d : D} {T : String} {k : Bool} (h : okD d = true) (hk : kitB (tyD d) T = some k) (q : Q (.bl k) L) : LcR C (rIsi C.X.K) [d, .ty T] L Q :=
  c_isi (by cases d <;> first | trivial | (rw [okD] at h; cases h)) hk q
theorem kit_str {d : D} (h : okD d = true) : kitB (tyD d) "str" = some (match d with | .str _ => true | _ => false) := by
  cases d with
  | non => exact (by decide +kernel : kitB "NoneType" "str" = some false)
  | bl b => exact (by decide +kernel : kitB "bool" "str" = some false)
  | int i => exact (by decide +kernel : kitB "int" "str" = some false)
  | str x => exact (by decide +kernel : kitB "str" "str" = some true)
  | tup ds => exact (by decide +kernel : kitB "tuple" "str" = some false)
  | ty n => simp [okD] at h
  | ptr a => simp [okD] at h
  | ilst ns => simp [okD] at h
  | obj _ _ => simp [okD] at h
  | flst _ => simp [okD] at h
  | fdct _ => simp [okD] at h
  | kdct _ => simp [okD] at h
theorem kit_tup {d : D} (h : okD d = true) : kitB (tyD d) "tuple" = some (match d with | .tup _ => true | _ => false) := by
  cases d with
  | non => exact (by decide +kernel : kitB "NoneType" "tuple" = some false)
  | bl b => exact (by decide +kernel : kitB "bool" "tuple" = some false)
  | int i => exact (by decide +kernel : kitB "int" "tuple" = some false)
  | str x => exact (by decide +kernel : kitB "str" "tuple" = some false)
  | tup ds => exact (by decide +kernel : kitB "tuple" "tuple" = some true)
  | ty n => simp [okD] at h
  | ptr a => simp [okD] at h
  | ilst ns => simp [okD] at h
  | obj _ _ => simp [okD] at h
  | flst _ => simp [okD] at h
  | fdct _ => simp [okD] at h
  | kdct _ => simp [okD] at h
theorem okDs_get {ds : List D} (h : okDs ds = true) {i : Nat} {d : D} (hd : ds[i]? = some d) : okD d = true := okDs_mem h d (List.mem_of_getElem? hd)
end DL
namespace DL
open PySem PySem.Spec PyProof.Rows L2
theorem cut_one {α : Type} (xs : List α) : cut xs (some 1) none = xs.drop 1 := cut_from xs 1
def cellOfD (d : D) : List Wd := match d with | .tup ds => (ds.map fun d => match d with | .str x => x | _ => Str.empty) | _ => []
/-- a rule, rules: what the program asks of them -/
def ruD : D → Bool
  | .tup [k, c] => kyD k && csD c
  | _ => false
/-- the order of keys -/
def ltK (a b : List Wd) : Bool := PySem.W.dataLt (py (dW a)) (py (dW b))
def adjK : List (List Wd) → Bool
  | x :: y :: r => ltK x y && adjK (y :: r)
  | _ => true
def rsOk (rs : Rl) : Bool := decide (rs.length ≤ 6) && (rs.all fun r => kyD (dW r.1) && csD (dC r.2)) && adjK (rs.map (·.1))
end DL
namespace DL
open PySem PySem.Spec PyProof.Rows L2
def wsD (m : Nat) (d : D) : Bool := txD d && (match d with | .tup xs => decide (xs.length ≤ m) && adj (cellOfD d) | _ => false)
theorem wsD_dW (m : Nat) (ws : List Wd) (h : txD (dW ws) = true) : wsD m (dW ws) = (decide (ws.length ≤ m) && adj ws) := by
  have e2 : cellOfD (dW ws) = ws := by
    show ((ws.map D.str).map fun d => match d with | .str x => x | _ => Str.empty) = ws
    rw [List.map_map]
    exact List.map_id _
  unfold wsD
  rw [h, e2]
  show (true && (decide ((ws.map D.str).length ≤ m) && adj ws)) = _
  rw [List.length_map, Bool.true_and]
theorem ceD_ws (d : D) : ceD d = wsD 3 d := by cases d <;> rfl
theorem wsD_no {m : Nat} {d : D} (h : txD d = false) : wsD m d = false := by
  unfold wsD
  rw [h]
  rfl
end DL
namespace DL
open PySem PySem.Spec PyProof.Rows L2
/-! ### the order of keys -/
theorem py_dW (ws : List Wd) : py (dW ws) = .tuple (ws.map PyData.str) := by
  unfold dW
  rw [py, pys_map]
  refine congrArg PyData.tuple (List.map_congr_left fun x _ => ?_)
  rw [py]
theorem alike_strs : ∀ a b : List Wd, PySem.W.alikeAll (a.map PyData.str) (b.map PyData.str) = true
  | [], _ => by rw [List.map_nil, PySem.W.alikeAll]
  | _ :: _, [] => by rw [List.map_nil, List.map_cons, PySem.W.alikeAll]
  | x :: a, y :: b => by
    rw [List.map_cons, List.map_cons, PySem.W.alikeAll, PySem.W.alike, alike_strs a b]
    rfl
theorem alike_dW (a b : List Wd) : PySem.W.alike (py (dW a)) (py (dW b)) = true := by
  rw [py_dW, py_dW, PySem.W.alike]
  exact alike_strs a b
def tks (a : List Wd) : List (Int ⊕ List Nat) := PySem.W.keyToks (py (dW a))
theorem tks_inj {a b : List Wd} (h : tks a = tks b) : a = b := by
  unfold tks at h
  rw [py_dW, py_dW, PySem.W.keyToks, PySem.W.keyToks] at h
  have key : ∀ a b : List Wd, PySem.W.keyToksAll (a.map PyData.str) = PySem.W.keyToksAll (b.map PyData.str) → a = b := by
    intro a
    induction a with
    | nil =>
      intro b h
      cases b with
      | nil => rfl
      | cons y b =>
        rw [List.map_nil, List.map_cons, PySem.W.keyToksAll, PySem.W.keyToksAll] at h
        have := List.cons.inj h
        exact absurd (Sum.inl.inj this.1) (by decide)
    | cons x a ih =>
      intro b h
      cases b with
      | nil =>
        rw [List.map_nil, List.map_cons, PySem.W.keyToksAll, PySem.W.keyToksAll] at h
        have := List.cons.inj h
        exact absurd (Sum.inl.inj this.1) (by decide)
      | cons y b =>
        rw [List.map_cons, List.map_cons, PySem.W.keyToksAll, PySem.W.keyToksAll, PySem.W.keyToks, PySem.W.keyToks] at h
        have h1 := (List.cons.inj h).2
        have h2 := List.cons.inj (show (Sum.inr x.cps.toList : Int ⊕ List Nat) :: PySem.W.keyToksAll (a.map PyData.str) = Sum.inr y.cps.toList :: PySem.W.keyToksAll (b.map PyData.str) from h1)
        rw [PySem.W.str_of_cps (Sum.inr.inj h2.1), ih b h2.2]
  exact key a b h
theorem ltK_tks (a b : List Wd) : ltK a b = PyProof.Rows.lexLt itemOrd (tks a) (tks b) := rfl
theorem ltK_irr (a : List Wd) : ltK a a = false := (listOrd itemOrd).irrefl (tks a)
theorem ltK_trans {a b c : List Wd} (h1 : ltK a b = true) (h2 : ltK b c = true) : ltK a c = true := (listOrd itemOrd).trans (tks a) (tks b) (tks c) h1 h2
theorem ltK_total {a b : List Wd} (h1 : ltK a b = false) (h2 : ltK b a = false) : a = b := tks_inj ((listOrd itemOrd).total (tks a) (tks b) h1 h2)
theorem leD_dW (a b : List Wd) : leD (dW a) (dW b) = !ltK b a := rfl
def leR (a b : List Wd × List Cell) : Bool := !ltK b.1 a.1
def srt (rs : Rl) : Rl := rs.mergeSort leR
theorem leR_trans (a b c : List Wd × List Cell) (h1 : leR a b = true) (h2 : leR b c = true) : leR a c = true := by
  unfold leR at *
  rw [Bool.not_eq_true'] at *
  cases h : ltK c.1 a.1 with
  | false => rfl
  | true =>
    rcases (listOrd itemOrd).negTrans (tks c.1) (tks b.1) (tks a.1) h with z | z
    · exact absurd (show ltK c.1 b.1 = true from z) (by rw [h2]; decide)
    · exact absurd (show ltK b.1 a.1 = true from z) (by rw [h1]; decide)
theorem leR_total (a b : List Wd × List Cell) : (leR a b || leR b a) = true := by
  unfold leR
  cases h : ltK b.1 a.1 with
  | false => rfl
  | true =>
    cases h2 : ltK a.1 b.1 with
    | false => rfl
    | true =>
      have := ltK_trans h h2
      rw [ltK_irr] at this
      cases this
/-- keys that rise -/
def RiseK (rs : Rl) : Prop := rs.Pairwise fun a b => ltK a.1 b.1 = true
theorem adjK_rise : ∀ {ks : List (List Wd)}, ks.Pairwise (fun a b => ltK a b = true) → adjK ks = true
  | [], _ => rfl
  | [_], _ => rfl
  | x :: y :: r, h => by
    obtain ⟨h1, h2⟩ := List.pairwise_cons.mp h
    show (ltK x y && adjK (y :: r)) = true
    rw [adjK_rise h2, h1 y List.mem_cons_self]
    rfl
theorem adjK_pair : ∀ {ks : List (List Wd)}, adjK ks = true → ks.Pairwise (fun a b => ltK a b = true)
  | [], _ => List.Pairwise.nil
  | [_], _ => List.pairwise_singleton _ _
  | x :: y :: r, h => by
    have h : (ltK x y && adjK (y :: r)) = true := h
    rw [Bool.and_eq_true] at h
    have ih := adjK_pair h.2
    refine List.pairwise_cons.mpr ⟨fun z hz => ?_, ih⟩
    rcases List.mem_cons.mp hz with e | hz
    · rw [e]; exact h.1
    · exact ltK_trans h.1 ((List.pairwise_cons.mp ih).1 z hz)
theorem riseK_nodup {rs : Rl} (h : RiseK rs) : (rs.map (·.1)).Nodup := by
  refine List.pairwise_map.mpr (List.Pairwise.imp (fun {a b} hab e => ?_) h)
  rw [e, ltK_irr] at hab
  cases hab
theorem srt_self {rs : Rl} (h : RiseK rs) : srt rs = rs := List.mergeSort_of_pairwise (List.Pairwise.imp (fun {a b} hab => by
  unfold leR
  cases h2 : ltK b.1 a.1 with
  | false => rfl
  | true =>
    have := ltK_trans hab h2
    rw [ltK_irr] at this
    cases this) h)
theorem srt_perm (rs : Rl) : (srt rs).Perm rs := List.mergeSort_perm rs leR
theorem srt_rise {rs : Rl} (nd : (rs.map (·.1)).Nodup) : RiseK (srt rs) := by
  have h := List.pairwise_mergeSort leR_trans leR_total rs
  have nd2 : ((srt rs).map (·.1)).Nodup := ((srt_perm rs).map (·.1)).nodup_iff.mpr nd
  have nd3 := List.pairwise_map.mp nd2
  refine List.Pairwise.imp₂ (fun {a b} h1 h2 => ?_) h nd3
  unfold leR at h1
  rw [Bool.not_eq_true'] at h1
  cases h3 : ltK a.1 b.1 with
  | true => rfl
  | false => exact absurd (ltK_total h3 h1) h2
theorem lk_self {rs : Rl} (nd : (rs.map (·.1)).Nodup) {r : List Wd × List Cell} (h : r ∈ rs) : lk rs r.1 = some r.2 := by
  unfold lk
  induction rs with
  | nil => cases h
  | cons x rs ih =>
    rw [List.map_cons, List.nodup_cons] at nd
    rcases List.mem_cons.mp h with e | h
    · subst e
      rw [List.find?_cons_of_pos (by simp)]
      rfl
    · have : x.1 ≠ r.1 := fun e => nd.1 (by rw [e]; exact List.mem_map.mpr ⟨r, h, rfl⟩)
      rw [List.find?_cons_of_neg (by simpa using this)]
      exact ih nd.2 h
theorem sort_keys (rs : Rl) : ((tbl rs).map fun p => kD p.1).mergeSort leD = (srt rs).map fun r => dW r.1 := by
  have e : (tbl rs).map (fun p => kD p.1) = rs.map fun r => dW r.1 := by
    unfold tbl
    rw [List.map_map]
    exact List.map_congr_left fun r _ => kD_kS r.1
  rw [e]
  exact (List.map_mergeSort (r := leR) (s := leD) (f := fun r : List Wd × List Cell => dW r.1) (l := rs) fun a _ b _ => rfl).symm
section
variable {C : Ctx} {Γ : Gm} {L : Lp} {Q : D → Lp → Prop}
/-- sorted(table) -/
theorem sortable_keys {rs : Rl} (hk : ∀ r ∈ rs, r.1 ≠ []) : PySem.W.Sortable ((rs.map fun r => dW r.1).map py) := by
  refine .inl fun d hd => ?_
  obtain ⟨x, hx, rfl⟩ := List.mem_map.mp hd
  obtain ⟨r, hr, rfl⟩ := List.mem_map.mp hx
  rw [py_dW]
  cases e : r.1 with
  | nil => exact absurd e (hk r hr)
  | cons y ys => exact ⟨_, _, rfl⟩
theorem alike_keys (rs : Rl) : PySem.W.AllAlike ((rs.map fun r => dW r.1).map py) := fun d hd d' hd' => by
  obtain ⟨x, hx, rfl⟩ := List.mem_map.mp hd
  obtain ⟨r, hr, rfl⟩ := List.mem_map.mp hx
  obtain ⟨x', hx', rfl⟩ := List.mem_map.mp hd'
  obtain ⟨r', hr', rfl⟩ := List.mem_map.mp hx'
  exact alike_dW _ _
theorem tbl_keys (rs : Rl) : (tbl rs).map (fun p => kD p.1) = rs.map fun r => dW r.1 := by
  unfold tbl
  rw [List.map_map]
  exact List.map_congr_left fun r _ => kD_kS r.1
theorem c_sortW {p : D} {rs : Rl} (hp : DR L p (tbl rs)) (hz : rs.length ≤ sizeLine) (hk : ∀ r ∈ rs, r.1 ≠ []) (q : ∀ l, L l = none → Q (.ptr l) (put L l (.lst ((srt rs).map fun r => dW r.1)))) : LcR C (rSortDT C.X.K) [p] L Q := fun F vs H c r0 QV go => by
  obtain ⟨v, rfl, r⟩ := r0.oneE
  obtain ⟨a, kvs, rfl, ha, ra, hks⟩ := hp.at_ c r
  have ek : kvs.map (fun p => kD p.1) = rs.map fun r => dW r.1 := by
    rw [← tbl_keys, show kvs.map (fun p => kD p.1) = (kvs.map (·.1)).map kD by rw [List.map_map]; rfl, KDs.fst ra, List.map_map]
    rfl
  refine ⟨a, kvs, _, F, rfl, ha, rfl, fun x hx => ?_, ?_, ?_, ?_, ?_, fun l ys hl ry => ?_⟩
  · have : x.1 ∈ (tbl rs).map (·.1) := by rw [← KDs.fst ra]; exact List.mem_map.mpr ⟨x, hx, rfl⟩
    obtain ⟨y, hy, e⟩ := List.mem_map.mp this
    rw [← e]
    exact hks y hy
  · rw [ek]; exact okDs_map _ _ fun x _ => okD_dW _
  · rw [ek]; exact alike_keys rs
  · rw [ek]; exact sortable_keys hk
  · rw [ek]
    intro d hd
    obtain ⟨r, _, rfl⟩ := List.mem_map.mp hd
    exact Nat.le_trans (dep_dW _) (by decide)
  · rw [ek, ← tbl_keys, sort_keys] at ry
    exact go _ _ _ (put L l (.lst ((srt rs).map fun r => dW r.1))) (.ptr l) (c.newL hl ⟨ys, upd_same, ry.mono (.new hl), by rw [List.length_map]; unfold srt; rw [List.length_mergeSort]; exact hz⟩) (.newL hl) (q l (c.free hl))
/-- sorted(list of keys) -/
theorem c_sortKL {p : Addr} {rs : Rl} (hp : L p = some (.lst (rs.map fun r => dW r.1))) (hk : ∀ r ∈ rs, r.1 ≠ []) (q : ∀ l, L l = none → Q (.ptr l) (put L l (.lst ((srt rs).map fun r => dW r.1)))) : LcR C (rSortD C.X.K) [.ptr p] L Q := by
  refine c_sortD hp (okDs_map _ _ fun x _ => okD_dW _) (alike_keys rs) (sortable_keys hk) (fun d hd => ?_) fun l hl => ?_
  · obtain ⟨r, _, rfl⟩ := List.mem_map.mp hd
    exact Nat.le_trans (dep_dW _) (by decide)
  · have e : (rs.map fun r => dW r.1).mergeSort leD = (srt rs).map fun r => dW r.1 := by rw [← tbl_keys]; exact sort_keys rs
    rw [e]
    exact q l hl
end

/-! ### rules as data -/
def ltR : D → Bool
  | .tup [.tup (a :: _), .tup (b :: _)] => PySem.W.dataLt (py a) (py b)
  | _ => false
theorem zip_adjK : ∀ rs : Rl, (zipD (rs.map dRu) ((rs.drop 1).map dRu)).all ltR = adjK (rs.map (·.1))
  | [] => rfl
  | [_] => rfl
  | x :: y :: r => by
    show (PySem.W.dataLt (py (dW x.1)) (py (dW y.1)) && (zipD ((y :: r).map dRu) (((y :: r).drop 1).map dRu)).all ltR) = _
    rw [zip_adjK (y :: r)]
    rfl
theorem csD_dC {d : D} (h : csD d = true) : ∃ cs : List Cell, d = dC cs := by
  cases d with
  | tup ds =>
    have h2 : (decide (ds.length ≤ 2) && ds.all ceD) = true := h
    rw [Bool.and_eq_true] at h2
    have key : ∀ ds : List D, ds.all ceD = true → ∃ cs : List Cell, ds = cs.map dW := by
      intro ds
      induction ds with
      | nil => intro _; exact ⟨[], rfl⟩
      | cons d ds ih =>
        intro h
        rw [List.all_cons, Bool.and_eq_true] at h
        obtain ⟨cs, e⟩ := ih h.2
        have ht : txD d = true := by
          have := h.1
          unfold ceD at this
          rw [Bool.and_eq_true] at this
          exact this.1
        obtain ⟨ws, rfl, _⟩ := txD_dW ht
        exact ⟨ws :: cs, by rw [e]; rfl⟩
    obtain ⟨cs, e⟩ := key ds h2.2
    exact ⟨cs, by rw [e]; rfl⟩
  | _ => simp [csD] at h
theorem kyD_dW {d : D} (h : kyD d = true) : ∃ ws : List Wd, d = dW ws := by
  cases d with
  | tup ds =>
    have h2 : (ds.all wdD && decide (1 ≤ ds.length) && decide (ds.length ≤ 3)) = true := h
    rw [Bool.and_eq_true, Bool.and_eq_true] at h2
    obtain ⟨ws, e, _⟩ := txD_dW (d := .tup ds) h2.1.1
    exact ⟨ws, e⟩
  | _ => simp [kyD] at h
theorem ruD_dRu {d : D} (h : ruD d = true) : ∃ r, d = dRu r := by
  unfold ruD at h
  split at h
  · rw [Bool.and_eq_true] at h
    obtain ⟨ws, rfl⟩ := kyD_dW h.1
    obtain ⟨cs, rfl⟩ := csD_dC h.2
    exact ⟨(ws, cs), rfl⟩
  · cases h
theorem rules_dR : ∀ {ds : List D}, ds.all ruD = true → ∃ rs : Rl, ds = rs.map dRu
  | [], _ => ⟨[], rfl⟩
  | d :: ds, h => by
    rw [List.all_cons, Bool.and_eq_true] at h
    obtain ⟨rs, e⟩ := rules_dR h.2
    obtain ⟨r, rfl⟩ := ruD_dRu h.1
    exact ⟨r :: rs, by rw [e]; rfl⟩
def rsD : D → Bool
  | .tup ds => decide (ds.length ≤ 6) && ds.all ruD && (zipD ds (ds.drop 1)).all ltR
  | _ => false
theorem rsD_dR (rs : Rl) : rsD (dR rs) = rsOk rs := by
  show (decide ((rs.map dRu).length ≤ 6) && (rs.map dRu).all ruD && (zipD (rs.map dRu) ((rs.map dRu).drop 1)).all ltR) = _
  rw [← List.map_drop, zip_adjK, List.length_map, List.all_map]
  rfl
/-- what rules that are taken are like -/
structure RuOk (rs : Rl) : Prop where
  len : rs.length ≤ 6
  key : ∀ r ∈ rs, kyD (dW r.1) = true
  cel : ∀ r ∈ rs, csD (dC r.2) = true
  up : RiseK rs
theorem rsOk_of {rs : Rl} (h : RuOk rs) : rsOk rs = true := by
  unfold rsOk
  rw [decide_eq_true h.len, Bool.true_and, Bool.and_eq_true, List.all_eq_true]
  refine ⟨fun r hr => ?_, adjK_rise (List.pairwise_map.mpr h.up)⟩
  rw [h.key r hr, h.cel r hr]
  rfl
theorem ruOk_of {rs : Rl} (h : rsOk rs = true) : RuOk rs := by
  unfold rsOk at h
  rw [Bool.and_eq_true, Bool.and_eq_true, List.all_eq_true] at h
  refine ⟨of_decide_eq_true h.1.1, fun r hr => ?_, fun r hr => ?_, List.pairwise_map.mp (adjK_pair h.2)⟩
  · have := h.1.2 r hr
    rw [Bool.and_eq_true] at this
    exact this.1
  · have := h.1.2 r hr
    rw [Bool.and_eq_true] at this
    exact this.2
theorem kyD_iff {ws : List Wd} (h : kyD (dW ws) = true) : (∀ x ∈ ws, wdS x = true) ∧ 1 ≤ ws.length ∧ ws.length ≤ 3 := by
  have h2 : ((ws.map D.str).all wdD && decide (1 ≤ (ws.map D.str).length) && decide ((ws.map D.str).length ≤ 3)) = true := h
  rw [Bool.and_eq_true, Bool.and_eq_true, List.length_map, List.all_map, List.all_eq_true] at h2
  exact ⟨h2.1.1, of_decide_eq_true h2.1.2, of_decide_eq_true h2.2⟩
theorem csD_iff {cs : List Cell} (h : csD (dC cs) = true) : cs.length ≤ 2 ∧ ∀ c ∈ cs, ceD (dW c) = true := by
  have h2 : (decide ((cs.map dW).length ≤ 2) && (cs.map dW).all ceD) = true := h
  rw [Bool.and_eq_true, List.length_map, List.all_map, List.all_eq_true] at h2
  exact ⟨of_decide_eq_true h2.1, h2.2⟩
theorem RuOk.r2 {rs : Rl} (h : RuOk rs) : RL2 rs := fun r hr => (csD_iff (h.cel r hr)).1
theorem RuOk.ne {rs : Rl} (h : RuOk rs) : ∀ r ∈ rs, r.1 ≠ [] := fun r hr e => by
  have := (kyD_iff (h.key r hr)).2.1
  rw [e] at this
  exact absurd this (by decide)
theorem RuOk.nd {rs : Rl} (h : RuOk rs) : (rs.map (·.1)).Nodup := riseK_nodup h.up
end DL
namespace DL
open PySem PySem.Spec PyProof.Rows L2
abbrev cl (x : Str) : List Nat := x.cps.toList
theorem cl_len (x : Str) : (cl x).length = x.length := Array.length_toList ..
def abcW (ks : List Nat) : Bool := ks.all fun k => decide (k ∈ abc)
theorem wdS_cl (x : Str) : wdS x = (decide (1 ≤ (cl x).length) && decide ((cl x).length ≤ 8) && abcW (cl x)) := by
  rw [cl_len]
  rfl
theorem wdS_of {x : Str} (h1 : 1 ≤ (cl x).length) (h2 : (cl x).length ≤ 8) (h3 : abcW (cl x) = true) : wdS x = true := by
  rw [wdS_cl, decide_eq_true h1, decide_eq_true h2, h3]
  rfl
theorem wdS_iff {x : Str} (h : wdS x = true) : 1 ≤ (cl x).length ∧ (cl x).length ≤ 8 ∧ abcW (cl x) = true := by
  rw [wdS_cl, Bool.and_eq_true, Bool.and_eq_true] at h
  exact ⟨of_decide_eq_true h.1.1, of_decide_eq_true h.1.2, h.2⟩
theorem abcW_app (a b : List Nat) : abcW (a ++ b) = (abcW a && abcW b) := List.all_append
theorem abcW_mem {a : List Nat} (h : abcW a = true) : ∀ k ∈ a, k ∈ abc := fun k hk => of_decide_eq_true (List.all_eq_true.mp h k hk)
theorem abcW_of {a : List Nat} (h : ∀ k ∈ a, k ∈ abc) : abcW a = true := List.all_eq_true.mpr fun k hk => decide_eq_true (h k hk)
theorem cl_join (ks : List Nat) : cl (Txt.join Str.empty (ks.map sgn)) = ks := by
  rw [TL.join_eq]
  have h := TL.tl_join Str.empty (ks.map sgn)
  have e : ∀ ks : List Nat, TL.joinL (TL.tl Str.empty) ((ks.map sgn).map TL.tl) = ks := by
    intro ks
    induction ks with
    | nil => rfl
    | cons k ks ih =>
      cases ks with
      | nil => rfl
      | cons k2 ks =>
        show [k] ++ ([] ++ TL.joinL (TL.tl Str.empty) (((k2 :: ks).map sgn).map TL.tl)) = _
        rw [ih]
        rfl
  exact h.trans (e ks)
theorem cl_rep (x : Str) (n : Nat) : cl (repS x n) = (List.replicate n (cl x)).flatten := by
  unfold repS cl
  simp
theorem cl_app (x y : Str) : cl (x ++ y) = cl x ++ cl y := by
  show (x.cps ++ y.cps).toList = _
  simp
theorem cl_cut (z : Str) (lo hi : Option Int) : cl (cutS z lo hi) = cut (cl z) lo hi := by
  unfold cutS cl cut
  simp
  rfl
theorem cl_sgn (k : Nat) : cl (sgn k) = [k] := rfl
theorem cut_mem {α : Type} {xs : List α} {lo hi : Option Int} {x : α} (h : x ∈ cut xs lo hi) : x ∈ xs := by
  unfold cut at h
  exact List.mem_of_mem_drop (List.mem_of_mem_take h)
theorem abcW_cut {a : List Nat} (h : abcW a = true) (lo hi : Option Int) : abcW (cut a lo hi) = true := abcW_of fun k hk => abcW_mem h k (cut_mem hk)
theorem signs_mem {x : Str} {d : D} (h : d ∈ sgnsOf x) : ∃ k, k ∈ cl x ∧ d = .str (sgn k) := by
  unfold sgnsOf at h
  obtain ⟨k, hk, rfl⟩ := List.mem_map.mp h
  exact ⟨k, hk, rfl⟩
/-- some letter is not there -/
theorem filter_len {α : Type} [DecidableEq α] (l : List α) (nd : l.Nodup) : ∀ ys : List α, l.length ≤ (l.filter fun x => !decide (x ∈ ys)).length + ys.length
  | [] => by
    rw [List.filter_eq_self.mpr (by simp)]
    exact Nat.le_refl _
  | y :: ys => by
    have ih := filter_len l nd ys
    have e : (l.filter fun x => !decide (x ∈ y :: ys)) = (l.filter fun x => !decide (x ∈ ys)).filter fun x => !decide (x = y) := by
      rw [List.filter_filter]
      congr 1
      funext x
      by_cases h1 : x = y <;> by_cases h2 : x ∈ ys <;> simp [h1, h2]
    have nd2 : (l.filter fun x => !decide (x ∈ ys)).Nodup := nd.filter _
    have h3 : ∀ m : List α, m.Nodup → m.length ≤ (m.filter fun x => !decide (x = y)).length + 1 := by
      intro m
      induction m with
      | nil => intro _; exact Nat.zero_le _
      | cons x m ihm =>
        intro hm
        obtain ⟨h1, h2⟩ := List.nodup_cons.mp hm
        by_cases hx : x = y
        · rw [List.filter_cons_of_neg (by simp [hx]), List.length_cons]
          have : m.filter (fun x => !decide (x = y)) = m := List.filter_eq_self.mpr fun z hz => by
            have : z ≠ y := fun e => h1 (by rw [hx, ← e]; exact hz)
            simp [this]
          rw [this]
          exact Nat.le_refl _
        · rw [List.filter_cons_of_pos (by simp [hx]), List.length_cons, List.length_cons]
          have := ihm h2
          omega
    have := h3 _ nd2
    rw [e, List.length_cons]
    omega
theorem sum_sgn : ∀ ks : List Nat, ((ks.map sgn).map (·.length)).sum = ks.length
  | [] => rfl
  | k :: ks => by
    rw [List.map_cons, List.map_cons, List.sum_cons, sum_sgn ks, List.length_cons]
    show 1 + _ = _
    omega
theorem abc_nodup : (abc.map sgn).Nodup := by decide +kernel
theorem abc_len : abc.length = 26 := by decide +kernel
theorem abc_ne : ∀ ys : List Str, ys.length < 26 → ∃ k r, (abc.map sgn).filter (fun x => !decide (x ∈ ys)) = sgn k :: r ∧ k ∈ abc := fun ys h => by
  have h1 := filter_len (abc.map sgn) abc_nodup ys
  rw [List.length_map, abc_len] at h1
  cases e : (abc.map sgn).filter (fun x => !decide (x ∈ ys)) with
  | nil => rw [e] at h1; simp at h1; omega
  | cons x r =>
    have hx : x ∈ (abc.map sgn).filter (fun x => !decide (x ∈ ys)) := by rw [e]; exact List.mem_cons_self
    obtain ⟨k, hk, rfl⟩ := List.mem_map.mp (List.mem_filter.mp hx).1
    exact ⟨k, r, rfl, hk⟩
section
variable {C : Ctx} {Γ : Gm} {L : Lp} {Q : D → Lp → Prop}
theorem inV_strs (x : Str) (ys : List Str) : inV (.str x) (ys.map V.str) = decide (x ∈ ys) := by
  unfold inV
  rw [List.any_map]
  induction ys with
  | nil => rfl
  | cons y ys ih =>
    rw [List.any_cons, ih]
    show ((y == x) || _) = _
    by_cases h : x = y
    · subst h; simp
    · have : (y == x) = false := by simpa using fun e => h e.symm
      rw [this]
      simp [h]
theorem r_inL {p : Addr} {x : Str} {ys : List Str} (hp : L p = some (.lst (ys.map D.str))) (q : Q (.bl (decide (x ∈ ys))) L) : L2R C (rIn C.X.K false) (.str x) (.ptr p) L Q := fun F vx vy H c rx ry QV go => by
  obtain ⟨ws, ha, ra, _⟩ := c.at_ p _ hp
  have e := reps_strs ra
  subst e
  refine ⟨p, _, ry.ptrE, .inl (SqL.of ha), by rw [rx.strE]; rfl, by rw [List.all_map]; exact List.all_eq_true.mpr fun _ _ => rfl, ?_⟩
  rw [rx.strE]
  show QV (.bl (inV (.str x) (ys.map V.str))) H
  rw [inV_strs]
  exact go _ _ H L (.bl _) c (.refl L H) q
theorem r_notInL {p : Addr} {x : Str} {ys : List Str} (hp : L p = some (.lst (ys.map D.str))) (q : Q (.bl (!decide (x ∈ ys))) L) : L2R C (rIn C.X.K true) (.str x) (.ptr p) L Q := fun F vx vy H c rx ry QV go => by
  obtain ⟨ws, ha, ra, _⟩ := c.at_ p _ hp
  have e := reps_strs ra
  subst e
  refine ⟨p, _, ry.ptrE, .inl (SqL.of ha), by rw [rx.strE]; rfl, by rw [List.all_map]; exact List.all_eq_true.mpr fun _ _ => rfl, ?_⟩
  rw [rx.strE]
  show QV (.bl (!inV (.str x) (ys.map V.str))) H
  rw [inV_strs]
  exact go _ _ H L (.bl _) c (.refl L H) q
end
end DL
namespace DL
open PySem PySem.Spec PyProof.Rows L2
theorem as_mid {C : Ctx} {Γ : Gm} {L : Lp} {E : AEnds} {st : Stmt} {sts : List Stmt} (M : Gm → Lp → Prop) (h : AS C st Γ L { E with nx := M }) (h2 : ∀ Γ' L', M Γ' L' → ASs C sts Γ' L' E) : ASs C (st :: sts) Γ L E :=
  as_cons fun F σ H ok DD go => h F σ H ok DD ⟨fun s H2 Γ2 L2 o f q => go.nx s H2 Γ2 L2 o f (h2 _ _ q), go.rt, go.bk, go.ct⟩
/-- a store where p has been drawn from and n is new -/
def St2 (L : Lp) (p : Addr) (mo : MO) (n : Addr) (x : MO) : Lp := put (put L p mo) n x
theorem St2.p {L : Lp} {p n : Addr} {mo x : MO} (h : n ≠ p) : St2 L p mo n x p = some mo := by
  unfold St2
  rw [put_ne (Ne.symm h), put_same]
theorem St2.n {L : Lp} {p n : Addr} {mo x : MO} : St2 L p mo n x n = some x := put_same
theorem St2.putP {L : Lp} {p n : Addr} {mo mo' x : MO} (h : n ≠ p) : put (St2 L p mo n x) p mo' = St2 L p mo' n x := by
  unfold St2
  rw [put_comm h, put_put]
theorem St2.putN {L : Lp} {p n : Addr} {mo x x' : MO} : put (St2 L p mo n x) n x' = St2 L p mo n x' := put_put
theorem St2.le {L : Lp} {p n : Addr} {mo x : MO} (h : L n = none) (hn : n ≠ p) : Le (put L p mo) (St2 L p mo n x) := le_put (by rw [put_ne hn]; exact h)
end DL
namespace DL
open PySem PySem.Spec PyProof.Rows L2
theorem cellOfD_dW (ws : List Wd) : cellOfD (dW ws) = ws := by
  show ((ws.map D.str).map fun d => match d with | .str x => x | _ => Str.empty) = ws
  rw [List.map_map]
  exact List.map_id _
theorem putR_keys {rs : Rl} {k : List Wd} {z : List Cell} : (putR rs k z).map (·.1) = if rs.any (fun r => decide (r.1 = k)) then rs.map (·.1) else rs.map (·.1) ++ [k] := by
  unfold putR
  split
  · rw [List.map_map]
    refine List.map_congr_left fun r _ => ?_
    show (if r.1 = k then (r.1, z) else r).1 = r.1
    split <;> rfl
  · rw [List.map_append]
    rfl
theorem putR_nodup {rs : Rl} {k : List Wd} {z : List Cell} (nd : (rs.map (·.1)).Nodup) : ((putR rs k z).map (·.1)).Nodup := by
  rw [putR_keys]
  split
  · exact nd
  · rename_i h
    refine List.nodup_append.mpr ⟨nd, by simp, fun a ha b hb e => h ?_⟩
    rw [List.mem_singleton] at hb
    obtain ⟨r, hr, hre⟩ := List.mem_map.mp ha
    exact List.any_eq_true.mpr ⟨r, hr, decide_eq_true (by rw [hre, e, hb])⟩
theorem putR_len (rs : Rl) (k : List Wd) (z : List Cell) : (putR rs k z).length ≤ rs.length + 1 := by
  unfold putR
  split
  · rw [List.length_map]; omega
  · rw [List.length_append]; exact Nat.le_refl _
theorem putR_mem {rs : Rl} {k : List Wd} {z : List Cell} {r : List Wd × List Cell} (h : r ∈ putR rs k z) : r = (k, z) ∨ r ∈ rs := by
  unfold putR at h
  split at h
  · obtain ⟨x, hx, e⟩ := List.mem_map.mp h
    split at e
    · rename_i e2
      exact .inl (by rw [← e, e2])
    · exact .inr (by rw [← e]; exact hx)
  · rcases List.mem_append.mp h with h | h
    · exact .inr h
    · exact .inl (List.mem_singleton.mp h)
theorem tbl_len (rs : Rl) : (tbl rs).length = rs.length := List.length_map ..
/-- what the law's pair list becomes as a dict -/
theorem mergeD_tbl {rs : Rl} (nd : (rs.map (·.1)).Nodup) : mergeD [] (tbl rs) = tbl rs := by
  have key : ∀ (more done : Rl), ((done ++ more).map (·.1)).Nodup → mergeD (tbl done) (tbl more) = tbl (done ++ more) := by
    intro more
    induction more with
    | nil => intro done _; rw [List.append_nil]; rfl
    | cons r more ih =>
      intro done nd
      show mergeD (putD (tbl done) (kS r.1) (dC r.2)) (tbl more) = _
      rw [put_tbl]
      have e : putR done r.1 r.2 = done ++ [r] := by
        unfold putR
        have : done.any (fun x => decide (x.1 = r.1)) = false := by
          rw [List.any_eq_false]
          intro x hx hxe
          have hxe := of_decide_eq_true hxe
          rw [List.map_append, List.nodup_append] at nd
          exact nd.2.2 x.1 (List.mem_map.mpr ⟨x, hx, rfl⟩) r.1 (by rw [List.map_cons]; exact List.mem_cons_self) hxe
        rw [this]
        rfl
      rw [e, ih (done ++ [r]) (by rw [List.append_assoc]; exact nd), List.append_assoc]
      rfl
  exact key rs [] nd
end DL
namespace DL
open PySem PySem.Spec PyProof.Rows L2
section
variable {C : Ctx} {Γ : Gm} {L : Lp} {Q : D → Lp → Prop}
/-- xs != [] -/
theorem r_neNilL {p b : Addr} {xs : List D} (hp : L p = some (.lst xs)) (hb : L b = some (.lst [])) (ok : okDs xs = true) (dep : ∀ x ∈ xs, (py x).depth ≤ 10) (q : Q (.bl (!xs.isEmpty)) L) : L2R C (rNeD C.X.K) (.ptr p) (.ptr b) L Q := fun F vx vy H c rx ry QV go => by
  obtain ⟨ws, ha, ra, _⟩ := c.at_ p _ hp
  obtain ⟨us, hu, ru, _⟩ := c.at_ b _ hb
  cases ru
  obtain ⟨h1, h2⟩ := Reps.dp xs ws ok ra
  rw [rx.ptrE, ry.ptrE]
  have hd : (PyData.list (pys xs)).depth ≤ 64 := by
    have key : ∀ ds : List D, (∀ x ∈ ds, (py x).depth ≤ 10) → PyData.depthAll (pys ds) ≤ 10 := by
      intro ds
      induction ds with
      | nil => intro _; rw [pys, PyData.depthAll]; exact Nat.zero_le _
      | cons d ds ih =>
        intro h
        rw [pys, PyData.depthAll]
        exact Nat.max_le.mpr ⟨h d List.mem_cons_self, ih fun x hx => h x (List.mem_cons_of_mem _ hx)⟩
    rw [PyData.depth]
    have := key xs dep
    omega
  refine ⟨.list (pys xs), .list [], .lst (SqL.of ha) h1, .lst (SqL.of hu) .nil, shaped_of (by rw [PyData.canLay0]; exact h2) hd, shaped_of (by decide) (by decide), ?_⟩
  have e : PyData.eqv (.list (pys xs)) (.list []) = xs.isEmpty := by
    cases xs with
    | nil => rw [pys, PyData.eqv, PyData.eqvAll]; rfl
    | cons x xs => rw [pys, PyData.eqv, PyData.eqvAll]; rfl
  rw [e]
  exact go _ _ H L (.bl _) c (.refl L H) q
end
def hd0 (c : Cell) : Wd := c.headD Str.empty
theorem fits_eq (rs : Rl) (cs : List Cell) (a m : Nat) : fits rs cs a m = (decide (((cs.drop a).take m).length = m) && ((cs.drop a).take m).all (fun c => decide (c.length = 1)) && (lk rs (((cs.drop a).take m).map hd0)).isSome) := by
  unfold fits wAt
  have hle : ((cs.drop a).take m).length ≤ m := by rw [List.length_take]; omega
  generalize (cs.drop a).take m = sm at hle ⊢
  have e : sm.any (fun c => decide (c.length ≠ 1)) = !sm.all (fun c => decide (c.length = 1)) := by
    rw [List.not_all_eq_any_not]
    congr 1
    funext c
    by_cases h : c.length = 1 <;> simp [h]
  rw [e]
  by_cases h1 : sm.length = m
  · rw [decide_eq_true h1]
    cases h2 : sm.all (fun c => decide (c.length = 1)) with
    | true =>
      rw [if_neg (by rintro (z | z); · omega
                     · exact absurd z (by decide))]
      rfl
    | false =>
      rw [if_pos (.inr rfl)]
      rfl
  · rw [decide_eq_false h1, if_pos (.inl (by omega))]
    rfl
theorem wAt_heads {cs : List Cell} {a m : Nat} {ws : List Wd} (h : wAt cs a m = some ws) : ws = ((cs.drop a).take m).map hd0 ∧ ∀ c ∈ (cs.drop a).take m, c.length = 1 := by
  unfold wAt at h
  split at h
  · cases h
  · rename_i hc
    cases h
    refine ⟨rfl, fun c hcm => ?_⟩
    have h2 : ((cs.drop a).take m).any (fun c => decide (c.length ≠ 1)) = false := by
      cases e : ((cs.drop a).take m).any (fun c => decide (c.length ≠ 1)) with
      | false => rfl
      | true => exact absurd (.inr e) hc
    have := List.any_eq_false.mp h2 c hcm
    simpa using this
def szU (rs : Rl) (cs : List Cell) (a : Nat) : Nat → Nat
  | 0 => 0
  | i + 1 => if fits rs cs a (i + 1) then i + 1 else szU rs cs a i
theorem szU_3 (rs : Rl) (cs : List Cell) (a : Nat) : szU rs cs a 3 = szAt rs cs a := rfl
theorem tbl_pD (rs : Rl) : (tbl rs).map pD = rs.map dRu := by
  unfold tbl
  rw [List.map_map]
  refine List.map_congr_left fun r _ => ?_
  show D.tup [kD (kS r.1), dC r.2] = D.tup [dW r.1, dC r.2]
  rw [kD_kS]
end DL
namespace DL
open PySem PySem.Spec PyProof.Rows L2
/-! ### steps -/
def wrt (rs : Rl) (cs : List Cell) (a : Nat) : List Cell := if szAt rs cs a = 0 then [cs.getD a []] else (lk rs (kAt rs cs a)).getD []
def stF (rs : Rl) (cs : List Cell) : Nat → Nat → Nat → List (Nat × List Wd × Nat)
  | 0, _, _ => []
  | n + 1, a, m => if a < cs.length then (a, kAt rs cs a, m) :: stF rs cs n (a + max 1 (szAt rs cs a)) (m + (wrt rs cs a).length) else []
def st1 (rs : Rl) (cs : List Cell) : List (Nat × List Wd × Nat) := stF rs cs cs.length 0 0
def dSt (x : Nat × List Wd × Nat) : D := .tup [.int x.1, dW x.2.1, .int x.2.2]
theorem stF_end {rs : Rl} {cs : List Cell} {n a m : Nat} (h : cs.length ≤ a) : stF rs cs n a m = [] := by
  cases n with
  | zero => rfl
  | succ n =>
    show (if a < cs.length then _ else _) = _
    rw [if_neg (by omega)]
theorem stF_step {rs : Rl} {cs : List Cell} {n a m : Nat} (h : a < cs.length) : stF rs cs (n + 1) a m = (a, kAt rs cs a, m) :: stF rs cs n (a + max 1 (szAt rs cs a)) (m + (wrt rs cs a).length) := by
  show (if a < cs.length then _ else _) = _
  rw [if_pos h]
theorem rwF_step {rs : Rl} {cs : List Cell} {n a : Nat} (h : a < cs.length) : rwF rs cs (n + 1) a = wrt rs cs a ++ rwF rs cs n (a + max 1 (szAt rs cs a)) := by
  unfold wrt
  by_cases h0 : szAt rs cs a = 0
  · rw [if_pos h0, rwF_0 h h0, h0]
    rfl
  · obtain ⟨z, h1, h2, h3⟩ := kAt_some h0
    rw [if_neg h0, h2, rwF_1 h h0 h2, Nat.max_eq_right (by omega)]
    rfl
theorem wrt_len {rs : Rl} (hR : RL2 rs) (cs : List Cell) (a : Nat) : (wrt rs cs a).length ≤ 2 := by
  unfold wrt
  split
  · show 1 ≤ 2; decide
  · cases e : lk rs (kAt rs cs a) with
    | none => exact Nat.zero_le _
    | some z => exact hR.lk e
theorem kAt_len (rs : Rl) (cs : List Cell) (a : Nat) : (kAt rs cs a).length = szAt rs cs a := by
  by_cases h0 : szAt rs cs a = 0
  · rw [kAt_none h0, h0]; rfl
  · exact (kAt_some h0).choose_spec.2.2
theorem kAt_end {rs : Rl} {cs : List Cell} {a : Nat} (h : a < cs.length) : a + max 1 (szAt rs cs a) ≤ cs.length := by
  by_cases h0 : szAt rs cs a = 0
  · rw [h0]; show a + 1 ≤ _; omega
  · obtain ⟨z, h1, h2, h3⟩ := kAt_some h0
    have := wAt_end h1 (by omega)
    omega
theorem stF_len {rs : Rl} {cs : List Cell} : ∀ n a m, (stF rs cs n a m).length ≤ n
  | 0, _, _ => Nat.le_refl _
  | n + 1, a, m => by
    by_cases h : a < cs.length
    · rw [stF_step h, List.length_cons]
      exact Nat.succ_le_succ (stF_len n _ _)
    · rw [stF_end (by omega)]
      exact Nat.zero_le _
/-- texts of single words -/
def one (ws : List Wd) : List Cell := ws.map fun w => [w]
theorem one_cut (ws : List Wd) (a m : Nat) : ((one ws).drop a).take m = one ((ws.drop a).take m) := by
  unfold one
  rw [← List.map_drop, ← List.map_take]
theorem one_heads (ws : List Wd) : (one ws).map hd0 = ws := by
  unfold one
  rw [List.map_map]
  exact List.map_id _
theorem fits_one (rs : Rl) (ws : List Wd) (a m : Nat) : fits rs (one ws) a m = (decide (((ws.drop a).take m).length = m) && (lk rs ((ws.drop a).take m)).isSome) := by
  rw [fits_eq, one_cut, one_heads]
  have e1 : (one ((ws.drop a).take m)).length = ((ws.drop a).take m).length := List.length_map ..
  have e2 : (one ((ws.drop a).take m)).all (fun c => decide (c.length = 1)) = true := by
    unfold one
    rw [List.all_map, List.all_eq_true]
    intro x _
    rfl
  rw [e1, e2, Bool.and_true]
/-- the longest key so far -/
def kU (rs : Rl) (ws : List Wd) (a : Nat) : Nat → List Wd
  | 0 => []
  | i + 1 => if fits rs (one ws) a (i + 1) then (ws.drop a).take (i + 1) else kU rs ws a i
theorem kU_3 (rs : Rl) (ws : List Wd) (a : Nat) : kU rs ws a 3 = kAt rs (one ws) a := by
  have key : ∀ m, fits rs (one ws) a m = true → wAt (one ws) a m = some ((ws.drop a).take m) := fun m h => by
    obtain ⟨w, z, h1, h2⟩ := fits_w h
    obtain ⟨e, _⟩ := wAt_heads h1
    rw [one_cut, one_heads] at e
    rw [h1, e]
  unfold kAt szAt
  show (if fits rs (one ws) a 3 then (ws.drop a).take 3 else if fits rs (one ws) a 2 then (ws.drop a).take 2 else if fits rs (one ws) a 1 then (ws.drop a).take 1 else []) = _
  by_cases h3 : fits rs (one ws) a 3 = true
  · rw [if_pos h3, if_pos h3, if_neg (by decide), key 3 h3]; rfl
  · rw [if_neg h3, if_neg h3]
    by_cases h2 : fits rs (one ws) a 2 = true
    · rw [if_pos h2, if_pos h2, if_neg (by decide), key 2 h2]; rfl
    · rw [if_neg h2, if_neg h2]
      by_cases h1 : fits rs (one ws) a 1 = true
      · rw [if_pos h1, if_pos h1, if_neg (by decide), key 1 h1]; rfl
      · rw [if_neg h1, if_neg h1, if_pos rfl]
theorem okD_dSt (x : Nat × List Wd × Nat) : okD (dSt x) = true := by
  unfold dSt
  rw [okD, okDs, okDs, okDs, okDs, okD, okD, okD_dW]
  rfl
theorem dep_dSt (x : Nat × List Wd × Nat) : (py (dSt x)).depth ≤ 3 := by
  unfold dSt
  rw [py, pys, pys, pys, pys]
  refine dep_all fun d hd => ?_
  rcases List.mem_cons.mp hd with e | hd
  · rw [e, py, PyData.depth]; exact Nat.zero_le _
  · rcases List.mem_cons.mp hd with e | hd
    · rw [e]; exact dep_dW _
    · rw [List.mem_singleton.mp hd, py, PyData.depth]; exact Nat.zero_le _
end DL
namespace DL
open PySem PySem.Spec PyProof.Rows L2
/-! ### rewriting that may wait -/
/-- the cells from a on are the beginning of a longer key -/
def wait (rs : Rl) (cs : List Cell) (a : Nat) : Bool := decide (cs.length - a < 3) && match wAt cs a (cs.length - a) with | some ws => rs.any fun r => decide (cs.length - a < r.1.length) && decide (r.1.take (cs.length - a) = ws) | none => false
/-- one step goes on -/
def goes (w : Bool) (rs : Rl) (cs : List Cell) (a : Nat) : Bool := decide (a < cs.length) && (w || !wait rs cs a)
def rwG (w : Bool) (rs : Rl) (cs : List Cell) : Nat → Nat → List Cell × Nat
  | 0, a => ([], a)
  | n + 1, a => if goes w rs cs a then (wrt rs cs a ++ (rwG w rs cs n (a + max 1 (szAt rs cs a))).1, (rwG w rs cs n (a + max 1 (szAt rs cs a))).2) else ([], a)
/-- what is written, what is left -/
def rw2 (w : Bool) (rs : Rl) (cs : List Cell) : List Cell × List Cell := ((rwG w rs cs cs.length 0).1, cs.drop (rwG w rs cs cs.length 0).2)
theorem rwG_end {w : Bool} {rs : Rl} {cs : List Cell} {n a : Nat} (h : goes w rs cs a = false) : rwG w rs cs n a = ([], a) := by
  cases n with
  | zero => rfl
  | succ n =>
    show (if goes w rs cs a then _ else _) = _
    rw [h]
    rfl
theorem rwG_step {w : Bool} {rs : Rl} {cs : List Cell} {n a : Nat} (h : goes w rs cs a = true) : rwG w rs cs (n + 1) a = (wrt rs cs a ++ (rwG w rs cs n (a + max 1 (szAt rs cs a))).1, (rwG w rs cs n (a + max 1 (szAt rs cs a))).2) := by
  show (if goes w rs cs a then _ else _) = _
  rw [h]
  rfl
theorem goes_lt {w : Bool} {rs : Rl} {cs : List Cell} {a : Nat} (h : goes w rs cs a = true) : a < cs.length := by
  unfold goes at h
  rw [Bool.and_eq_true] at h
  exact of_decide_eq_true h.1
theorem rwG_whole {rs : Rl} {cs : List Cell} : ∀ n a, a ≤ cs.length → cs.length ≤ a + n → rwG true rs cs n a = (rwF rs cs n a, cs.length)
  | 0, a, h1, h2 => by
    have : a = cs.length := by omega
    subst this
    rfl
  | n + 1, a, h1, h2 => by
    by_cases h : a < cs.length
    · have hg : goes true rs cs a = true := by unfold goes; rw [decide_eq_true h]; rfl
      have he := kAt_end (rs := rs) h
      rw [rwG_step hg, rwF_step h, rwG_whole n _ he (by omega)]
    · have hg : goes true rs cs a = false := by unfold goes; rw [decide_eq_false h]; rfl
      rw [rwG_end hg, rwF_end (by omega)]
      have : a = cs.length := by omega
      rw [this]
theorem rw2_whole (rs : Rl) (cs : List Cell) : rw2 true rs cs = (rw1 rs cs, []) := by
  unfold rw2 rw1
  rw [rwG_whole _ _ (Nat.zero_le _) (by omega)]
  simp
theorem rwG_len {w : Bool} {rs : Rl} (hR : RL2 rs) (cs : List Cell) : ∀ n a, (rwG w rs cs n a).1.length ≤ 2 * n
  | 0, a => Nat.zero_le _
  | n + 1, a => by
    by_cases h : goes w rs cs a = true
    · rw [rwG_step h, List.length_append]
      have h1 := wrt_len hR cs a
      have h2 := rwG_len (w := w) hR cs n (a + max 1 (szAt rs cs a))
      omega
    · rw [rwG_end (by simpa using h)]
      exact Nat.zero_le _
/-- what is left has one word a cell -/
theorem rwG_left {rs : Rl} {cs : List Cell} : ∀ n a, a ≤ cs.length → cs.length ≤ a + n → (rwG false rs cs n a).2 ≤ cs.length ∧ ∀ c ∈ cs.drop (rwG false rs cs n a).2, c.length = 1
  | 0, a, h1, h2 => by
    have : a = cs.length := by omega
    subst this
    refine ⟨Nat.le_refl _, fun c hc => ?_⟩
    rw [show (rwG false rs cs 0 cs.length).2 = cs.length from rfl, List.drop_length] at hc
    cases hc
  | n + 1, a, h1, h2 => by
    by_cases h : goes false rs cs a = true
    · have hl := goes_lt h
      have he := kAt_end (rs := rs) hl
      rw [rwG_step h]
      exact rwG_left n _ he (by omega)
    · have hf : goes false rs cs a = false := by simpa using h
      rw [rwG_end hf]
      refine ⟨h1, fun c hc => ?_⟩
      unfold goes at hf
      by_cases hl : a < cs.length
      · rw [decide_eq_true hl] at hf
        have hw : wait rs cs a = true := by simpa using hf
        unfold wait at hw
        rw [Bool.and_eq_true] at hw
        cases e : wAt cs a (cs.length - a) with
        | none => rw [e] at hw; cases hw.2
        | some ws =>
          obtain ⟨_, hone⟩ := wAt_heads e
          refine hone c ?_
          rw [List.take_of_length_le (by rw [List.length_drop]; exact Nat.le_refl _)]
          exact hc
      · rw [List.drop_eq_nil_of_le (by omega)] at hc
        cases hc
theorem rw2_left (rs : Rl) (cs : List Cell) : ∀ c ∈ (rw2 false rs cs).2, c.length = 1 := (rwG_left cs.length 0 (Nat.zero_le _) (by omega)).2
theorem rw2_len {w : Bool} {rs : Rl} (hR : RL2 rs) (cs : List Cell) : (rw2 w rs cs).1.length ≤ 2 * cs.length := rwG_len hR cs _ _
theorem rw2_lenL (w : Bool) (rs : Rl) (cs : List Cell) : (rw2 w rs cs).2.length ≤ cs.length := by
  unfold rw2
  rw [List.length_drop]
  omega
end DL
namespace DL
open PySem PySem.Spec PyProof.Rows L2
theorem rw2_one (wh : Bool) (rs : Rl) (cs : List Cell) : ∀ c ∈ (rw2 wh rs cs).2, c.length = 1 := by
  cases wh with
  | false => exact rw2_left rs cs
  | true =>
    rw [rw2_whole]
    intro c hc
    cases hc
/-- one book behind the other, each behind what is pending -/
def thrS (wh : Bool) (acc : List (List Wd) × List Cell) (q : Rl × List Wd) : List (List Wd) × List Cell := (acc.1 ++ [(rw2 wh q.1 (one q.2 ++ acc.2)).2.map hd0], (rw2 wh q.1 (one q.2 ++ acc.2)).1)
def thr (wh : Bool) (qs : List (Rl × List Wd)) (cs : List Cell) : List (List Wd) × List Cell := qs.foldl (thrS wh) ([], cs)
theorem thr_snoc (wh : Bool) (qs : List (Rl × List Wd)) (q : Rl × List Wd) (cs : List Cell) : thr wh (qs ++ [q]) cs = thrS wh (thr wh qs cs) q := by
  unfold thr
  rw [List.foldl_append]
  rfl
theorem thr_len1 (wh : Bool) (qs : List (Rl × List Wd)) (cs : List Cell) : (thr wh qs cs).1.length = qs.length := by
  have key : ∀ (qs : List (Rl × List Wd)) (a : List (List Wd) × List Cell), (qs.foldl (thrS wh) a).1.length = a.1.length + qs.length := by
    intro qs
    induction qs with
    | nil => intro a; rfl
    | cons q qs ih =>
      intro a
      rw [List.foldl_cons, ih]
      unfold thrS
      rw [List.length_append, List.length_cons, List.length_cons, List.length_nil]
      omega
  rw [show thr wh qs cs = qs.foldl (thrS wh) ([], cs) from rfl, key]
  simp
/-- sizes -/
def grow (n : Nat) : Nat → Nat
  | 0 => n
  | k + 1 => 2 * (grow n k + 1000)
theorem thr_len2 {wh : Bool} {qs : List (Rl × List Wd)} (cs : List Cell) : (∀ q ∈ qs, RL2 q.1 ∧ q.2.length ≤ 1000) → ∀ i, i ≤ qs.length → (thr wh (qs.take i) cs).2.length ≤ grow cs.length i
  | _, 0, _ => by rw [List.take_zero]; exact Nat.le_refl _
  | h, i + 1, hi => by
    have ih := thr_len2 (wh := wh) cs h i (by omega)
    have hx : i < qs.length := hi
    rw [List.take_add_one, List.getElem?_eq_getElem hx]
    show (thr wh (qs.take i ++ [qs[i]]) cs).2.length ≤ _
    rw [thr_snoc]
    have hq := h qs[i] (List.getElem_mem hx)
    refine Nat.le_trans (rw2_len hq.1 _) ?_
    rw [List.length_append]
    have e1 : (one qs[i].2).length = qs[i].2.length := List.length_map ..
    rw [e1]
    show _ ≤ 2 * (grow cs.length i + 1000)
    omega
end DL
namespace DL
open PySem PySem.Spec PyProof.Rows L2
section
variable {C : Ctx} {Γ : Gm} {L : Lp} {e a b c o tg iter elt : Expr} {es : List Expr} {pos p p1 p2 : Pos} {st : Stmt} {sts : List Stmt} {E : AEnds} {Q : D → Lp → Prop} {x y d : D} {ds : List D} {kds : List (List Key × D)}
/-! ### x in y -/
@[irreducible] def rInA (K : PySem.W.Frag) : R2 := fun x y H Q => rInDT x y H Q ∨ (fun x y H Q => rInSign x y H Q ∨ rIn K false x y H Q) x y H Q
theorem op_inA {X : Cx} (hu : X.A.units + 1 < cLine) : OpR X (compareOp .In) (rInA X.K) := by
  unfold rInA
  exact orO (op_inDT hu) (orO op_in_sign op_in_seq)
@[irreducible] def rNotInA (K : PySem.W.Frag) : R2 := fun x y H Q => rNotInDT x y H Q ∨ rIn K true x y H Q
theorem op_notInA {X : Cx} (hu : X.A.units + 1 < cLine) : OpR X (compareOp .NotIn) (rNotInA X.K) := by
  unfold rNotInA
  exact orO (op_notInDT hu) op_notIn_seq
theorem in_W {rs : Rl} {k : List Wd} (hp : DR L d (tbl rs)) (q : Q (.bl (lk rs k).isSome) L) : L2R C (rInA C.X.K) (dW k) d L Q := by
  unfold rInA
  exact .le (r_inW hp q)
theorem notIn_W {rs : Rl} {k : List Wd} (hp : DR L d (tbl rs)) (q : Q (.bl (!(lk rs k).isSome)) L) : L2R C (rNotInA C.X.K) (dW k) d L Q := by
  unfold rNotInA
  exact .le (r_notInW hp q)
theorem in_sign {k : Nat} {z : Str} (q : Q (.bl (decide (k ∈ z.cps.toList))) L) : L2R C (rInA C.X.K) (.str (sgn k)) (.str z) L Q := by
  unfold rInA
  exact .ri (.le (r_inSign q))
theorem in_L {x : Str} {ys : List Str} (hp : LR L d (ys.map D.str)) (q : Q (.bl (decide (x ∈ ys))) L) : L2R C (rInA C.X.K) (.str x) d L Q := by
  unfold rInA
  exact .ri (.ri fun F vx vy H c rx ry QV go => by
  obtain ⟨p, ws, rfl, ha, ra, _⟩ := hp.at_ c ry
  have e := reps_strs ra
  subst e
  refine ⟨p, _, rfl, .inl (SqL.of ha), by rw [rx.strE]; rfl, by rw [List.all_map]; exact List.all_eq_true.mpr fun _ _ => rfl, ?_⟩
  rw [rx.strE]
  show QV (.bl (inV (.str x) (ys.map V.str))) H
  rw [inV_strs]
  exact go _ _ H L (.bl _) c (.refl L H) q)
theorem in_T {x : Str} {ys : List Str} (q : Q (.bl (decide (x ∈ ys))) L) : L2R C (rInA C.X.K) (.str x) (.tup (ys.map D.str)) L Q := by
  unfold rInA
  exact .ri (.ri fun F vx vy H c rx ry QV go => by
  obtain ⟨p, ws, rfl, ha, ra⟩ := ry.tupE
  have e := reps_strs ra
  subst e
  refine ⟨p, _, rfl, .inr (SqT.of ha), by rw [rx.strE]; rfl, by rw [List.all_map]; exact List.all_eq_true.mpr fun _ _ => rfl, ?_⟩
  rw [rx.strE]
  show QV (.bl (inV (.str x) (ys.map V.str))) H
  rw [inV_strs]
  exact go _ _ H L (.bl _) c (.refl L H) q)
theorem notIn_L {x : Str} {ys : List Str} (hp : LR L d (ys.map D.str)) (q : Q (.bl (!decide (x ∈ ys))) L) : L2R C (rNotInA C.X.K) (.str x) d L Q := by
  unfold rNotInA
  refine .ri fun F vx vy H c rx ry QV go => ?_
  obtain ⟨p, ws, rfl, ha, ra, _⟩ := hp.at_ c ry
  have e := reps_strs ra
  subst e
  refine ⟨p, _, rfl, .inl (SqL.of ha), by rw [rx.strE]; rfl, by rw [List.all_map]; exact List.all_eq_true.mpr fun _ _ => rfl, ?_⟩
  rw [rx.strE]
  show QV (.bl (!inV (.str x) (ys.map V.str))) H
  rw [inV_strs]
  exact go _ _ H L (.bl _) c (.refl L H) q
theorem notIn_T {x : Str} {ys : List Str} (q : Q (.bl (!decide (x ∈ ys))) L) : L2R C (rNotInA C.X.K) (.str x) (.tup (ys.map D.str)) L Q := by
  unfold rNotInA
  refine .ri fun F vx vy H c rx ry QV go => ?_
  obtain ⟨p, ws, rfl, ha, ra⟩ := ry.tupE
  have e := reps_strs ra
  subst e
  refine ⟨p, _, rfl, .inr (SqT.of ha), by rw [rx.strE]; rfl, by rw [List.all_map]; exact List.all_eq_true.mpr fun _ _ => rfl, ?_⟩
  rw [rx.strE]
  show QV (.bl (!inV (.str x) (ys.map V.str))) H
  rw [inV_strs]
  exact go _ _ H L (.bl _) c (.refl L H) q
/-! ### x[i] by LR, DR -/
theorem ixa_R {i : Int} {x : D} (hp : LR L d ds) (q : Q x L) (h : atI ds i = some x) : L2R C (rIxA C.X.K) d (.int i) L Q := by
  unfold rIxA
  exact .ri (.le (lr_ix hp h q))
theorem ixa_W {rs : Rl} {k : List Wd} {z : List Cell} (hp : DR L d (tbl rs)) (q : Q (dC z) L) (h : lk rs k = some z) : L2R C (rIxA C.X.K) d (dW k) L Q := by
  unfold rIxA
  rw [← kD_kS]
  exact .ri (.ri (.ri (dr_get hp (by rw [val_tbl, h]; rfl) q)))
/-! ### len -/
theorem len_T (q : Q (.int ds.length) L) : LcR C (rLenA C.X.K) [.tup ds] L Q := by
  unfold rLenA
  exact .le (c_lenT q)
theorem len_N {ns : List Int} (q : Q (.int ns.length) L) : LcR C (rLenA C.X.K) [.ilst ns] L Q := by
  unfold rLenA
  exact .le (c_lenN q)
theorem len_L (hp : LR L d ds) (q : Q (.int ds.length) L) : LcR C (rLenA C.X.K) [d] L Q := by
  unfold rLenA
  exact .le (lr_len hp q)
theorem len_S {z : Str} (q : Q (.int z.length) L) : LcR C (rLenA C.X.K) [.str z] L Q := by
  unfold rLenA
  exact .ri (.le (c_lenS q))
theorem len_D (hp : DR L d kds) (q : Q (.int kds.length) L) : LcR C (rLenA C.X.K) [d] L Q := by
  unfold rLenA
  exact .ri (.ri (dr_len hp q))
/-! ### temporary lists -/
/-- e is a new list, which nobody else knows -/
def AL (C : Ctx) (e : Expr) (Γ : Gm) (L : Lp) (R : List D → Lp → Prop) : Prop := AE C e Γ L fun d L2 => ∃ L1 p ds, d = .ptr p ∧ L1 p = none ∧ L2 = put L1 p (.lst ds) ∧ (ds.length ≤ sizeLine → R ds L1)
theorem ae_L (h : AL C e Γ L fun ds L1 => ∀ p, L1 p = none → Q (.ptr p) (put L1 p (.lst ds))) : AE C e Γ L Q := fun F σ H ok QV go => h F σ H ok QV fun v d H' L' r c f ⟨L1, p, ds, ed, hn, eL, q⟩ => by
  subst ed eL
  obtain ⟨_, _, _, hz⟩ := c.at_ p _ put_same
  exact go _ _ H' _ r c f (q hz p hn)
theorem AL.mono {R R' : List D → Lp → Prop} (h : AL C e Γ L R) (m : ∀ ds L1, R ds L1 → R' ds L1) : AL C e Γ L R' := AE.mono h fun d L2 ⟨L1, p, ds, e1, e2, e3, q⟩ => ⟨L1, p, ds, e1, e2, e3, fun z => m _ _ (q z)⟩
theorem al_disp {R : List D → Lp → Prop} (h : AA C es Γ L fun ds L1 => ds.length ≤ sizeLine ∧ R ds L1) : AL C (.List es pos) Γ L R := ae_lst (h.mono fun ds L1 ⟨hz, q⟩ => ⟨hz, fun p hp => ⟨L1, p, ds, rfl, hp, rfl, fun _ => q⟩⟩)
/-! what takes one -/
theorem ae_tupL (hm : C.X.mg "tuple" = none) (h : AL C e Γ L fun ds L1 => Q (.tup ds) L1) (hg : Gl C.X "tuple" := by rfl) (he : starEach [e] C.X.env = [(false, eval e C.X.env)] := by rfl) : AE C (.Call (.Name "tuple" p) [e] [] pos) Γ L Q :=
  AE.drop (ae_callT call_tuple_of hm (aa_cons (AE.mono (ae_L (Q := fun d L2 => ∃ L1 p ds, d = .ptr p ∧ L1 p = none ∧ L2 = put L1 p (.lst ds) ∧ Q (.tup ds) L1) (h.mono fun ds L1 q p hp => ⟨L1, p, ds, rfl, hp, rfl, q⟩)) fun d L2 ⟨L1, p, ds, ed, hn, eL, q⟩ => by
    subst ed eL
    exact aa_nil (c_tupL put_same ⟨L1, le_put hn, q⟩)) he) (hg := hg) (he := he))
theorem ae_allL (hm : C.X.mg "all" = none) (h : AL C e Γ L fun ds L1 => ∃ bs : List Bool, ds = bs.map D.bl ∧ Q (.bl (bs.all id)) L1) (hg : Gl C.X "all" := by rfl) (he : starEach [e] C.X.env = [(false, eval e C.X.env)] := by rfl) : AE C (.Call (.Name "all" p) [e] [] pos) Γ L Q :=
  AE.drop (ae_callB (cr_all C.calm) hm (aa_cons (AE.mono (ae_L (Q := fun d L2 => ∃ L1 p bs, d = .ptr p ∧ L1 p = none ∧ L2 = put L1 p (.lst (bs.map D.bl)) ∧ Q (.bl (bs.all id)) L1) (h.mono fun ds L1 ⟨bs, e, q⟩ p hp => ⟨L1, p, bs, rfl, hp, by rw [e], q⟩)) fun d L2 ⟨L1, p, ds, ed, hn, eL, q⟩ => by
    subst ed eL
    exact aa_nil (c_all put_same ⟨L1, le_put hn, q⟩)) he) (hg := hg) (he := he))
theorem ae_anyL (hm : C.X.mg "any" = none) (h : AL C e Γ L fun ds L1 => ∃ bs : List Bool, ds = bs.map D.bl ∧ Q (.bl (bs.any id)) L1) (hg : Gl C.X "any" := by rfl) (he : starEach [e] C.X.env = [(false, eval e C.X.env)] := by rfl) : AE C (.Call (.Name "any" p) [e] [] pos) Γ L Q :=
  AE.drop (ae_callB (cr_any C.calm) hm (aa_cons (AE.mono (ae_L (Q := fun d L2 => ∃ L1 p bs, d = .ptr p ∧ L1 p = none ∧ L2 = put L1 p (.lst (bs.map D.bl)) ∧ Q (.bl (bs.any id)) L1) (h.mono fun ds L1 ⟨bs, e, q⟩ p hp => ⟨L1, p, bs, rfl, hp, by rw [e], q⟩)) fun d L2 ⟨L1, p, ds, ed, hn, eL, q⟩ => by
    subst ed eL
    exact aa_nil (c_any put_same ⟨L1, le_put hn, q⟩)) he) (hg := hg) (he := he))
theorem ae_sumL (hm : C.X.mg "sum" = none) (h : AL C e Γ L fun ds L1 => ∃ ns : List Int, ds = ns.map D.int ∧ Q (.int ns.sum) L1) (hg : Gl C.X "sum" := by rfl) (he : starEach [e] C.X.env = [(false, eval e C.X.env)] := by rfl) : AE C (.Call (.Name "sum" p) [e] [] pos) Γ L Q :=
  AE.drop (ae_callB (cr_sum C.calm) hm (aa_cons (AE.mono (ae_L (Q := fun d L2 => ∃ L1 p bs, d = .ptr p ∧ L1 p = none ∧ L2 = put L1 p (.lst (bs.map D.int)) ∧ Q (.int bs.sum) L1) (h.mono fun ds L1 ⟨bs, e, q⟩ p hp => ⟨L1, p, bs, rfl, hp, by rw [e], q⟩)) fun d L2 ⟨L1, p, ds, ed, hn, eL, q⟩ => by
    subst ed eL
    exact aa_nil (c_sum put_same ⟨L1, le_put hn, q⟩)) he) (hg := hg) (he := he))
theorem ae_lenL (hm : C.X.mg "len" = none) (h : AL C e Γ L fun ds L1 => Q (.int ds.length) L1) (hg : Gl C.X "len" := by rfl) (he : starEach [e] C.X.env = [(false, eval e C.X.env)] := by rfl) : AE C (.Call (.Name "len" p) [e] [] pos) Γ L Q :=
  AE.drop (ae_callB call_len_seq hm (aa_cons (AE.mono (ae_L (Q := fun d L2 => ∃ L1 p ds, d = .ptr p ∧ L1 p = none ∧ L2 = put L1 p (.lst ds) ∧ Q (.int ds.length) L1) (h.mono fun ds L1 q p hp => ⟨L1, p, ds, rfl, hp, rfl, q⟩)) fun d L2 ⟨L1, p, ds, ed, hn, eL, q⟩ => by
    subst ed eL
    exact aa_nil (c_lenL put_same ⟨L1, le_put hn, q⟩)) he) (hg := hg) (he := he))
theorem AL.elim {R : List D → Lp → Prop} (h : AL C e Γ L R) : AE C e Γ L fun d L2 => ∃ L1 p ds, d = .ptr p ∧ L1 p = none ∧ L2 = put L1 p (.lst ds) ∧ ds.length ≤ sizeLine ∧ R ds L1 := fun F σ H ok QV go => h F σ H ok QV fun v d H' L' r c f ⟨L1, p, ds, ed, hn, eL, q⟩ => by
  subst ed eL
  obtain ⟨_, _, _, hz⟩ := c.at_ p _ put_same
  exact go _ _ H' _ r c f ⟨L1, p, ds, rfl, hn, rfl, hz, q hz⟩
/-- a frozen list, at once -/
theorem ae_flst (h : AL C e Γ L fun ds L1 => Q (.flst ds) L1) : AE C e Γ L Q := AE.frz (AE.mono h.elim fun d L2 ⟨L1, p, ds, ed, hn, eL, _, q⟩ => by
  subst ed eL
  refine ⟨.flst ds, L1, ?_, q⟩
  have := frz_lst (C := C) (put_same (L := L1) (a := p) (o := .lst ds))
  rwa [del_put hn] at this)
/-- a new list is walked -/
theorem ai_L {R : List D → (Lp → Prop) → Lp → Prop} (h : AL C e Γ L fun ds L1 => ds.length ≤ sizeLine → R ds (fun _ => True) L1) : AI C tg e Γ L R := ai_flst (ae_flst (h.mono fun ds L1 q => ⟨ds, rfl, q⟩))
/-! ### comprehensions -/
/-- it tests as b, and the store stays -/
def AVT (C : Ctx) (e : Expr) (Γ : Gm) (L : Lp) (b : Bool) : Prop := ∀ Q : Bool → Lp → Prop, Q b L → AT C e Γ L Q
theorem al_lc (own : List (Str × Nat)) {scope : Scope} {ifs : List Expr} {R : List D → Lp → Prop}
    (h : AI C tg iter Γ L fun ds G L1 => ∃ I : Nat → List D → Lp → Prop, I 0 [] L1 ∧ (∀ i acc L2, I i acc L2 → G L2) ∧
      (∀ i d acc L2, ds[i]? = some d → I i acc L2 → ∃ Γ3 ws, (∀ j ∈ ws, j ∈ own.map (·.2)) ∧ ∀ s H Cc cl fp, AG (bctx C scope s H Cc cl fp) tg d (wipeG Γ (own.map (·.2))) Γ3 ws ∧
        ATs (bctx C scope s H Cc cl fp) ifs Γ3 L2 fun k L3 => (k = true → ∀ s H Cc cl fp, AE (bctx C scope s H Cc cl fp) elt Γ3 L3 fun y L4 => acc.length < sizeLine ∧ I (i + 1) (acc ++ [y]) L4) ∧ (k = false → I (i + 1) acc L3)) ∧
      ∀ acc L2, I ds.length acc L2 → R acc L2)
    (ok : BlkOk C.X.N C.X.env.scope scope own := by (dsimp only [fctx, bctx, cxOf, envOfC, compEnvC, Cx.blk]; exact blkOk_by (by decide +kernel))) (hs : ∀ x, foldedSetIterable iter C.X.env x = pure x := by intro _; rfl) : AL C (.ListComp elt [⟨tg, iter, ifs, 0⟩] scope pos) Γ L R :=
  ae_lc own (fun F σ H okk RV go => h F σ H okk RV fun J H' L' ds G c f it ⟨I, h1, h2, h3, h4⟩ => go J H' L' ds G c f it ⟨I, h1, h2, h3, fun acc L2 hi p hp => ⟨L2, p, acc, rfl, hp, rfl, fun _ => h4 acc L2 hi⟩⟩) ok hs
/-- each item alone: p tells whether it is taken, f what it becomes -/
theorem lc_pure {own : List (Str × Nat)} {scope : Scope} {ifs : List Expr} {α : Type} {xs : List α} {g f : α → D} {t : α → Bool} {G : Lp → Prop} {L1 : Lp} {R : List D → Lp → Prop} {Γ3 : α → Gm} {ws : List Nat} (hG : G L1) (hz : xs.length ≤ sizeLine) (hw : ∀ j ∈ ws, j ∈ own.map (·.2))
    (hf : ∀ x ∈ xs, ∀ s H Cc cl fp, AG (bctx C scope s H Cc cl fp) tg (g x) (wipeG Γ (own.map (·.2))) (Γ3 x) ws ∧ (∀ Q : Bool → Lp → Prop, Q (t x) L1 → ATs (bctx C scope s H Cc cl fp) ifs (Γ3 x) L1 Q) ∧ (t x = true → AV (bctx C scope s H Cc cl fp) elt (Γ3 x) L1 (f x)))
    (q : R ((xs.filter t).map f) L1) : ∃ I : Nat → List D → Lp → Prop, I 0 [] L1 ∧ (∀ i acc L2, I i acc L2 → G L2) ∧
      (∀ i d acc L2, (xs.map g)[i]? = some d → I i acc L2 → ∃ Γ3 ws, (∀ j ∈ ws, j ∈ own.map (·.2)) ∧ ∀ s H Cc cl fp, AG (bctx C scope s H Cc cl fp) tg d (wipeG Γ (own.map (·.2))) Γ3 ws ∧
        ATs (bctx C scope s H Cc cl fp) ifs Γ3 L2 fun k L3 => (k = true → ∀ s H Cc cl fp, AE (bctx C scope s H Cc cl fp) elt Γ3 L3 fun y L4 => acc.length < sizeLine ∧ I (i + 1) (acc ++ [y]) L4) ∧ (k = false → I (i + 1) acc L3)) ∧
      ∀ acc L2, I (xs.map g).length acc L2 → R acc L2 := by
  refine ⟨fun i acc L2 => acc = ((xs.take i).filter t).map f ∧ L2 = L1, ⟨rfl, rfl⟩, fun i acc L2 h => by rw [h.2]; exact hG, fun i d acc L2 hd ⟨ea, el⟩ => ?_, fun acc L2 ⟨ea, el⟩ => ?_⟩
  · subst el
    rw [List.getElem?_map] at hd
    cases ex : xs[i]? with
    | none => rw [ex] at hd; cases hd
    | some x =>
      rw [ex] at hd
      cases hd
      have hi := (List.getElem?_eq_some_iff.mp ex).1
      have hm := List.mem_of_getElem? ex
      have hlen : ((xs.take i).filter t).length ≤ i := Nat.le_trans (List.length_filter_le _ _) (by rw [List.length_take]; omega)
      refine ⟨Γ3 x, ws, hw, fun s H Cc cl fp => ⟨(hf x hm s H Cc cl fp).1, (hf x hm s H Cc cl fp).2.1 _ ⟨fun ht s H Cc cl fp => (hf x hm s H Cc cl fp).2.2 ht _ ⟨?_, ?_, rfl⟩, fun hn => ⟨?_, rfl⟩⟩⟩⟩
      · rw [ea, List.length_map]
        omega
      · rw [ea, List.take_add_one, ex, List.filter_append, List.map_append]
        show _ = _ ++ ([x].filter t).map f
        rw [List.filter_cons_of_pos ht]
        rfl
      · rw [ea, List.take_add_one, ex, List.filter_append, List.map_append]
        show _ = _ ++ ([x].filter t).map f
        rw [List.filter_cons_of_neg (by rw [hn]; exact Bool.false_ne_true)]
        simp
  · subst el
    rw [ea, List.length_map, List.take_length]
    exact q
/-- [elt for x in iter] -/
theorem al_map1 (i : Nat) {x : Str} {px : Pos} {scope : Scope} {R : List D → Lp → Prop}
    (h : AI C (.Name x px) iter Γ L fun ds G L1 => ∃ (α : Type) (xs : List α) (g f : α → D), ds = xs.map g ∧ G L1 ∧ ds.length ≤ sizeLine ∧ (∀ y ∈ xs, ∀ s H Cc cl fp, AV (bctx C scope s H Cc cl fp) elt ((wipeG Γ [i]).set i (some (g y))) L1 (f y)) ∧ R (xs.map f) L1)
    (hN : C.X.N[i]? = some x := by rfl) (hag : ∀ s H Cc cl fp d Γ, AG (bctx C scope s H Cc cl fp) (.Name x px) d Γ (Γ.set i (some d)) [i] := by (intro _ _ _ _ _ _ _; exact ag_name _))
    (ok : BlkOk C.X.N C.X.env.scope scope [(x, i)] := by (dsimp only [fctx, bctx, cxOf, envOfC, compEnvC, Cx.blk]; exact blkOk_by (by decide +kernel))) (hs : ∀ x, foldedSetIterable iter C.X.env x = pure x := by intro _; rfl) : AL C (.ListComp elt [⟨.Name x px, iter, [], 0⟩] scope pos) Γ L R :=
  al_lc [(x, i)] (fun F σ H okk RV go => h F σ H okk RV fun J H' L' ds G c f it ⟨α, xs, g, f', e, hG, hz, hf, q⟩ => by
    subst e
    rw [List.length_map] at hz
    exact go J H' L' _ G c f it (lc_pure (t := fun _ => true) hG hz (fun j hj => hj) (fun y hy s H Cc cl fp => ⟨hag s H Cc cl fp _ _, fun Q q => ats_nil q, fun _ => hf y hy s H Cc cl fp⟩) (by rw [List.filter_eq_self.mpr fun _ _ => rfl]; exact q))) ok hs
/-- [elt for x in iter if c] -/
theorem al_filt1 (i : Nat) {x : Str} {px : Pos} {scope : Scope} {R : List D → Lp → Prop}
    (h : AI C (.Name x px) iter Γ L fun ds G L1 => ∃ (α : Type) (xs : List α) (g : α → D) (t : α → Bool) (f : α → D), ds = xs.map g ∧ G L1 ∧ ds.length ≤ sizeLine ∧ (∀ y ∈ xs, ∀ s H Cc cl fp, AVT (bctx C scope s H Cc cl fp) c ((wipeG Γ [i]).set i (some (g y))) L1 (t y) ∧ (t y = true → AV (bctx C scope s H Cc cl fp) elt ((wipeG Γ [i]).set i (some (g y))) L1 (f y))) ∧ R ((xs.filter t).map f) L1)
    (hN : C.X.N[i]? = some x := by rfl) (hag : ∀ s H Cc cl fp d Γ, AG (bctx C scope s H Cc cl fp) (.Name x px) d Γ (Γ.set i (some d)) [i] := by (intro _ _ _ _ _ _ _; exact ag_name _))
    (ok : BlkOk C.X.N C.X.env.scope scope [(x, i)] := by (dsimp only [fctx, bctx, cxOf, envOfC, compEnvC, Cx.blk]; exact blkOk_by (by decide +kernel))) (hs : ∀ x, foldedSetIterable iter C.X.env x = pure x := by intro _; rfl) : AL C (.ListComp elt [⟨.Name x px, iter, [c], 0⟩] scope pos) Γ L R :=
  al_lc [(x, i)] (fun F σ H okk RV go => h F σ H okk RV fun J H' L' ds G cc f it ⟨α, xs, g, t, f', e, hG, hz, hf, q⟩ => by
    subst e
    rw [List.length_map] at hz
    exact go J H' L' _ G cc f it (lc_pure (t := t) hG hz (fun j hj => hj) (fun y hy s H Cc cl fp => ⟨hag s H Cc cl fp _ _, fun Q q => ats_one ((hf y hy s H Cc cl fp).1 Q q), (hf y hy s H Cc cl fp).2⟩) q)) ok hs
/-- [elt for x, y in iter] -/
theorem al_map2 (i j : Nat) {x y : Str} {px py pt : Pos} {kt : Nat} {scope : Scope} {R : List D → Lp → Prop}
    (h : AI C (.Tuple [.Name x px, .Name y py] kt pt) iter Γ L fun ds G L1 => ∃ (α : Type) (xs : List α) (g g' f : α → D), ds = xs.map (fun z => .tup [g z, g' z]) ∧ G L1 ∧ ds.length ≤ sizeLine ∧ (∀ z ∈ xs, ∀ s H Cc cl fp, AV (bctx C scope s H Cc cl fp) elt (((wipeG Γ [i, j]).set i (some (g z))).set j (some (g' z))) L1 (f z)) ∧ R (xs.map f) L1)
    (hag : ∀ s H Cc cl fp d d' Γ, AG (bctx C scope s H Cc cl fp) (.Tuple [.Name x px, .Name y py] kt pt) (.tup [d, d']) Γ ((Γ.set i (some d)).set j (some d')) [i, j] := by (intro _ _ _ _ _ _ _ _; exact ag_tup (ags_cons (ag_name _) (ags_cons (ag_name _) ags_nil))))
    (ok : BlkOk C.X.N C.X.env.scope scope [(x, i), (y, j)] := by (dsimp only [fctx, bctx, cxOf, envOfC, compEnvC, Cx.blk]; exact blkOk_by (by decide +kernel))) (hs : ∀ x, foldedSetIterable iter C.X.env x = pure x := by intro _; rfl) : AL C (.ListComp elt [⟨.Tuple [.Name x px, .Name y py] kt pt, iter, [], 0⟩] scope pos) Γ L R :=
  al_lc [(x, i), (y, j)] (fun F σ H okk RV go => h F σ H okk RV fun J H' L' ds G c f it ⟨α, xs, g, g', f', e, hG, hz, hf, q⟩ => by
    subst e
    rw [List.length_map] at hz
    exact go J H' L' _ G c f it (lc_pure (t := fun _ => true) hG hz (fun j hj => hj) (fun y hy s H Cc cl fp => ⟨hag s H Cc cl fp _ _ _, fun Q q => ats_nil q, fun _ => hf y hy s H Cc cl fp⟩) (by rw [List.filter_eq_self.mpr fun _ _ => rfl]; exact q))) ok hs
end
end DL
namespace DL
open PySem PySem.Spec PyProof.Rows L2
section
variable {C : Ctx} {Γ : Gm} {L : Lp} {e a b c o tg iter elt : Expr} {es : List Expr} {pos p p1 p2 : Pos} {st : Stmt} {sts : List Stmt} {E : AEnds} {Q : D → Lp → Prop} {x y d : D} {ds : List D} {kds : List (List Key × D)}
theorem kds_get {F : Fz} {H : Hp} {K : PySem.W.Frag} {kvs : List (List Key × V)} {kds : List (List Key × D)} (h : KDs K F H kvs kds) {i : Nat} {k : List Key} {v : V} (e : kvs[i]? = some (k, v)) : ∃ d, kds[i]? = some (k, d) := by
  induction h generalizing i with
  | nil => simp at e
  | @cons p q l1 l2 h1 h2 ih =>
    cases i with
    | zero =>
      simp at e
      subst e
      refine ⟨q.2, ?_⟩
      have := h1.1
      simp only at this
      rw [this]
      rfl
    | succ i => exact ih (i := i) (by simpa using e)
/-- the keys of a dict that is locked -/
theorem itkt_is {t : Addr} {od : Obj} {kvs : List (List Key × V)} {L0 : Lp} {F0 : Fz} {H0 : Hp} (st : ∀ F L H, Fr L0 F0 H0 L F H → H t = some (.frz od (.dT kvs))) (rr : KDs C.X.K F0 H0 kvs kds) (hk : ∀ q ∈ kds, KOk q.1) : IsIt C (Itkt t od kvs) (kds.map fun x => kD x.1) (fun _ => True) L0 F0 H0 := by
  intro F i H L s c g
  have hl : kvs.length = kds.length := Paired.length rr
  have ht := st F L H s
  rw [List.length_map]
  refine ⟨fun h => ⟨ht, by omega⟩, fun h => ⟨ht, by omega⟩, fun x H' y hi => ?_⟩
  obtain ⟨e1, k, v, q, e2, e3, e4⟩ := y
  subst e1 e3
  obtain ⟨d, hd⟩ := kds_get rr e2
  exact ⟨kD k, by rw [List.getElem?_map, hd]; rfl, kD_rep e4 (hk _ (List.mem_of_getElem? hd)), .inl rfl⟩
theorem ai_fdct {R : List D → (Lp → Prop) → Lp → Prop} (h : AE C e Γ L fun d L1 => ∃ kds, d = .fdct kds ∧ R (kds.map fun x => kD x.1) (fun _ => True) L1) : AI C tg e Γ L R := fun F σ H ok RV go =>
  wi_of (pi_keys pe_we) (h _ σ H ok _ fun v d H1 L1 r c f ⟨kds, ed, q⟩ => by
    subst ed
    obtain ⟨a, kvs, ea, hrd, rr, hk⟩ := DR.fz.at_ c r
    cases r with
    | @fdct a' kvs' _ o hl ha hk' hn he hi =>
      cases ea
      have ekv : kvs = kvs' := by
        rcases hrd with z | ⟨o', z⟩
        · rw [ha] at z; cases z
        · rw [ha] at z; cases z; rfl
      subst ekv
      exact ⟨_, o, rfl, .inr ⟨kvs, ha, go _ H1 L1 _ _ c f (itkt_is (fun F2 L2 H2 s => s.fk _ _ hl ha) rr hk) q⟩⟩)
theorem unlock {F : Fz} {H : Hp} {t : Addr} {od : Obj} {kvs : List (List Key × V)} (c : C.Con L F H) (ht : H t = some (.frz od (.dT kvs))) (fD : ¬ F t) (rr : KDs C.X.K F H kvs kds) (hk : ∀ q ∈ kds, KOk q.1) : Mv F H F (upd H t (.dT kvs)) ∧ C.Con (put L t (.dct kds)) F (upd H t (.dT kvs)) := by
  have ne : ∀ b u, H b = some u → u ≠ .frz od (.dT kvs) → b ≠ t := fun b u eb nd q => by rw [q, ht] at eb; exact nd (Option.some.inj eb).symm
  have st : Stay H (upd H t (.dT kvs)) := ⟨fun b vs eb => by rw [upd_ne (ne b _ eb fun z => nomatch z)]; exact eb, fun b o xs eb => by rw [upd_ne (ne b _ eb fun z => by cases z)]; exact eb, fun b eb => by rw [upd_ne (ne b _ eb fun z => nomatch z)]; exact eb⟩
  have mv : Mv F H F (upd H t (.dT kvs)) := .hid st fD
  refine ⟨mv, ⟨fun b u eb => ?_, fun b z => ?_⟩⟩
  · by_cases hb : b = t
    · subst hb
      rw [put_same] at eb
      cases eb
      exact ⟨kvs, upd_same, KDs.mono mv rr, hk⟩
    · rw [put_ne hb] at eb
      exact (c.at_ b u eb).mono mv (upd_ne hb)
  · have hb : b ≠ t := fun q => fD (q ▸ z)
    rw [put_ne hb, upd_ne hb]
    exact c.fz b z
theorem put_del {t q : Addr} {u w : MO} (ht : L t = some u) (hq : del L t q = none) (hqt : q ≠ t) : put (put (del L t) q w) t u = put L q w := by
  funext b
  unfold put del
  by_cases h1 : b = t
  · rw [if_pos h1, h1, if_neg (fun z => hqt z.symm), ht]
  · rw [if_neg h1, if_neg h1]
/-- [elt for x in d], d a dict: x its keys -/
theorem al_keys1 (i : Nat) {x : Str} {px : Pos} {scope : Scope} {R : List D → Lp → Prop} {α : Type} {xs : List α} {g f : α → D} (hd : DR L d kds) (hi : ∀ L', AV C iter Γ L' d) (ek : (kds.map fun x => kD x.1) = xs.map g) (hz : xs.length ≤ sizeLine)
    (hf : ∀ L', Le L' L → ∀ y ∈ xs, ∀ s H Cc cl fp, AV (bctx C scope s H Cc cl fp) elt ((wipeG Γ [i]).set i (some (g y))) L' (f y)) (q : R (xs.map f) L)
    (hN : C.X.N[i]? = some x := by rfl) (hag : ∀ s H Cc cl fp d Γ, AG (bctx C scope s H Cc cl fp) (.Name x px) d Γ (Γ.set i (some d)) [i] := by (intro _ _ _ _ _ _ _; exact ag_name _))
    (ok : BlkOk C.X.N C.X.env.scope scope [(x, i)] := by (dsimp only [fctx, bctx, cxOf, envOfC, compEnvC, Cx.blk]; exact blkOk_by (by decide +kernel))) (hs : ∀ x, foldedSetIterable iter C.X.env x = pure x := by intro _; rfl) : AL C (.ListComp elt [⟨.Name x px, iter, [], 0⟩] scope pos) Γ L R := by
  rcases hd with ⟨t, rfl, ht⟩ | rfl
  · intro F σ H okk QV go
    obtain ⟨kvs, e, rr, hk⟩ := okk.con.at_ t _ ht
    have nft := okk.con.nw ht
    refine we_of (pe_lock (pe_lc (g := gB C scope (.Name x px)) (tt := ttB C scope []) (te := teB C scope elt) C.calm C.nd pi_wi ok (fun s H0 Cc cl fp => ⟨fun pins s1 σ1 H1 v u Q1 I r q => (q s H0 Cc cl fp).run pins s1 u I r⟩) (fun s H0 Cc cl fp => ⟨fun pins s1 σ1 H1 Q1 I q => (q s H0 Cc cl fp).run pins s1 I⟩) (fun s H0 Cc cl fp => ⟨fun pins s1 σ1 H1 Q1 I q => (q s H0 Cc cl fp).run pins s1 I⟩) hs)) ⟨t, .dT kvs, e, True.intro, fun od => ?_⟩
    have ne : ∀ b u, H b = some u → (∀ k, u ≠ .dT k) → b ≠ t := fun b u eb nd z => by rw [z, e] at eb; exact nd _ (Option.some.inj eb).symm
    have st : Stay H (upd H t (.frz od (.dT kvs))) := ⟨fun b vs eb => by rw [upd_ne (ne b _ eb fun _ z => nomatch z)]; exact eb, fun b o xs eb => by rw [upd_ne (ne b _ eb fun _ z => nomatch z)]; exact eb, fun b eb => by rw [upd_ne (ne b _ eb fun _ z => nomatch z)]; exact eb⟩
    have mv : Mv F H F (upd H t (.frz od (.dT kvs))) := .hid st nft
    have fr : Fr L F H (del L t) F (upd H t (.frz od (.dT kvs))) := ⟨fun b u eb _ nb => by rw [upd_ne (fun z => by rw [z, ht] at nb; cases nb)]; exact eb, fun b z => upd_live z, st, fun b z => .inl ((del_le t).ne z), mv.fz, mv.fk, fun b z => .inl z⟩
    have c1 : C.Con (del L t) F (upd H t (.frz od (.dT kvs))) := ((okk.con.le (del_le t)).hid st del_same nft)
    have ok1 : Ok C Γ (del L t) F σ (upd H t (.frz od (.dT kvs))) := ⟨okk.sl.mono mv, c1, okk.lr.step fr⟩
    have rr1 := KDs.mono mv rr
    refine lc_read0 (own := [(x, i)]) (Q := fun d L2 => ∃ q, d = .ptr q ∧ del L t q = none ∧ L2 = put (del L t) q (.lst (xs.map f))) ok1 (fun v d H' L' r c f2 ⟨q', ed, hq, eL⟩ => ?_) (fun RV g2 => ?_)
    · subst ed eL
      obtain ⟨lt, ft, ht'⟩ := f2.hid upd_same (fun _ z => nomatch z) del_same nft
      have hqt : q' ≠ t := fun z => by rw [z, put_same] at lt; cases lt
      obtain ⟨mv2, c2⟩ := unlock c ht' ft (KDs.mono f2.mv rr1) hk
      rw [put_del ht hq hqt] at c2
      have hq0 : L q' = none := by rw [del_ne hqt] at hq; exact hq
      refine ⟨ht', go v (.ptr q') _ _ (r.mono mv2) c2 ?_ ⟨L, q', _, rfl, hq0, rfl, fun _ => q⟩⟩
      refine ⟨fun b u eb no nb => ?_, fun b z => upd_live (f2.live b (upd_live z)), (st.trans f2.stay).trans mv2.stay, fun b z => ?_, fun b z => f2.fz b z, fun b u z eb => mv2.fk b u (f2.fz b z) (f2.fk b u z (mv.fk b u z eb)), fun b z => ?_⟩
      · have hb : b ≠ t := fun z => by rw [z, ht] at nb; cases nb
        rw [upd_ne hb]
        exact f2.keep b u (by rw [upd_ne hb]; exact eb) no (by rw [del_ne hb]; exact nb)
      · by_cases hb : b = q'
        · rw [hb]
          rcases f2.dom q' (by rw [put_same]; simp) with z2 | z2
          · exact absurd hq z2
          · rw [upd_ne hqt] at z2
            exact .inr z2
        · rw [put_ne hb] at z
          exact .inl z
      · rcases f2.off b z with z | z | z
        · exact .inl z
        · exact .inr (.inl ((del_le t).ne z))
        · by_cases hb : b = t
          · rw [hb, upd_same] at z; cases z
          · rw [upd_ne hb] at z
            exact .inr (.inr z)
    · refine wi_of (pi_keys pe_we) (hi (del L t) (fun d L2 => d = .ptr t ∧ L2 = del L t) ⟨rfl, rfl⟩ _ σ _ ok1 _ fun v d H2 L2 r2 c2 f2 ⟨ed, eL⟩ => ?_)
      subst ed eL
      have ht2 := f2.keep t _ upd_same (fun _ z => nomatch z) del_same
      refine ⟨t, od, r2.ptrE, .inr ⟨kvs, ht2, g2 _ H2 _ (kds.map fun x => kD x.1) (fun _ => True) c2 f2 (itkt_is (fun F3 L3 H3 s => s.keep t _ ht2 (fun _ z => nomatch z) del_same) (KDs.mono f2.mv rr1) hk) ?_⟩⟩
      rw [ek]
      obtain ⟨I, i0, i1, i2, i3⟩ := lc_pure (C := C) (tg := .Name x px) (Γ := Γ) (elt := elt) (own := [(x, i)]) (scope := scope) (ifs := []) (xs := xs) (g := g) (f := f) (t := fun _ => true) (G := fun _ => True) (L1 := del L t) (R := fun acc L2 => acc = xs.map f ∧ L2 = del L t) (Γ3 := fun y => (wipeG Γ [i]).set i (some (g y))) (ws := [i]) trivial hz (fun j hj => hj) (fun y hy s H Cc cl fp => ⟨hag s H Cc cl fp _ _, fun Q q => ats_nil q, fun _ => hf (del L t) (del_le t) y hy s H Cc cl fp⟩) ⟨by rw [List.filter_eq_self.mpr fun _ _ => rfl], rfl⟩
      refine ⟨I, i0, i1, i2, fun acc L2 hI p hp => ?_⟩
      obtain ⟨e1, e2⟩ := i3 acc L2 hI
      subst e1 e2
      exact ⟨p, rfl, hp, rfl⟩
  · exact al_map1 i (ai_fdct (hi L _ ⟨kds, rfl, α, xs, g, f, ek, trivial, by rw [ek, List.length_map]; exact hz, fun y hy s H Cc cl fp => hf L (.refl L) y hy s H Cc cl fp, q⟩)) hN hag ok hs
end
end DL
namespace DL
open PySem PySem.Spec PyProof.Rows L2
section
variable {C : Ctx} {Γ : Gm} {L : Lp} {a b c e : Expr} {pos : Pos} {Q : D → Lp → Prop}
theorem ae_eq (hu : C.X.A.units + 64 < cLine) (h : AE C a Γ L fun x L1 => AE C b Γ L1 fun y L2 => L2R C (rEqA C.X.K) x y L2 Q) (hm : behindInMarks .Eq b = false := by rfl) : AE C (.Compare a [.Eq] [b] pos) Γ L Q := ae_cmp (op_eqA hu) hm h
theorem at_eq (hu : C.X.A.units + 64 < cLine) {Q : Bool → Lp → Prop} (h : AE C a Γ L fun x L1 => AE C b Γ L1 fun y L2 => L2R C (rEqA C.X.K) x y L2 fun d L3 => ∃ k, d = .bl k ∧ Q k L3) (hm : behindInMarks .Eq b = false := by rfl) : AT C (.Compare a [.Eq] [b] pos) Γ L Q := at_cmp (op_eqA hu) hm h
theorem ae_ne (hu : C.X.A.units + 64 < cLine) (h : AE C a Γ L fun x L1 => AE C b Γ L1 fun y L2 => L2R C (rNeA C.X.K) x y L2 Q) (hm : behindInMarks .NotEq b = false := by rfl) : AE C (.Compare a [.NotEq] [b] pos) Γ L Q := ae_cmp (op_neA hu) hm h
theorem at_ne (hu : C.X.A.units + 64 < cLine) {Q : Bool → Lp → Prop} (h : AE C a Γ L fun x L1 => AE C b Γ L1 fun y L2 => L2R C (rNeA C.X.K) x y L2 fun d L3 => ∃ k, d = .bl k ∧ Q k L3) (hm : behindInMarks .NotEq b = false := by rfl) : AT C (.Compare a [.NotEq] [b] pos) Γ L Q := at_cmp (op_neA hu) hm h
theorem ae_lt (hu : C.X.A.units + 64 < cLine) (h : AE C a Γ L fun x L1 => AE C b Γ L1 fun y L2 => L2R C (rLtA C.X.K) x y L2 Q) (hm : behindInMarks .Lt b = false := by rfl) : AE C (.Compare a [.Lt] [b] pos) Γ L Q := ae_cmp (op_ltA hu) hm h
theorem at_lt (hu : C.X.A.units + 64 < cLine) {Q : Bool → Lp → Prop} (h : AE C a Γ L fun x L1 => AE C b Γ L1 fun y L2 => L2R C (rLtA C.X.K) x y L2 fun d L3 => ∃ k, d = .bl k ∧ Q k L3) (hm : behindInMarks .Lt b = false := by rfl) : AT C (.Compare a [.Lt] [b] pos) Γ L Q := at_cmp (op_ltA hu) hm h
theorem ae_le (h : AE C a Γ L fun x L1 => AE C b Γ L1 fun y L2 => L2R C (rLeA) x y L2 Q) (hm : behindInMarks .LtE b = false := by rfl) : AE C (.Compare a [.LtE] [b] pos) Γ L Q := ae_cmp (op_leA) hm h
theorem at_le {Q : Bool → Lp → Prop} (h : AE C a Γ L fun x L1 => AE C b Γ L1 fun y L2 => L2R C (rLeA) x y L2 fun d L3 => ∃ k, d = .bl k ∧ Q k L3) (hm : behindInMarks .LtE b = false := by rfl) : AT C (.Compare a [.LtE] [b] pos) Γ L Q := at_cmp (op_leA) hm h
theorem ae_gt (h : AE C a Γ L fun x L1 => AE C b Γ L1 fun y L2 => L2R C (rGtA) x y L2 Q) (hm : behindInMarks .Gt b = false := by rfl) : AE C (.Compare a [.Gt] [b] pos) Γ L Q := ae_cmp (op_gtA) hm h
theorem at_gt {Q : Bool → Lp → Prop} (h : AE C a Γ L fun x L1 => AE C b Γ L1 fun y L2 => L2R C (rGtA) x y L2 fun d L3 => ∃ k, d = .bl k ∧ Q k L3) (hm : behindInMarks .Gt b = false := by rfl) : AT C (.Compare a [.Gt] [b] pos) Γ L Q := at_cmp (op_gtA) hm h
theorem ae_ge (h : AE C a Γ L fun x L1 => AE C b Γ L1 fun y L2 => L2R C (rGeA) x y L2 Q) (hm : behindInMarks .GtE b = false := by rfl) : AE C (.Compare a [.GtE] [b] pos) Γ L Q := ae_cmp (op_geA) hm h
theorem at_ge {Q : Bool → Lp → Prop} (h : AE C a Γ L fun x L1 => AE C b Γ L1 fun y L2 => L2R C (rGeA) x y L2 fun d L3 => ∃ k, d = .bl k ∧ Q k L3) (hm : behindInMarks .GtE b = false := by rfl) : AT C (.Compare a [.GtE] [b] pos) Γ L Q := at_cmp (op_geA) hm h
theorem ae_in (hu : C.X.A.units + 1 < cLine) (h : AE C a Γ L fun x L1 => AE C b Γ L1 fun y L2 => L2R C (rInA C.X.K) x y L2 Q) (hm : behindInMarks .In b = false := by rfl) : AE C (.Compare a [.In] [b] pos) Γ L Q := ae_cmp (op_inA hu) hm h
theorem at_in (hu : C.X.A.units + 1 < cLine) {Q : Bool → Lp → Prop} (h : AE C a Γ L fun x L1 => AE C b Γ L1 fun y L2 => L2R C (rInA C.X.K) x y L2 fun d L3 => ∃ k, d = .bl k ∧ Q k L3) (hm : behindInMarks .In b = false := by rfl) : AT C (.Compare a [.In] [b] pos) Γ L Q := at_cmp (op_inA hu) hm h
theorem ae_nin (hu : C.X.A.units + 1 < cLine) (h : AE C a Γ L fun x L1 => AE C b Γ L1 fun y L2 => L2R C (rNotInA C.X.K) x y L2 Q) (hm : behindInMarks .NotIn b = false := by rfl) : AE C (.Compare a [.NotIn] [b] pos) Γ L Q := ae_cmp (op_notInA hu) hm h
theorem at_nin (hu : C.X.A.units + 1 < cLine) {Q : Bool → Lp → Prop} (h : AE C a Γ L fun x L1 => AE C b Γ L1 fun y L2 => L2R C (rNotInA C.X.K) x y L2 fun d L3 => ∃ k, d = .bl k ∧ Q k L3) (hm : behindInMarks .NotIn b = false := by rfl) : AT C (.Compare a [.NotIn] [b] pos) Γ L Q := at_cmp (op_notInA hu) hm h
theorem ae_is (h : AE C a Γ L fun x L1 => AE C b Γ L1 fun y L2 => L2R C (rIsA) x y L2 Q) (hm : behindInMarks .Is b = false := by rfl) : AE C (.Compare a [.Is] [b] pos) Γ L Q := ae_cmp (op_isA) hm h
theorem at_is {Q : Bool → Lp → Prop} (h : AE C a Γ L fun x L1 => AE C b Γ L1 fun y L2 => L2R C (rIsA) x y L2 fun d L3 => ∃ k, d = .bl k ∧ Q k L3) (hm : behindInMarks .Is b = false := by rfl) : AT C (.Compare a [.Is] [b] pos) Γ L Q := at_cmp (op_isA) hm h
theorem ae_isn (h : AE C a Γ L fun x L1 => AE C b Γ L1 fun y L2 => L2R C (rIsNotA) x y L2 Q) (hm : behindInMarks .IsNot b = false := by rfl) : AE C (.Compare a [.IsNot] [b] pos) Γ L Q := ae_cmp (op_isNotA) hm h
theorem at_isn {Q : Bool → Lp → Prop} (h : AE C a Γ L fun x L1 => AE C b Γ L1 fun y L2 => L2R C (rIsNotA) x y L2 fun d L3 => ∃ k, d = .bl k ∧ Q k L3) (hm : behindInMarks .IsNot b = false := by rfl) : AT C (.Compare a [.IsNot] [b] pos) Γ L Q := at_cmp (op_isNotA) hm h
theorem ae_add (h : AE C a Γ L fun x L1 => AE C b Γ L1 fun y L2 => L2R C (rAddA C.X.K) x y L2 Q) : AE C (.BinOp a .Add b pos) Γ L Q := ae_bin op_addA h
theorem ae_sub (h : AE C a Γ L fun x L1 => AE C b Γ L1 fun y L2 => L2R C (rSubA) x y L2 Q) : AE C (.BinOp a .Sub b pos) Γ L Q := ae_bin op_subA h
theorem ae_mul (h : AE C a Γ L fun x L1 => AE C b Γ L1 fun y L2 => L2R C (rMulA) x y L2 Q) : AE C (.BinOp a .Mult b pos) Γ L Q := ae_bin op_mulA h
theorem ae_mod (h : AE C a Γ L fun x L1 => AE C b Γ L1 fun y L2 => L2R C (rModA) x y L2 Q) : AE C (.BinOp a .Mod b pos) Γ L Q := ae_bin op_modA h
theorem ae_div (h : AE C a Γ L fun x L1 => AE C b Γ L1 fun y L2 => L2R C (rDivA) x y L2 Q) : AE C (.BinOp a .FloorDiv b pos) Γ L Q := ae_bin op_divA h
theorem ae_c_len {p : Pos} (hm : C.X.mg "len" = none) (h : AE C a Γ L fun x L1 => LcR C (rLenA C.X.K) [x] L1 Q) (hg : Gl C.X "len" := by rfl) (he : starEach [a] C.X.env = [(false, eval a C.X.env)] := by rfl) : AE C (.Call (.Name "len" p) [a] [] pos) Γ L Q := ae_callB call_lenA hm (aa_cons (h.mono fun x L1 q => aa_nil q) he) (hg := hg) (he := he)
theorem ae_c_int {p : Pos} (hm : C.X.mg "int" = none) (h : AE C a Γ L fun x L1 => LcR C (rInt1) [x] L1 Q) (hg : Gl C.X "int" := by rfl) (he : starEach [a] C.X.env = [(false, eval a C.X.env)] := by rfl) : AE C (.Call (.Name "int" p) [a] [] pos) Γ L Q := ae_callT call_int1 hm (aa_cons (h.mono fun x L1 q => aa_nil q) he) (hg := hg) (he := he)
theorem ae_c_abs {p : Pos} (hm : C.X.mg "abs" = none) (h : AE C a Γ L fun x L1 => LcR C (rAbs) [x] L1 Q) (hg : Gl C.X "abs" := by rfl) (he : starEach [a] C.X.env = [(false, eval a C.X.env)] := by rfl) : AE C (.Call (.Name "abs" p) [a] [] pos) Γ L Q := ae_callB call_abs hm (aa_cons (h.mono fun x L1 q => aa_nil q) he) (hg := hg) (he := he)
theorem ae_c_tuple {p : Pos} (hm : C.X.mg "tuple" = none) (h : AE C a Γ L fun x L1 => LcR C (rTupOf C.X.K) [x] L1 Q) (hg : Gl C.X "tuple" := by rfl) (he : starEach [a] C.X.env = [(false, eval a C.X.env)] := by rfl) : AE C (.Call (.Name "tuple" p) [a] [] pos) Γ L Q := ae_callT call_tuple_of hm (aa_cons (h.mono fun x L1 q => aa_nil q) he) (hg := hg) (he := he)
theorem ae_c_max {p : Pos} (hm : C.X.mg "max" = none) (h : AE C a Γ L fun x L1 => AE C b Γ L1 fun y L2 => LcR C (rMx) [x, y] L2 Q) (hg : Gl C.X "max" := by rfl) (he : starEach [a, b] C.X.env = (false, eval a C.X.env) :: starEach [b] C.X.env := by rfl) (he2 : starEach [b] C.X.env = [(false, eval b C.X.env)] := by rfl) (hpl : (backTo pos (starEach [b] C.X.env)).any (·.1) = false := by rfl) : AE C (.Call (.Name "max" p) [a, b] [] pos) Γ L Q := ae_callB (call_max2 C.calm) hm (aa_cons (h.mono fun x L1 q => aa_cons (q.mono fun y L2 q => aa_nil q) he2) he) (hg := hg) (he := he) (hpl := hpl)
theorem ae_c_min {p : Pos} (hm : C.X.mg "min" = none) (h : AE C a Γ L fun x L1 => AE C b Γ L1 fun y L2 => LcR C (rMn) [x, y] L2 Q) (hg : Gl C.X "min" := by rfl) (he : starEach [a, b] C.X.env = (false, eval a C.X.env) :: starEach [b] C.X.env := by rfl) (he2 : starEach [b] C.X.env = [(false, eval b C.X.env)] := by rfl) (hpl : (backTo pos (starEach [b] C.X.env)).any (·.1) = false := by rfl) : AE C (.Call (.Name "min" p) [a, b] [] pos) Γ L Q := ae_callB (call_min2 C.calm) hm (aa_cons (h.mono fun x L1 q => aa_cons (q.mono fun y L2 q => aa_nil q) he2) he) (hg := hg) (he := he) (hpl := hpl)
theorem ae_c_isi {p : Pos} (hm : C.X.mg "isinstance" = none) (h : AE C a Γ L fun x L1 => AE C b Γ L1 fun y L2 => LcR C (rIsi C.X.K) [x, y] L2 Q) (hg : Gl C.X "isinstance" := by rfl) (he : starEach [a, b] C.X.env = (false, eval a C.X.env) :: starEach [b] C.X.env := by rfl) (he2 : starEach [b] C.X.env = [(false, eval b C.X.env)] := by rfl) (hpl : (backTo pos (starEach [b] C.X.env)).any (·.1) = false := by rfl) : AE C (.Call (.Name "isinstance" p) [a, b] [] pos) Γ L Q := ae_callB call_isi hm (aa_cons (h.mono fun x L1 q => aa_cons (q.mono fun y L2 q => aa_nil q) he2) he) (hg := hg) (he := he) (hpl := hpl)
/-- a <= b <= c -/
theorem ae_lele (h : AE C a Γ L fun x L1 => AE C b Γ L1 fun y L2 => L2R C rLeA x y L2 fun d L3 => ∃ k, d = .bl k ∧ (k = true → AE C c Γ L3 fun z L4 => L2R C rLeA y z L4 Q) ∧ (k = false → Q (.bl false) L3)) (hm : lastMarks [.LtE, .LtE] [b, c] = false := by rfl) : AE C (.Compare a [.LtE, .LtE] [b, c] pos) Γ L Q := ae_chain op_leA op_leA h (pe_chain op_leA op_leA pe_we pe_we pe_we (hm := hm))
theorem at_lele {Q : Bool → Lp → Prop} (h : AE C a Γ L fun x L1 => AE C b Γ L1 fun y L2 => L2R C rLeA x y L2 fun d L3 => ∃ k, d = .bl k ∧ (k = true → AE C c Γ L3 fun z L4 => L2R C rLeA y z L4 fun d L5 => ∃ k, d = .bl k ∧ Q k L5) ∧ (k = false → Q false L3)) (hm : lastMarks [.LtE, .LtE] [b, c] = false := by rfl) : AT C (.Compare a [.LtE, .LtE] [b, c] pos) Γ L Q := at_chain op_leA op_leA h (pt_chain op_leA op_leA pe_we pe_we pe_we (hm := hm))
end
end DL
namespace DL
open PySem PySem.Spec PyProof.Rows L2
section
variable {C : Ctx} {Γ : Gm} {L : Lp} {Q : D → Lp → Prop}

theorem eq_W {a b : List Wd} (q : Q (.bl (decide (a = b))) L) : L2R C (rEqA C.X.K) (dW a) (dW b) L Q := eq_E (α := List Str) q

theorem ne_W {a b : List Wd} (q : Q (.bl (!decide (a = b))) L) : L2R C (rNeA C.X.K) (dW a) (dW b) L Q := ne_E (α := List Str) q
theorem eq_C {a b : List Cell} (q : Q (.bl (decide (a = b))) L) : L2R C (rEqA C.X.K) (dC a) (dC b) L Q := eq_E (α := List (List Str)) q
theorem ne_C {a b : List Cell} (q : Q (.bl (!decide (a = b))) L) : L2R C (rNeA C.X.K) (dC a) (dC b) L Q := ne_E (α := List (List Str)) q
theorem eq_R {a b : Rl} (q : Q (.bl (decide (a = b))) L) : L2R C (rEqA C.X.K) (dR a) (dR b) L Q := eq_E (α := List (List Str × List (List Str))) q
theorem ne_R {a b : Rl} (q : Q (.bl (!decide (a = b))) L) : L2R C (rNeA C.X.K) (dR a) (dR b) L Q := ne_E (α := List (List Str × List (List Str))) q
/-- against () -/
theorem eq_W0 {a : List Wd} (q : Q (.bl a.isEmpty) L) : L2R C (rEqA C.X.K) (dW a) (.tup []) L Q := by
  have h : L2R C (rEqA C.X.K) (dW a) (dW []) L Q := eq_W (by cases a <;> exact q)
  exact h
/-! ### isinstance, by kinds -/
theorem isi_tt {ds : List D} (q : Q (.bl true) L) : LcR C (rIsi C.X.K) [.tup ds, .ty "tuple"] L Q := c_isi trivial (by exact (by decide +kernel : kitB "tuple" "tuple" = some true)) q
theorem isi_ii {i : Int} (q : Q (.bl true) L) : LcR C (rIsi C.X.K) [.int i, .ty "int"] L Q := c_isi trivial (by exact (by decide +kernel : kitB "int" "int" = some true)) q
theorem isi_ib {i : Int} (q : Q (.bl false) L) : LcR C (rIsi C.X.K) [.int i, .ty "bool"] L Q := c_isi trivial (by exact (by decide +kernel : kitB "int" "bool" = some false)) q
theorem isi_ss {x : Str} (q : Q (.bl true) L) : LcR C (rIsi C.X.K) [.str x, .ty "str"] L Q := c_isi trivial (by exact (by decide +kernel : kitB "str" "str" = some true)) q
theorem isi_is {i : Int} (q : Q (.bl false) L) : LcR C (rIsi C.X.K) [.int i, .ty "str"] L Q := c_isi trivial (by exact (by decide +kernel : kitB "int" "str" = some false)) q
theorem isi_ts {ds : List D} (q : Q (.bl false) L) : LcR C (rIsi C.X.K) [.tup ds, .ty "str"] L Q := c_isi trivial (by exact (by decide +kernel : kitB "tuple" "str" = some false)) q
theorem isi_st {x : Str} (q : Q (.bl false) L) : LcR C (rIsi C.X.K) [.str x, .ty "tuple"] L Q := c_isi trivial (by exact (by decide +kernel : kitB "str" "tuple" = some false)) q
theorem isi_bb {b : Bool} (q : Q (.bl true) L) : LcR C (rIsi C.X.K) [.bl b, .ty "bool"] L Q := c_isi trivial (by exact (by decide +kernel : kitB "bool" "bool" = some true)) q
/-- a statement, by what holds behind it -/
theorem as_post {E : AEnds} {st : Stmt} (M : Gm → Lp → Prop) (h : AS C st Γ L { E with nx := M }) (h2 : ∀ Γ' L', M Γ' L' → E.nx Γ' L') : AS C st Γ L E := fun F σ H ok DD go => h F σ H ok DD ⟨fun s H2 Γ2 L2 o f q => go.nx s H2 Γ2 L2 o f (h2 _ _ q), go.rt, go.bk, go.ct⟩
theorem q_bl {b b' : Bool} (q : Q (.bl b) L) (h : b = b') : Q (.bl b') L := h ▸ q
end
end DL
namespace DL
open PySem PySem.Spec PyProof.Rows L2
/-! ### what is certain grows -/
theorem wAt_shift (xs : List Cell) (b a m : Nat) : wAt xs (b + a) m = wAt (xs.drop b) a m := by
  unfold wAt
  rw [List.drop_drop]
theorem fits_shift (rs : Rl) (xs : List Cell) (b a m : Nat) : fits rs xs (b + a) m = fits rs (xs.drop b) a m := by
  unfold fits
  rw [wAt_shift]
theorem szAt_shift (rs : Rl) (xs : List Cell) (b a : Nat) : szAt rs xs (b + a) = szAt rs (xs.drop b) a := by
  unfold szAt
  rw [fits_shift, fits_shift, fits_shift]
theorem kAt_shift (rs : Rl) (xs : List Cell) (b a : Nat) : kAt rs xs (b + a) = kAt rs (xs.drop b) a := by
  unfold kAt
  rw [szAt_shift, wAt_shift]
theorem wrt_shift (rs : Rl) (xs : List Cell) (b a : Nat) : wrt rs xs (b + a) = wrt rs (xs.drop b) a := by
  unfold wrt
  rw [szAt_shift, kAt_shift, List.getD_eq_getElem?_getD, List.getD_eq_getElem?_getD, List.getElem?_drop]
theorem wait_shift (rs : Rl) (xs : List Cell) (b a : Nat) : wait rs xs (b + a) = wait rs (xs.drop b) a := by
  unfold wait
  rw [wAt_shift, List.length_drop, Nat.sub_add_eq]
theorem goes_shift (w : Bool) (rs : Rl) (xs : List Cell) (b a : Nat) : goes w rs xs (b + a) = goes w rs (xs.drop b) a := by
  unfold goes
  rw [wait_shift, List.length_drop]
  congr 1
  by_cases h : b + a < xs.length
  · rw [decide_eq_true h, decide_eq_true (by omega)]
  · rw [decide_eq_false h, decide_eq_false (by omega)]
theorem rwG_shift (w : Bool) (rs : Rl) (xs : List Cell) (b : Nat) : ∀ n a, rwG w rs xs n (b + a) = ((rwG w rs (xs.drop b) n a).1, b + (rwG w rs (xs.drop b) n a).2)
  | 0, a => rfl
  | n + 1, a => by
    by_cases h : goes w rs xs (b + a) = true
    · have h2 : goes w rs (xs.drop b) a = true := by rw [← goes_shift]; exact h
      rw [rwG_step h, rwG_step h2, szAt_shift, wrt_shift, Nat.add_assoc, rwG_shift w rs xs b n]
    · have h1 : goes w rs xs (b + a) = false := by simpa using h
      have h2 : goes w rs (xs.drop b) a = false := by rw [← goes_shift]; exact h1
      rw [rwG_end h1, rwG_end h2]
theorem rwG_fuel {w : Bool} {rs : Rl} {cs : List Cell} : ∀ n m a, cs.length ≤ a + n → cs.length ≤ a + m → rwG w rs cs n a = rwG w rs cs m a
  | 0, m, a, h1, h2 => by
    have hg : goes w rs cs a = false := by unfold goes; rw [decide_eq_false (by omega)]; rfl
    rw [rwG_end hg, rwG_end hg]
  | n + 1, m, a, h1, h2 => by
    by_cases h : goes w rs cs a = true
    · have hl := goes_lt h
      obtain ⟨m, rfl⟩ : ∃ m', m = m' + 1 := ⟨m - 1, by omega⟩
      rw [rwG_step h, rwG_step h, rwG_fuel n m _ (by omega) (by omega)]
    · have hg : goes w rs cs a = false := by simpa using h
      rw [rwG_end hg, rwG_end hg]
theorem wAt_all {xs : List Cell} (h : ∀ c ∈ xs, c.length = 1) : wAt xs 0 xs.length = some (xs.map hd0) := by
  unfold wAt
  rw [List.drop_zero, List.take_length, if_neg]
  · rfl
  · rintro (h1 | h1)
    · exact Nat.lt_irrefl _ h1
    · obtain ⟨c, hc, e⟩ := List.any_eq_true.mp h1
      exact of_decide_eq_true e (h c hc)
theorem wait_of {rs : Rl} {xs : List Cell} (hl : xs.length < 3) (h1 : ∀ c ∈ xs, c.length = 1) {r : List Wd × List Cell} (hr : r ∈ rs) (hn : xs.length < r.1.length) (ht : r.1.take xs.length = xs.map hd0) : wait rs xs 0 = true := by
  unfold wait
  rw [Nat.sub_zero, decide_eq_true hl, wAt_all h1]
  show (rs.any _) = true
  exact List.any_eq_true.mpr ⟨r, hr, by rw [decide_eq_true hn, decide_eq_true ht]; rfl⟩
theorem wait_ex {rs : Rl} {xs : List Cell} (h : wait rs xs 0 = true) : xs.length < 3 ∧ (∀ c ∈ xs, c.length = 1) ∧ ∃ r ∈ rs, xs.length < r.1.length ∧ r.1.take xs.length = xs.map hd0 := by
  unfold wait at h
  rw [Nat.sub_zero, Bool.and_eq_true] at h
  refine ⟨of_decide_eq_true h.1, ?_⟩
  cases e : wAt xs 0 xs.length with
  | none => rw [e] at h; cases h.2
  | some ws =>
    rw [e] at h
    obtain ⟨e1, e2⟩ := wAt_heads e
    rw [List.drop_zero, List.take_length] at e1 e2
    obtain ⟨r, hr, q⟩ := List.any_eq_true.mp h.2
    rw [Bool.and_eq_true] at q
    exact ⟨e2, r, hr, of_decide_eq_true q.1, by rw [of_decide_eq_true q.2, e1]⟩
theorem fits_app {rs : Rl} {xs : List Cell} (ys : List Cell) {m : Nat} (h : wait rs xs 0 = false) (hm : m ≤ 3) : fits rs (xs ++ ys) 0 m = fits rs xs 0 m := by
  by_cases hl : m ≤ xs.length
  · unfold fits wAt
    rw [List.drop_zero, List.drop_zero, List.take_append_of_le_length hl]
  · have e1 : fits rs xs 0 m = false := by
      rw [fits_eq, List.drop_zero, decide_eq_false (by rw [List.length_take]; omega)]
      rfl
    rw [e1]
    cases e : fits rs (xs ++ ys) 0 m with
    | false => rfl
    | true =>
      obtain ⟨w, z, k1, k2⟩ := fits_w e
      obtain ⟨e2, e3⟩ := wAt_heads k1
      have e4 := wAt_len k1
      rw [List.drop_zero] at e2 e3
      have htk : (xs ++ ys).take m = xs ++ ys.take (m - xs.length) := by rw [List.take_append, List.take_of_length_le (by omega)]
      rw [htk] at e2 e3
      have : wait rs xs 0 = true := wait_of (by omega) (fun c hc => e3 c (List.mem_append_left _ hc)) (lk_mem k2) (by rw [e4]; omega) (by
        show w.take xs.length = _
        rw [e2, List.map_append, List.take_append_of_le_length (by rw [List.length_map]; exact Nat.le_refl _), List.take_of_length_le (by rw [List.length_map]; exact Nat.le_refl _)])
      rw [h] at this
      cases this
theorem wait_app {rs : Rl} {xs : List Cell} (ys : List Cell) (h : wait rs xs 0 = false) : wait rs (xs ++ ys) 0 = false := by
  cases e : wait rs (xs ++ ys) 0 with
  | false => rfl
  | true =>
    obtain ⟨e1, e2, r, hr, e3, e4⟩ := wait_ex e
    rw [List.length_append] at e1 e3 e4
    have : wait rs xs 0 = true := wait_of (by omega) (fun c hc => e2 c (List.mem_append_left _ hc)) hr (by omega) (by
      have := congrArg (List.take xs.length) e4
      rw [List.take_take, Nat.min_eq_left (by omega), List.map_append, List.take_append_of_le_length (by rw [List.length_map]; exact Nat.le_refl _), List.take_of_length_le (l := xs.map hd0) (by rw [List.length_map]; exact Nat.le_refl _)] at this
      exact this)
    rw [h] at this
    cases this
theorem go_app {rs : Rl} {cs : List Cell} (ds : List Cell) {a : Nat} (h : goes false rs cs a = true) : goes false rs (cs ++ ds) a = true ∧ szAt rs (cs ++ ds) a = szAt rs cs a ∧ wrt rs (cs ++ ds) a = wrt rs cs a := by
  have hl := goes_lt h
  have hw : wait rs (cs.drop a) 0 = false := by
    rw [← wait_shift, Nat.add_zero]
    unfold goes at h
    rw [decide_eq_true hl] at h
    simpa using h
  have hd : (cs ++ ds).drop a = cs.drop a ++ ds := List.drop_append_of_le_length (by omega)
  have hne : 0 < (cs.drop a).length := by rw [List.length_drop]; omega
  have e1 : szAt rs (cs ++ ds) a = szAt rs cs a := by
    rw [show a = a + 0 from rfl, szAt_shift, szAt_shift, hd]
    unfold szAt
    rw [fits_app ds hw (by omega), fits_app ds hw (by omega), fits_app ds hw (by omega)]
  refine ⟨?_, e1, ?_⟩
  · rw [show a = a + 0 from rfl, goes_shift, hd]
    unfold goes
    rw [decide_eq_true (by rw [List.length_append]; omega), wait_app ds hw]
    rfl
  · unfold wrt kAt
    rw [e1]
    by_cases h0 : szAt rs cs a = 0
    · rw [if_pos h0, if_pos h0, List.getD_eq_getElem?_getD, List.getD_eq_getElem?_getD, List.getElem?_append_left hl]
    · rw [if_neg h0, if_neg h0, if_neg h0]
      obtain ⟨z, k1, _⟩ := kAt_some h0
      have k2 := wAt_end k1 (by omega)
      have : wAt (cs ++ ds) a (szAt rs cs a) = wAt cs a (szAt rs cs a) := by
        unfold wAt
        rw [hd, List.take_append_of_le_length (by rw [List.length_drop]; omega)]
      rw [this, if_neg h0]
theorem rwG_app {rs : Rl} {cs : List Cell} (ds : List Cell) : ∀ n N a, a ≤ cs.length → cs.length ≤ a + n → cs.length + ds.length ≤ a + N → rwG false rs (cs ++ ds) N a = ((rwG false rs cs n a).1 ++ (rwG false rs (cs ++ ds) N (rwG false rs cs n a).2).1, (rwG false rs (cs ++ ds) N (rwG false rs cs n a).2).2)
  | 0, N, a, h0, h1, h2 => by
    show _ = ([] ++ _, _)
    rfl
  | n + 1, N, a, h0, h1, h2 => by
    by_cases h : goes false rs cs a = true
    · obtain ⟨g1, g2, g3⟩ := go_app ds h
      have hl := goes_lt h
      have he := kAt_end (rs := rs) hl
      obtain ⟨N, rfl⟩ : ∃ N', N = N' + 1 := ⟨N - 1, by omega⟩
      rw [rwG_step g1, rwG_step h, g2, g3]
      have ih := rwG_app (rs := rs) ds n (N + 1) (a + max 1 (szAt rs cs a)) he (by omega) (by omega)
      rw [rwG_fuel N (N + 1) (a + max 1 (szAt rs cs a)) (by rw [List.length_append]; omega) (by rw [List.length_append]; omega), ih]
      simp only [List.append_assoc]
    · have hg : goes false rs cs a = false := by simpa using h
      rw [rwG_end hg]
      rfl
/-- what is certain of a longer text -/
theorem rw2_app (rs : Rl) (cs ds : List Cell) : rw2 false rs (cs ++ ds) = ((rw2 false rs cs).1 ++ (rw2 false rs ((rw2 false rs cs).2 ++ ds)).1, (rw2 false rs ((rw2 false rs cs).2 ++ ds)).2) := by
  unfold rw2
  obtain ⟨hb, _⟩ := rwG_left (rs := rs) (cs := cs) cs.length 0 (Nat.zero_le _) (by omega)
  have h := rwG_app (rs := rs) (cs := cs) ds cs.length (cs ++ ds).length 0 (Nat.zero_le _) (by omega) (by rw [List.length_append]; omega)
  generalize rwG false rs cs cs.length 0 = cb at h hb ⊢
  obtain ⟨c, b⟩ := cb
  rw [h]
  have hd : (cs ++ ds).drop b = cs.drop b ++ ds := List.drop_append_of_le_length hb
  have e := rwG_shift false rs (cs ++ ds) b (cs ++ ds).length 0
  rw [hd, Nat.add_zero] at e
  have ef : rwG false rs (cs.drop b ++ ds) (cs ++ ds).length 0 = rwG false rs (cs.drop b ++ ds) (cs.drop b ++ ds).length 0 := rwG_fuel _ _ _ (by rw [List.length_append, List.length_append, List.length_drop]; omega) (by omega)
  rw [ef] at e
  show (c ++ (rwG false rs (cs ++ ds) (cs ++ ds).length b).1, List.drop (rwG false rs (cs ++ ds) (cs ++ ds).length b).2 (cs ++ ds)) = _
  rw [e, ← List.drop_drop, hd]
/-- what is left waits -/
theorem rwG_stop {rs : Rl} {cs : List Cell} : ∀ n a, a ≤ cs.length → cs.length ≤ a + n → goes false rs cs (rwG false rs cs n a).2 = false
  | 0, a, h0, h1 => by
    show goes false rs cs a = false
    unfold goes
    rw [decide_eq_false (by omega)]
    rfl
  | n + 1, a, h0, h1 => by
    by_cases h : goes false rs cs a = true
    · rw [rwG_step h]
      exact rwG_stop n _ (kAt_end (goes_lt h)) (by omega)
    · have hg : goes false rs cs a = false := by simpa using h
      rw [rwG_end hg]
      exact hg
theorem rw2_stop (rs : Rl) (cs : List Cell) : rw2 false rs (rw2 false rs cs).2 = ([], (rw2 false rs cs).2) ∧ (rw2 false rs cs).2.length ≤ 2 ∧ (rw2 false rs cs).2 = cs.drop (cs.length - (rw2 false rs cs).2.length) := by
  have hs := rwG_stop (rs := rs) (cs := cs) cs.length 0 (Nat.zero_le _) (by omega)
  obtain ⟨hb, _⟩ := rwG_left (rs := rs) (cs := cs) cs.length 0 (Nat.zero_le _) (by omega)
  unfold rw2
  generalize (rwG false rs cs cs.length 0).2 = b at hs hb ⊢
  have hs0 : goes false rs (cs.drop b) 0 = false := by rw [← goes_shift]; exact hs
  refine ⟨by rw [rwG_end hs0]; rfl, ?_, ?_⟩
  · show (cs.drop b).length ≤ 2
    unfold goes at hs0
    by_cases h0 : 0 < (cs.drop b).length
    · rw [decide_eq_true h0] at hs0
      have hw : wait rs (cs.drop b) 0 = true := by simpa using hs0
      have := (wait_ex hw).1
      omega
    · omega
  · show cs.drop b = _
    rw [List.length_drop]
    congr 1
    omega
end DL
namespace DL
open PySem PySem.Spec PyProof.Rows L2
/-! ### what is written at the end, behind what is certain -/
theorem goes_whole {rs : Rl} {xs : List Cell} {a : Nat} (h : goes false rs xs a = true) : goes true rs xs a = true := by
  unfold goes
  rw [decide_eq_true (goes_lt h)]
  rfl
theorem rwG_appT {rs : Rl} {cs : List Cell} (ds : List Cell) : ∀ n N a, a ≤ cs.length → cs.length ≤ a + n → cs.length + ds.length ≤ a + N → rwG true rs (cs ++ ds) N a = ((rwG false rs cs n a).1 ++ (rwG true rs (cs ++ ds) N (rwG false rs cs n a).2).1, (rwG true rs (cs ++ ds) N (rwG false rs cs n a).2).2)
  | 0, N, a, h0, h1, h2 => by
    show _ = ([] ++ _, _)
    rfl
  | n + 1, N, a, h0, h1, h2 => by
    by_cases h : goes false rs cs a = true
    · obtain ⟨g1, g2, g3⟩ := go_app ds h
      have hl := goes_lt h
      have he := kAt_end (rs := rs) hl
      obtain ⟨N, rfl⟩ : ∃ N', N = N' + 1 := ⟨N - 1, by omega⟩
      rw [rwG_step (goes_whole g1), rwG_step h, g2, g3]
      have ih := rwG_appT (rs := rs) ds n (N + 1) (a + max 1 (szAt rs cs a)) he (by omega) (by omega)
      rw [rwG_fuel N (N + 1) (a + max 1 (szAt rs cs a)) (by rw [List.length_append]; omega) (by rw [List.length_append]; omega), ih]
      simp only [List.append_assoc]
    · have hg : goes false rs cs a = false := by simpa using h
      rw [rwG_end hg]
      rfl
theorem rw2_appT (rs : Rl) (cs ds : List Cell) : rw2 true rs (cs ++ ds) = ((rw2 false rs cs).1 ++ (rw2 true rs ((rw2 false rs cs).2 ++ ds)).1, (rw2 true rs ((rw2 false rs cs).2 ++ ds)).2) := by
  unfold rw2
  obtain ⟨hb, _⟩ := rwG_left (rs := rs) (cs := cs) cs.length 0 (Nat.zero_le _) (by omega)
  have h := rwG_appT (rs := rs) (cs := cs) ds cs.length (cs ++ ds).length 0 (Nat.zero_le _) (by omega) (by rw [List.length_append]; omega)
  generalize rwG false rs cs cs.length 0 = cb at h hb ⊢
  obtain ⟨c, b⟩ := cb
  rw [h]
  have hd : (cs ++ ds).drop b = cs.drop b ++ ds := List.drop_append_of_le_length hb
  have e := rwG_shift true rs (cs ++ ds) b (cs ++ ds).length 0
  rw [hd, Nat.add_zero] at e
  have ef : rwG true rs (cs.drop b ++ ds) (cs ++ ds).length 0 = rwG true rs (cs.drop b ++ ds) (cs.drop b ++ ds).length 0 := rwG_fuel _ _ _ (by rw [List.length_append, List.length_append, List.length_drop]; omega) (by omega)
  rw [ef] at e
  show (c ++ (rwG true rs (cs ++ ds) (cs ++ ds).length b).1, List.drop (rwG true rs (cs ++ ds) (cs ++ ds).length b).2 (cs ++ ds)) = _
  rw [e, ← List.drop_drop, hd]
theorem rw1_app (rs : Rl) (cs ds : List Cell) : rw1 rs (cs ++ ds) = (rw2 false rs cs).1 ++ rw1 rs ((rw2 false rs cs).2 ++ ds) := by
  have h := congrArg Prod.fst (rw2_appT rs cs ds)
  rw [rw2_whole, rw2_whole] at h
  exact h
theorem one_hdN : ∀ {l : List Cell}, (∀ c ∈ l, c.length = 1) → one (l.map hd0) = l
  | [], _ => rfl
  | c :: l, h => by
    show [hd0 c] :: one (l.map hd0) = _
    rw [one_hdN fun d hd => h d (List.mem_cons_of_mem _ hd)]
    congr 1
    match c, h c List.mem_cons_self with
    | [x], _ => rfl
theorem thr_acc (wh : Bool) : ∀ (qs : List (Rl × List Wd)) (a l : List (List Wd)) (c : List Cell), qs.foldl (thrS wh) (a ++ l, c) = (a ++ (qs.foldl (thrS wh) (l, c)).1, (qs.foldl (thrS wh) (l, c)).2)
  | [], _, _, _ => rfl
  | q :: qs, a, l, c => by
    rw [List.foldl_cons, List.foldl_cons]
    show qs.foldl (thrS wh) ((a ++ l) ++ [_], _) = _
    rw [List.append_assoc, thr_acc wh qs]
    rfl
theorem thr_cons (wh : Bool) (q : Rl × List Wd) (qs : List (Rl × List Wd)) (cs : List Cell) : thr wh (q :: qs) cs = ((rw2 wh q.1 (one q.2 ++ cs)).2.map hd0 :: (thr wh qs (rw2 wh q.1 (one q.2 ++ cs)).1).1, (thr wh qs (rw2 wh q.1 (one q.2 ++ cs)).1).2) := by
  show qs.foldl (thrS wh) ([(rw2 wh q.1 (one q.2 ++ cs)).2.map hd0] ++ [], (rw2 wh q.1 (one q.2 ++ cs)).1) = _
  rw [thr_acc]
  rfl
/-- what is pending, what is certain, of a rewriter -/
def bg (rss : List Rl) (cs : List Cell) : List (List Wd) × List Cell := thr false (rss.map fun r => (r, [])) cs
theorem bg_cons (r : Rl) (rss : List Rl) (cs : List Cell) : bg (r :: rss) cs = ((rw2 false r cs).2.map hd0 :: (bg rss (rw2 false r cs).1).1, (bg rss (rw2 false r cs).1).2) := by
  unfold bg
  rw [List.map_cons, thr_cons]
  rfl
theorem bg_end : ∀ (rss : List Rl) (cs x : List Cell), (bg rss cs).2 ++ (thr true (rss.zip (bg rss cs).1) x).2 = rwAll rss (cs ++ x)
  | [], cs, x => rfl
  | r :: rss, cs, x => by
    rw [bg_cons, List.zip_cons_cons, thr_cons]
    dsimp only
    rw [one_hdN (rw2_left r cs), rw2_whole, bg_end rss]
    show _ = rwAll rss (rw1 r (cs ++ x))
    exact congrArg (rwAll rss) (rw1_app r cs x).symm
theorem bg_pre (rss : List Rl) (cs x : List Cell) : (rwAll rss (cs ++ x)).take (bg rss cs).2.length = (bg rss cs).2 := by
  rw [← bg_end, List.take_left]
theorem bg_len (rss : List Rl) (cs : List Cell) : (bg rss cs).1.length = rss.length := by
  unfold bg
  rw [thr_len1, List.length_map]
theorem thrT_len : ∀ (qs : List (Rl × List Wd)) (x : List Cell), (∀ q ∈ qs, RL2 q.1 ∧ q.2.length ≤ 2) → (thr true qs x).2.length ≤ (x.length + 4) * 2 ^ qs.length
  | [], x, _ => by show x.length ≤ (x.length + 4) * 1; omega
  | q :: qs, x, h => by
    rw [thr_cons]
    have h1 := h q List.mem_cons_self
    have h2 := rw2_len (w := true) h1.1 (one q.2 ++ x)
    have e1 : (one q.2).length = q.2.length := List.length_map ..
    rw [List.length_append, e1] at h2
    have ih := thrT_len qs (rw2 true q.1 (one q.2 ++ x)).1 fun z hz => h z (List.mem_cons_of_mem _ hz)
    refine Nat.le_trans ih ?_
    rw [List.length_cons, Nat.pow_succ, Nat.mul_comm (2 ^ qs.length) 2, ← Nat.mul_assoc]
    exact Nat.mul_le_mul_right _ (by omega)
theorem bg_nil : ∀ rss : List Rl, bg rss [] = (rss.map fun _ => [], [])
  | [] => rfl
  | r :: rss => by
    rw [bg_cons]
    have e : rw2 false r [] = ([], []) := rfl
    rw [e]
    show (_ :: (bg rss []).1, (bg rss []).2) = _
    rw [bg_nil rss]
    rfl
theorem bg_pend : ∀ (rss : List Rl) (cs : List Cell), ∀ p ∈ (bg rss cs).1, p.length ≤ 2
  | [], cs, p, hp => by cases hp
  | r :: rss, cs, p, hp => by
    rw [bg_cons] at hp
    rcases List.mem_cons.mp hp with e | hp
    · rw [e, List.length_map]
      exact (rw2_stop r cs).2.1
    · exact bg_pend rss _ p hp
/-! ### the law's own look at what waits -/
def waitL (rs : Rl) (xs : List Cell) : Bool := decide ((xs.filter fun c => decide (c.length = 1)).length = xs.length) && rs.any fun r => decide (xs.length < r.1.length) && decide (r.1.take xs.length = xs.map hd0)
theorem waitL_eq {rs : Rl} (h3 : ∀ r ∈ rs, r.1.length ≤ 3) (cs : List Cell) (a : Nat) : waitL rs (cs.drop a) = wait rs cs a := by
  rw [show wait rs cs a = wait rs (cs.drop a) 0 from wait_shift rs cs a 0]
  generalize cs.drop a = xs
  have hf : (xs.filter fun c => decide (c.length = 1)).length = xs.length ↔ ∀ c ∈ xs, c.length = 1 := by
    rw [List.length_filter_eq_length_iff]
    exact ⟨fun h c hc => of_decide_eq_true (h c hc), fun h c hc => decide_eq_true (h c hc)⟩
  cases e : wait rs xs 0 with
  | true =>
    obtain ⟨h1, h2, r, hr, h4, h5⟩ := wait_ex e
    unfold waitL
    rw [decide_eq_true (hf.mpr h2), Bool.true_and]
    exact List.any_eq_true.mpr ⟨r, hr, by rw [decide_eq_true h4, decide_eq_true h5]; rfl⟩
  | false =>
    cases e2 : waitL rs xs with
    | false => rfl
    | true =>
      unfold waitL at e2
      rw [Bool.and_eq_true] at e2
      obtain ⟨r, hr, q⟩ := List.any_eq_true.mp e2.2
      rw [Bool.and_eq_true] at q
      have h1 := of_decide_eq_true q.1
      have := h3 r hr
      have : wait rs xs 0 = true := wait_of (by omega) (hf.mp (of_decide_eq_true e2.1)) hr h1 (of_decide_eq_true q.2)
      rw [e] at this
      cases this
end DL
namespace DL
open PySem PySem.Spec PyProof.Rows L2
theorem filt_self {sm : List Cell} (h : (sm.filter fun c => decide (c.length = 1)).length = sm.length) : (sm.filter fun c => decide (c.length = 1)) = sm ∧ ∀ c ∈ sm, c.length = 1 := by
  rw [List.length_filter_eq_length_iff] at h
  exact ⟨List.filter_eq_self.mpr h, fun c hc => of_decide_eq_true (h c hc)⟩
theorem fits_filt (rs : Rl) (cs : List Cell) (a m : Nat) : fits rs cs a m = (decide ((((cs.drop a).take m).filter fun c => decide (c.length = 1)).length = m) && (lk rs ((((cs.drop a).take m).filter fun c => decide (c.length = 1)).map hd0)).isSome) := by
  rw [fits_eq]
  have hle : ((cs.drop a).take m).length ≤ m := by rw [List.length_take]; omega
  generalize (cs.drop a).take m = sm at hle ⊢
  have hfl : (sm.filter fun c => decide (c.length = 1)).length ≤ sm.length := List.length_filter_le _ _
  by_cases h : (sm.filter fun c => decide (c.length = 1)).length = m
  · obtain ⟨e1, e2⟩ := filt_self (sm := sm) (by omega)
    rw [e1] at h
    rw [e1, decide_eq_true h, List.all_eq_true.mpr fun c hc => decide_eq_true (e2 c hc), Bool.true_and, Bool.true_and]
  · rw [decide_eq_false h, Bool.false_and]
    by_cases h1 : sm.length = m
    · cases h2 : sm.all (fun c => decide (c.length = 1)) with
      | false => rw [Bool.and_false, Bool.false_and]
      | true =>
        exfalso
        apply h
        rw [List.filter_eq_self.mpr (List.all_eq_true.mp h2)]
        exact h1
    · rw [decide_eq_false h1, Bool.false_and, Bool.false_and]
end DL
namespace DL
open PySem PySem.Spec PyProof.Rows L2
/-! ### operators by their tags -/
inductive Tg where
  | cmp (op : CmpOp) | bin (op : Operator) | inp (op : Operator)
def Tg.f : Tg → Value → Value → Sem Value
  | .cmp op => compareOp op
  | .bin op => binaryOp op
  | .inp op => inplaceOp op
/-- what the operator t does of x, y -/
structure OpJ (C : DL.Ctx) (t : Tg) (Γ : Gm) (x y : D) (L : Lp) (Q : D → Lp → Prop) : Prop where
  run : ∀ Z σ H, Ok C Γ L Z σ H → ∀ vx vy, Rep C.X.K Z H vx x → Rep C.X.K Z H vy y → ∀ QV, Go C L Z H Q QV → ∀ pins s v u, Inv C.X pins σ H s → RelV vx v → RelV vy u → wpAny (model C.X.prog C.X.w) C.X.A (t.f v u) (EP C.X pins σ QV) C.X.xe s
section
variable {C : DL.Ctx} {Γ : Gm} {L : Lp} {a b e : Expr} {pos : Pos} {Q : D → Lp → Prop} {x y : D} {t : Tg}
theorem OpJ.of {r : L2.R2} (ho : OpR C.X t.f r) (h : L2R C r x y L Q) : OpJ C t Γ x y L Q := ⟨fun Z σ H ok vx vy rx ry QV go pins s v u I r1 r2 => ho pins s σ H vx vy v u QV I r1 r2 (h Z vx vy H ok.con rx ry QV go)⟩
theorem two_run {pins : List (Addr × Obj)} {σ : L2.St} {Z : Fz} {H : Hp} {s : Shared} {QV : VK} (h : AE C a Γ L fun x L1 => AE C b Γ L1 fun y L2 => OpJ C t Γ x y L2 Q) (ok : Ok C Γ L Z σ H) (go : Go C L Z H Q QV) (I : Inv C.X pins σ H s) :
    wpAny (model C.X.prog C.X.w) C.X.A (eval a C.X.env) (fun v s1 => wpAny (model C.X.prog C.X.w) C.X.A (eval b C.X.env) (fun u s2 => wpAny (model C.X.prog C.X.w) C.X.A (t.f v u) (EP C.X pins σ QV) C.X.xe s2) C.X.xe s1) C.X.xe s := by
  refine thn ((h Z σ H ok (fun vx H1 => ∃ x L1 Z1, Rep C.X.K Z1 H1 vx x ∧ C.Con L1 Z1 H1 ∧ Fr L Z H L1 Z1 H1 ∧ AE C b Γ L1 fun y L2 => OpJ C t Γ x y L2 Q) fun v d H' L' r c f q => ⟨d, L', _, r, c, f, q⟩).run pins s I) fun v s1 ⟨vx, H1, I1, r1, x, L1, Z1, rx, c1, f1, q1⟩ => ?_
  refine thn ((q1 Z1 σ H1 (ok.step c1 f1) (fun vy H2 => ∃ y L2 Z2, Rep C.X.K Z2 H2 vy y ∧ C.Con L2 Z2 H2 ∧ Fr L1 Z1 H1 L2 Z2 H2 ∧ OpJ C t Γ x y L2 Q) fun v d H' L' r c f q => ⟨d, L', _, r, c, f, q⟩).run pins s1 I1) fun u s2 ⟨vy, H2, I2, r2, y, L2, Z2, ry, c2, f2, q2⟩ => ?_
  exact q2.run Z2 σ H2 (ok.step c2 (f1.trans f2)) vx vy (rx.mono f2.mv) ry QV (go.after (f1.trans f2)) pins s2 v u I2 r1 r2
theorem ae_binJ {op : Operator} (h : AE C a Γ L fun x L1 => AE C b Γ L1 fun y L2 => OpJ C (.bin op) Γ x y L2 Q) : AE C (.BinOp a op b pos) Γ L Q := fun Z σ H ok QV go => ⟨fun pins s I => wpAny_BinOp (two_run h ok go I)⟩
theorem ae_cmpJ {op : CmpOp} (h : AE C a Γ L fun x L1 => AE C b Γ L1 fun y L2 => OpJ C (.cmp op) Γ x y L2 Q) (hm : behindInMarks op b = false := by rfl) : AE C (.Compare a [op] [b] pos) Γ L Q := fun Z σ H ok QV go => ⟨fun pins s I => wpAny_Compare1 (two_run h ok go I) hm⟩
theorem at_cmpJ {op : CmpOp} {Q : Bool → Lp → Prop} (h : AE C a Γ L fun x L1 => AE C b Γ L1 fun y L2 => OpJ C (.cmp op) Γ x y L2 fun d L3 => ∃ k, d = .bl k ∧ Q k L3) (hm : behindInMarks op b = false := by rfl) : AT C (.Compare a [op] [b] pos) Γ L Q := fun Z σ H ok QV go => ⟨fun pins s I => by
  refine wpAny_isTrue_Compare1 (thn (two_run (QV := fun v H' => ∃ k L' Z', v = .bl k ∧ C.Con L' Z' H' ∧ Fr L Z H L' Z' H' ∧ Q k L') h ok (fun v d H' L' r c f ⟨k, ed, q⟩ => ⟨k, L', _, by subst ed; exact r.blE, c, f, q⟩) I) fun v s1 hb => thn hb fun u s2 hc => thn hc fun w s3 ⟨z, H3, I3, r3, k, L3, Z3, e, c3, f3, q3⟩ => ?_) hm
  subst e
  cases r3
  exact wpAny_truthy_bool ⟨H3, I3, go k H3 L3 c3 f3 q3⟩⟩
theorem j_eqI {i j : Int} (hu : C.X.A.units + 64 < cLine) (q : Q (.bl (decide (i = j))) L) : OpJ C (.cmp .Eq) Γ (.int i) (.int j) L Q := OpJ.of (t := .cmp .Eq) (op_eqA hu) (eq_I q)
theorem j_eqS {i j : Str} (hu : C.X.A.units + 64 < cLine) (q : Q (.bl (decide (i = j))) L) : OpJ C (.cmp .Eq) Γ (.str i) (.str j) L Q := OpJ.of (t := .cmp .Eq) (op_eqA hu) (eq_S q)
theorem j_eqW {i j : List Wd} (hu : C.X.A.units + 64 < cLine) (q : Q (.bl (decide (i = j))) L) : OpJ C (.cmp .Eq) Γ (dW i) (dW j) L Q := OpJ.of (t := .cmp .Eq) (op_eqA hu) (eq_W q)
theorem j_eqW0 {i : List Wd} (hu : C.X.A.units + 64 < cLine) (q : Q (.bl i.isEmpty) L) : OpJ C (.cmp .Eq) Γ (dW i) (.tup []) L Q := OpJ.of (t := .cmp .Eq) (op_eqA hu) (eq_W0 q)
theorem j_eqC {i j : List Cell} (hu : C.X.A.units + 64 < cLine) (q : Q (.bl (decide (i = j))) L) : OpJ C (.cmp .Eq) Γ (dC i) (dC j) L Q := OpJ.of (t := .cmp .Eq) (op_eqA hu) (eq_C q)
theorem j_eqR {i j : Rl} (hu : C.X.A.units + 64 < cLine) (q : Q (.bl (decide (i = j))) L) : OpJ C (.cmp .Eq) Γ (dR i) (dR j) L Q := OpJ.of (t := .cmp .Eq) (op_eqA hu) (eq_R q)
theorem j_eqE {α : Type} [Enc α] [DecidableEq α] {i j : α} (hu : C.X.A.units + 64 < cLine) (q : Q (.bl (decide (i = j))) L) (h : Enc.dep α ≤ 64 := by decide) : OpJ C (.cmp .Eq) Γ (Enc.enc i) (Enc.enc j) L Q := OpJ.of (t := .cmp .Eq) (op_eqA hu) (eq_E q h)
theorem j_eqD  (hu : C.X.A.units + 64 < cLine) (hx : okD x = true) (hy : okD y = true) (dx : (py x).depth ≤ 64) (dy : (py y).depth ≤ 64) (q : Q (.bl (PyData.eqv (py x) (py y))) L) : OpJ C (.cmp .Eq) Γ x y L Q := OpJ.of (t := .cmp .Eq) (op_eqA hu) (eq_D hx hy dx dy q)
theorem j_eqX  (hu : C.X.A.units + 64 < cLine) (hx : okD x = true) (dx : (py x).depth ≤ 64) (q : Q (.bl true) L) : OpJ C (.cmp .Eq) Γ x x L Q := OpJ.of (t := .cmp .Eq) (op_eqA hu) (eq_self hx dx q)
theorem j_neI {i j : Int} (hu : C.X.A.units + 64 < cLine) (q : Q (.bl (!decide (i = j))) L) : OpJ C (.cmp .NotEq) Γ (.int i) (.int j) L Q := OpJ.of (t := .cmp .NotEq) (op_neA hu) (ne_I q)
theorem j_neS {i j : Str} (hu : C.X.A.units + 64 < cLine) (q : Q (.bl (!decide (i = j))) L) : OpJ C (.cmp .NotEq) Γ (.str i) (.str j) L Q := OpJ.of (t := .cmp .NotEq) (op_neA hu) (ne_S q)
theorem j_neW {i j : List Wd} (hu : C.X.A.units + 64 < cLine) (q : Q (.bl (!decide (i = j))) L) : OpJ C (.cmp .NotEq) Γ (dW i) (dW j) L Q := OpJ.of (t := .cmp .NotEq) (op_neA hu) (ne_W q)
theorem j_neC {i j : List Cell} (hu : C.X.A.units + 64 < cLine) (q : Q (.bl (!decide (i = j))) L) : OpJ C (.cmp .NotEq) Γ (dC i) (dC j) L Q := OpJ.of (t := .cmp .NotEq) (op_neA hu) (ne_C q)
theorem j_neR {i j : Rl} (hu : C.X.A.units + 64 < cLine) (q : Q (.bl (!decide (i = j))) L) : OpJ C (.cmp .NotEq) Γ (dR i) (dR j) L Q := OpJ.of (t := .cmp .NotEq) (op_neA hu) (ne_R q)
theorem j_neE {α : Type} [Enc α] [DecidableEq α] {i j : α} (hu : C.X.A.units + 64 < cLine) (q : Q (.bl (!decide (i = j))) L) (h : Enc.dep α ≤ 64 := by decide) : OpJ C (.cmp .NotEq) Γ (Enc.enc i) (Enc.enc j) L Q := OpJ.of (t := .cmp .NotEq) (op_neA hu) (ne_E q h)
theorem j_neD  (hu : C.X.A.units + 64 < cLine) (hx : okD x = true) (hy : okD y = true) (dx : (py x).depth ≤ 64) (dy : (py y).depth ≤ 64) (q : Q (.bl (!PyData.eqv (py x) (py y))) L) : OpJ C (.cmp .NotEq) Γ x y L Q := OpJ.of (t := .cmp .NotEq) (op_neA hu) (ne_D hx hy dx dy q)
theorem j_neX  (hu : C.X.A.units + 64 < cLine) (hx : okD x = true) (dx : (py x).depth ≤ 64) (q : Q (.bl false) L) : OpJ C (.cmp .NotEq) Γ x x L Q := OpJ.of (t := .cmp .NotEq) (op_neA hu) (ne_self hx dx q)
theorem j_ltI {i j : Int} (hu : C.X.A.units + 64 < cLine) (q : Q (.bl (decide (i < j))) L) : OpJ C (.cmp .Lt) Γ (.int i) (.int j) L Q := OpJ.of (t := .cmp .Lt) (op_ltA hu) (lt_I q)
theorem j_ltS {i j : Str} (hu : C.X.A.units + 64 < cLine) (q : Q (.bl (decide (i.cps.toList < j.cps.toList))) L) : OpJ C (.cmp .Lt) Γ (.str i) (.str j) L Q := OpJ.of (t := .cmp .Lt) (op_ltA hu) (lt_S q)
theorem j_ltD  (hu : C.X.A.units + 64 < cLine) (hx : okD x = true) (hy : okD y = true) (hal : PySem.W.alike (py x) (py y) = true) (hn : py x ≠ .none) (dx : (py x).depth ≤ 64) (q : Q (.bl (PySem.W.dataLt (py x) (py y))) L) : OpJ C (.cmp .Lt) Γ x y L Q := OpJ.of (t := .cmp .Lt) (op_ltA hu) (lt_D hx hy hal hn dx q)
theorem j_leI {i j : Int} (q : Q (.bl (decide (i ≤ j))) L) : OpJ C (.cmp .LtE) Γ (.int i) (.int j) L Q := OpJ.of (t := .cmp .LtE) op_leA (le_I q)
theorem j_gtI {i j : Int} (q : Q (.bl (decide (j < i))) L) : OpJ C (.cmp .Gt) Γ (.int i) (.int j) L Q := OpJ.of (t := .cmp .Gt) op_gtA (gt_I q)
theorem j_geI {i j : Int} (q : Q (.bl (decide (j ≤ i))) L) : OpJ C (.cmp .GtE) Γ (.int i) (.int j) L Q := OpJ.of (t := .cmp .GtE) op_geA (ge_I q)
theorem j_inW {rs : Rl} {k : List Wd} (hu : C.X.A.units + 1 < cLine) (hp : DR L y (tbl rs)) (q : Q (.bl (lk rs k).isSome) L) : OpJ C (.cmp .In) Γ (dW k) y L Q := OpJ.of (t := .cmp .In) (op_inA hu) (in_W hp q)
theorem j_inG {k : Nat} {z : Str} (hu : C.X.A.units + 1 < cLine) (q : Q (.bl (decide (k ∈ z.cps.toList))) L) : OpJ C (.cmp .In) Γ (.str (sgn k)) (.str z) L Q := OpJ.of (t := .cmp .In) (op_inA hu) (in_sign q)
theorem j_inL {i : Str} {ys : List Str} (hu : C.X.A.units + 1 < cLine) (hp : LR L y (ys.map D.str)) (q : Q (.bl (decide (i ∈ ys))) L) : OpJ C (.cmp .In) Γ (.str i) y L Q := OpJ.of (t := .cmp .In) (op_inA hu) (in_L hp q)
theorem j_inT {i : Str} {ys : List Str} (hu : C.X.A.units + 1 < cLine) (q : Q (.bl (decide (i ∈ ys))) L) : OpJ C (.cmp .In) Γ (.str i) (.tup (ys.map D.str)) L Q := OpJ.of (t := .cmp .In) (op_inA hu) (in_T q)
theorem j_ninW {rs : Rl} {k : List Wd} (hu : C.X.A.units + 1 < cLine) (hp : DR L y (tbl rs)) (q : Q (.bl (!(lk rs k).isSome)) L) : OpJ C (.cmp .NotIn) Γ (dW k) y L Q := OpJ.of (t := .cmp .NotIn) (op_notInA hu) (notIn_W hp q)
theorem j_ninL {i : Str} {ys : List Str} (hu : C.X.A.units + 1 < cLine) (hp : LR L y (ys.map D.str)) (q : Q (.bl (!decide (i ∈ ys))) L) : OpJ C (.cmp .NotIn) Γ (.str i) y L Q := OpJ.of (t := .cmp .NotIn) (op_notInA hu) (notIn_L hp q)
theorem j_ninT {i : Str} {ys : List Str} (hu : C.X.A.units + 1 < cLine) (q : Q (.bl (!decide (i ∈ ys))) L) : OpJ C (.cmp .NotIn) Γ (.str i) (.tup (ys.map D.str)) L Q := OpJ.of (t := .cmp .NotIn) (op_notInA hu) (notIn_T q)
theorem j_is  (q : Q (.bl (isN x)) L) : OpJ C (.cmp .Is) Γ x .non L Q := OpJ.of (t := .cmp .Is) op_isA (isa_N q)
theorem j_isn  (q : Q (.bl (!isN x)) L) : OpJ C (.cmp .IsNot) Γ x .non L Q := OpJ.of (t := .cmp .IsNot) op_isNotA (isnota_N q)
theorem j_addI {i j : Int} (q : Q (.int (i + j)) L) : OpJ C (.bin .Add) Γ (.int i) (.int j) L Q := OpJ.of (t := .bin .Add) op_addA (add_I q)
theorem j_addS {i j : Str} (q : Q (.str (i ++ j)) L) (h : i.length + j.length ≤ sizeLine) : OpJ C (.bin .Add) Γ (.str i) (.str j) L Q := OpJ.of (t := .bin .Add) op_addA (add_S q h)
theorem j_addT {xs ys : List D} (q : Q (.tup (xs ++ ys)) L) (h : xs.length + ys.length ≤ sizeLine) : OpJ C (.bin .Add) Γ (.tup xs) (.tup ys) L Q := OpJ.of (t := .bin .Add) op_addA (add_T q h)
theorem j_subI {i j : Int} (q : Q (.int (i - j)) L) : OpJ C (.bin .Sub) Γ (.int i) (.int j) L Q := OpJ.of (t := .bin .Sub) op_subA (sub_I q)
theorem j_mulI {i j : Int} (q : Q (.int (i * j)) L) (h : CMul i j) : OpJ C (.bin .Mult) Γ (.int i) (.int j) L Q := OpJ.of (t := .bin .Mult) op_mulA (mul_I q h)
theorem j_mulS {z : Str} {n : Int} (q : Q (.str (repS z n.toNat)) L) (h0 : 0 ≤ n) (h1 : n ≤ 1000000) (hz : z.length * n.toNat ≤ 1000000) : OpJ C (.bin .Mult) Γ (.str z) (.int n) L Q := OpJ.of (t := .bin .Mult) op_mulA (mul_S q h0 h1 hz)
theorem j_modI {i j : Int} (q : Q (.int (i % j)) L) (h : 0 < j) : OpJ C (.bin .Mod) Γ (.int i) (.int j) L Q := OpJ.of (t := .bin .Mod) op_modA (mod_I q h)
theorem j_divI {i j : Int} (q : Q (.int (i / j)) L) (h : CDiv i j) : OpJ C (.bin .FloorDiv) Γ (.int i) (.int j) L Q := OpJ.of (t := .bin .FloorDiv) op_divA (div_I q h)
end
end DL
namespace DL
open PySem PySem.Spec PyProof.Rows L2
/-! ### a value's type -/
inductive TyL (K : PySem.W.Frag) (L : Lp) : D → Value → Prop where
  | non : TyL K L .non (.type "NoneType")
  | bl (b : Bool) : TyL K L (.bl b) (.type "bool")
  | int (i : Int) : TyL K L (.int i) (.type "int")
  | str (x : Str) : TyL K L (.str x) (.type "str")
  | tup (ds : List D) : TyL K L (.tup ds) (.type "tuple")
  | flst (ds : List D) : TyL K L (.flst ds) (.type "list")
  | fdct (kds : List (List Key × D)) : TyL K L (.fdct kds) (.type "dict")
  | kdct (kds : List (Key × D)) : TyL K L (.kdct kds) (.type "dict")
  | lst {a : Addr} {ds : List D} (h : L a = some (.lst ds)) : TyL K L (.ptr a) (.type "list")
  | dct {a : Addr} {kds : List (List Key × D)} (h : L a = some (.dct kds)) : TyL K L (.ptr a) (.type "dict")
  | ins {x : D} {Cl : Addr} (c : SlX.SCls K Cl) (i : SlX.SIsi K Cl) (h : IsIns L x Cl) : TyL K L x (.ref Cl)
section
variable {C : DL.Ctx} {Γ : Gm} {L : Lp} {Q : D → Lp → Prop} {x y : D} {t : Value} {Z : Fz} {H : Hp} {pins : List (Addr × Obj)} {σ : L2.St} {s : Shared} {v : V} {u : Value}
theorem TyL.kit (ty : TyL C.X.K L x t) (c : C.Con L Z H) (r : Rep C.X.K Z H v x) (I : Inv C.X pins σ H s) (ru : RelV v u) : ∃ P : Heap → Prop, PySem.W.KitX C.X.K u t P ∧ P s.heap ∧ u ≠ .builtin "__main__.__loader__#opaque" := by
  cases ty with
  | non => rw [r.nonE] at ru; exact kit_of I ru (.base .non)
  | bl b => rw [r.blE] at ru; exact kit_of I ru (.base (.bl b))
  | int i => rw [r.intE] at ru; exact kit_of I ru (.base (.int i))
  | str z => rw [r.strE] at ru; exact kit_of I ru (.base (.str z))
  | tup ds =>
    obtain ⟨a, ws, rfl, ha, _⟩ := r.tupE
    exact kit_of I ru (.base (.tup ha))
  | flst ds =>
    cases r with
    | flst hl h => exact kit_of I ru (.base (.lst h))
  | fdct kds =>
    cases r with
    | @fdct a kvs kds o hl h =>
      cases (show u = Value.ref a from ru)
      obtain ⟨_, _, _, xs, _, o, es, ep, h1, h2, _⟩ := (show ObjOk C.X.prog C.X.w H s.heap a (.frz o (.dT kvs)) from I.hok a _ h)
      exact ⟨_, PySem.W.kitx_dict, ⟨o, h1, h2.1⟩, fun z => nomatch z⟩
  | kdct kds =>
    cases r with
    | @kdct a kvs kds o hl h =>
      cases (show u = Value.ref a from ru)
      obtain ⟨_, hg, hx, _⟩ := I.frzK h
      exact ⟨_, PySem.W.kitx_dict, ⟨o, hg, hx.1⟩, fun z => nomatch z⟩
  | lst h =>
    obtain ⟨ws, ha, _⟩ := c.at_ _ _ h
    rw [r.ptrE] at ru
    exact kit_of I ru (.base (.lst ha))
  | dct h =>
    obtain ⟨ws, ha, _⟩ := c.at_ _ _ h
    rw [r.ptrE] at ru
    exact kit_of I ru (.base (.dT ha))
  | @ins x Cl hc hi h =>
    obtain ⟨a, dx, vs, rfl, hs⟩ := h.slt c r
    cases (show u = Value.ref a from ru)
    obtain ⟨sl, od, _, J, _⟩ := SlX.slt_inst I hs
    exact ⟨_, OwX.kitx_slt hc.ic (hc.get _) hi.ca hi.cn hi.ct hi.cm, J, fun z => nomatch z⟩
theorem TyL.look (ty : TyL C.X.K L x t) (c : C.Con L Z H) (r : Rep C.X.K Z H v x) (I : Inv C.X pins σ H s) (ru : RelV v u) : PySem.W.Looks (model C.X.prog C.X.w) s.heap (typeOf u) t := by
  obtain ⟨P, k, p, _⟩ := ty.kit c r I ru
  exact k.ty _ _ I.kIn p
end
/-! ### own operators -/
section
variable {prog : Program} {w : World} {A : Around} {E : Value → Shared → Prop} {s : Shared} {K : PySem.W.Frag} {x C f : Addr} {ox : Obj} {od : Option Obj} {b tb : Value}
open PySem.W in
/-- a builtin special that the class inherits -/
theorem ifBound_B {M : Model} {name : Str} {id : String} {args : List Value} {Q : Option Value → Shared → Prop} (X : K.In s.heap) (I : InstAt s.heap x ox C od) (hs : findIn K (.ref C) name = some (some (.builtin id)))
    (hb : ∀ self, bindSpecial (.builtin id) self = pure (.builtin id, [self])) (h : wpAny M A (call (.builtin id) (.ref x :: args)) (fun v => Q (some v)) E s) : wpAny M A (callSpecialIfBound? (.ref x) name args) Q E s := by
  simp only [callSpecialIfBound?, bindSpecialIfBound?]
  refine wpAny_holding (wpAny_bind (wpAny_bind (wpAny_bind (I.type.here ((looks_findIn X hs).here ?_)))))
  refine wpAny_bind (wpAny_askSetting (wpAny_ite ?_))
  have fin : wpAny M A (call (.builtin id) ([.ref x] ++ args) >>= fun v => pure (some v)) Q E s := wpAny_bind (wpAny_mono h (fun v s' h' => wpAny_pure h') fun _ _ h' => h')
  split
  · exact wpAny_bind ((Looks.of_pure (hb _)).here (wpAny_pure (by exact fin)))
  · exact wpAny_tryCatch (wpAny_bind ((Looks.of_pure (hb _)).here (wpAny_pure (by exact fin))))
open PySem.W in
/-- x != b by the class's own == -/
theorem ne_K {Q : Value → Shared → Prop} (hu : A.units + 1 < cLine) (X : K.In s.heap) (I : InstAt s.heap x ox C od) (hb : Looks (model prog w) s.heap (typeOf b) tb) (hn : notFirst K C tb = true)
    (hne : findIn K (.ref C) "__ne__" = some (some (.builtin "object.__ne__"))) (hm : mroIn K C (.type "object") = some true) (hs : findIn K (.ref C) "__eq__" = some (some (.ref f))) (hf : isFn K (.ref f) = true)
    (h : wpAny (model prog w) A.in1 (call (.ref f) [.ref x, b]) (fun v s' => ∃ k, v = .bool k ∧ Q (.bool (!k)) s') E s) : wpAny (model prog w) A (richCompare .NotEq (.ref x) b) Q E s := by
  have one : wpAny (model prog w) A (tryCompare (.ref x) (cmpInfo .NotEq).2.1 b) (fun r s' => ∃ v, r = some v ∧ Q v s') E s := by
    unfold tryCompare
    refine wpAny_bind (ifBound_B X I hne PySem.F.cmp_object.ne.bind (wpAny_call (codeAny_call_builtin PySem.F.cmp_object.ne.plain PySem.F.cmpEntry_ne (check_slot (i := "object.__ne__") (owner := "object") (n := "__ne__") (by decide +kernel) (by decide +kernel) (I.type.andThen (looks_mroIn X hm)) (PySem.F.cmpArgs_ne _ _) ?_))))
    unfold Builtin.«object.__ne__»
    refine wpAny_bind (m := slotArgs "__ne__" 1 _) (wpAny_pure ?_)
    refine wpAny_bind (m := cRoomFor _ _) (wpAny_cRoomFor hu ?_)
    refine wpAny_bind (m := callSpecialIfBound? (.ref x) (Str.ofString "__eq__") _) (ifBound_K X I hs hf (wpAny_mono h (fun r s' hr => ?_) fun _ _ y => y))
    obtain ⟨k, rfl, hq⟩ := hr
    refine wpAny_bind (m := truthy (.bool k)) (wpAny_truthy_bool ?_)
    exact wpAny_pure (wpAny_pure ⟨_, rfl, hq⟩)
  unfold richCompare
  simp only [oneThing_ref]
  refine wpAny_holding (wpAny_bind (wpAny_cRoomFor (Nat.lt_of_succ_lt hu) ?_))
  refine wpAny_bind (I.type.here (wpAny_bind (hb.here ?_)))
  split
  · rename_i q
    have e : subIn K tb (.ref C) = some false := by
      rcases Bool.or_eq_true_iff.mp hn with e | e
      · rw [beq_iff_eq.mp e] at q; simp at q
      · exact beq_iff_eq.mp e
    refine wpAny_bind ((looks_subIn X e).here ?_)
    simp only [Bool.false_eq_true, if_false]
    refine wpAny_bind (wpAny_mono one (fun r s' z => ?_) fun _ _ e => e)
    obtain ⟨v, rfl, hq⟩ := z
    exact wpAny_pure hq
  · refine wpAny_bind (wpAny_pure ?_)
    simp only [Bool.false_eq_true, if_false]
    refine wpAny_bind (wpAny_mono one (fun r s' z => ?_) fun _ _ e => e)
    obtain ⟨v, rfl, hq⟩ := z
    exact wpAny_pure hq
end
section
variable {C : DL.Ctx} {Γ : Gm} {L : Lp} {Q : D → Lp → Prop} {x y : D} {t : Value} {Cl g : Addr} {k : Nat} {sp : SpA}
/-- the callee runs below the running body, and raises nothing -/
theorem run_fnD {A : Around} {pins : List (Addr × Obj)} {σ : L2.St} {Z : Fz} {H : Hp} {s : Shared} {us : List Value} {vs : List V} {ds : List D} {QV : VK} (F : FnA C.X.prog C.X.w C.X.K C.X.mg C.X.base k g sp) (hr : Room k A) (e0 : Env0 C.X.prog C.X.w C.X.K C.X.mg C.X.base A C.X.stack s H) (I : Inv C.X pins σ H s) (ok : Ok C Γ L Z σ H) (r : Vals vs us) (rd : Reps C.X.K Z H vs ds)
    (h : sp ds L Q fun _ _ _ => False) (go : Go C L Z H Q QV) : codeAny (model C.X.prog C.X.w) A (.call (.ref g) ⟨us, []⟩) (fun r s' => match r with | .ok (.ret v) => EP C.X pins σ QV v s' | .ok _ => False | .error e => C.X.xe e s') s := by
  refine codeAny_mono (F A C.X.stack s H us vs QV (fun _ _ _ => False) hr e0 r ⟨ds, L, Z, Q, _, rd, ok.con, h, fun d L' q v H' rv c f => go v d H' L' rv c f q, fun cls fs L' q d H' xd c f => q.elim⟩) fun r s' hq => ?_
  cases r with
  | error e => obtain ⟨_, _, _, _, _, _, _, _, _, _, _, _, z⟩ := hq; exact z.elim
  | ok fl =>
    cases fl with
    | ret u => exact I.after hq
    | next => exact False.elim hq
    | brk => exact False.elim hq
    | cont => exact False.elim hq
/-- x == y .. by the class's def -/
theorem j_cmpO {op : CmpOp} (hs : PySem.W.findIn C.X.K (.ref Cl) (cmpInfo op).2.1 = some (some (.ref g))) (hf : PySem.W.isFn C.X.K (.ref g) = true) (F : FnA C.X.prog C.X.w C.X.K C.X.mg C.X.base k g sp) (hr : Room k C.X.A)
    (ix : IsIns L x Cl) (ty : TyL C.X.K L y t) (hn : PySem.W.notFirst C.X.K Cl t = true) (q : sp [x, y] L Q (C.R Γ)) (hop : ∀ a b, compareOp op a b = richCompare op a b := by intros; rfl) : OpJ C (.cmp op) Γ x y L Q := ⟨fun Z σ H ok vx vy rx ry QV go pins s v u I r1 r2 => by
  obtain ⟨a, dx, vs, rfl, st⟩ := ix.slt ok.con rx
  cases (show v = Value.ref a from r1)
  obtain ⟨sl, od, _, J, _⟩ := SlX.slt_inst I st
  obtain ⟨m, hF⟩ := I.fr
  show wpAny _ _ (compareOp op (.ref a) u) _ _ _
  rw [hop]
  refine PySem.W.cmp_K (op := op) (tb := t) hr.units0 hF I.ok.mod.kin J (ty.look ok.con ry I r2) hn hs hf ?_
  refine wpAny_mono (wpAny_call (run_fnA (us := [.ref a, u]) (vs := [.ref a, vy]) F hr I ok (.cons rfl (.cons r2 .nil)) (.cons rx (.cons ry .nil)) q go)) (fun w s' z => ?_) fun _ _ x => x
  obtain ⟨z', H', I', rz, qz⟩ := z
  exact SlX.cmpback rz ⟨z', H', I', rz, qz⟩⟩
/-- x != y by the class's own == -/
theorem j_neO (hne : PySem.W.findIn C.X.K (.ref Cl) "__ne__" = some (some (.builtin "object.__ne__"))) (hm : PySem.W.mroIn C.X.K Cl (.type "object") = some true) (hs : PySem.W.findIn C.X.K (.ref Cl) "__eq__" = some (some (.ref g))) (hf : PySem.W.isFn C.X.K (.ref g) = true)
    (F : FnA C.X.prog C.X.w C.X.K C.X.mg C.X.base k g sp) (hr : Room (k + 1) C.X.A)
    (ix : IsIns L x Cl) (ty : TyL C.X.K L y t) (hn : PySem.W.notFirst C.X.K Cl t = true) (q : sp [x, y] L (fun d L' => ∃ k, d = .bl k ∧ Q (.bl (!k)) L') fun _ _ _ => False) : OpJ C (.cmp .NotEq) Γ x y L Q := ⟨fun Z σ H ok vx vy rx ry QV go pins s v u I r1 r2 => by
  obtain ⟨a, dx, vs, rfl, st⟩ := ix.slt ok.con rx
  cases (show v = Value.ref a from r1)
  obtain ⟨sl, od, _, J, _⟩ := SlX.slt_inst I st
  show wpAny _ _ (richCompare .NotEq (.ref a) u) _ _ _
  refine ne_K (tb := t) (by have := hr.units; omega) I.kIn J (ty.look ok.con ry I r2) hn hne hm hs hf ?_
  refine wpAny_mono (wpAny_call (run_fnD (us := [.ref a, u]) (vs := [.ref a, vy]) (QV := fun z H' => ∃ k, z = .bl k ∧ QV (.bl (!k)) H') F hr.in1 I.env0.in1 I ok (.cons rfl (.cons r2 .nil)) (.cons rx (.cons ry .nil)) q fun v d H' L' r c f ⟨k, ed, q⟩ => ⟨k, by subst ed; exact r.blE, go _ _ H' L' (.bl _) c f q⟩)) (fun w s' z => ?_) fun _ _ x => x
  obtain ⟨z', H', I', rz, k, ek, qz⟩ := z
  subst ek
  cases rz
  exact ⟨k, rfl, .bl (!k), H', I', rfl, qz⟩⟩
/-- x op y of one class -/
theorem j_binO {op : Operator} (hc : PySem.W.selfFirst C.X.K Cl = true) (hs : PySem.W.findIn C.X.K (.ref Cl) (PySem.dunder op.info.2) = some (some (.ref g))) (hf : PySem.W.isFn C.X.K (.ref g) = true) (F : FnA C.X.prog C.X.w C.X.K C.X.mg C.X.base k g sp) (hr : Room k C.X.A)
    (ix : IsIns L x Cl) (iy : IsIns L y Cl) (q : sp [x, y] L Q (C.R Γ)) : OpJ C (.bin op) Γ x y L Q := ⟨fun Z σ H ok vx vy rx ry QV go pins s v u I r1 r2 => by
  obtain ⟨a, dx, vs, rfl, st⟩ := ix.slt ok.con rx
  obtain ⟨b, dy, ws, rfl, st2⟩ := iy.slt ok.con ry
  cases (show v = Value.ref a from r1)
  cases (show u = Value.ref b from r2)
  obtain ⟨sl, od, _, J, _⟩ := SlX.slt_inst I st
  obtain ⟨sl', od', _, J', _⟩ := SlX.slt_inst I st2
  obtain ⟨m, hF⟩ := I.fr
  refine PySem.W.binop_K hF I.ok.mod.kin J J'.type hc hs hf ?_
  refine wpAny_mono (wpAny_call (run_fnA (us := [.ref a, .ref b]) (vs := [.ref a, .ref b]) F hr I ok (.cons rfl (.cons rfl .nil)) (.cons rx (.cons ry .nil)) q go)) (fun w s' z => ?_) fun _ _ x => x
  obtain ⟨z', H', I', rz, qz⟩ := z
  exact SlX.cmpback rz ⟨z', H', I', rz, qz⟩⟩
/-- x op= y -/
theorem j_inpO {op : Operator} (hc : PySem.W.selfFirst C.X.K Cl = true) (hs : PySem.W.findIn C.X.K (.ref Cl) (dunderI op.info.2) = some (some (.ref g))) (hf : PySem.W.isFn C.X.K (.ref g) = true) (F : FnA C.X.prog C.X.w C.X.K C.X.mg C.X.base k g sp) (hr : Room k C.X.A)
    (ix : IsIns L x Cl) (q : sp [x, y] L Q (C.R Γ)) : OpJ C (.inp op) Γ x y L Q := ⟨fun Z σ H ok vx vy rx ry QV go pins s v u I r1 r2 => by
  obtain ⟨a, dx, vs, rfl, st⟩ := ix.slt ok.con rx
  cases (show v = Value.ref a from r1)
  obtain ⟨sl, od, _, J, _⟩ := SlX.slt_inst I st
  obtain ⟨m, hF⟩ := I.fr
  refine PySem.W.ksp_inplace hF I.ok.mod.kin J hc hs hf ?_
  refine wpAny_mono (wpAny_call (run_fnA (us := [.ref a, u]) (vs := [.ref a, vy]) F hr I ok (.cons rfl (.cons r2 .nil)) (.cons rx (.cons ry .nil)) q go)) (fun w s' z => ?_) fun _ _ x => x
  obtain ⟨z', H', I', rz, qz⟩ := z
  exact SlX.cmpback rz ⟨z', H', I', rz, qz⟩⟩
/-- x in y by the class's own __contains__ -/
theorem j_inO (hs : PySem.W.findIn C.X.K (.ref Cl) "__contains__" = some (some (.ref g))) (hf : PySem.W.isFn C.X.K (.ref g) = true) (F : FnA C.X.prog C.X.w C.X.K C.X.mg C.X.base k g sp) (hr : Room k C.X.A)
    (iy : IsIns L y Cl) (q : sp [y, x] L (fun d L' => ∃ k, d = .bl k ∧ Q (.bl k) L') (C.R Γ)) : OpJ C (.cmp .In) Γ x y L Q := ⟨fun Z σ H ok vx vy rx ry QV go pins s v u I r1 r2 => by
  obtain ⟨a, dx, vs, rfl, st⟩ := iy.slt ok.con ry
  cases (show u = Value.ref a from r2)
  obtain ⟨sl, od, _, J, _⟩ := SlX.slt_inst I st
  obtain ⟨m, hF⟩ := I.fr
  refine PySem.W.in_K hF I.ok.mod.kin J hs hf ?_
  refine wpAny_mono (wpAny_call (run_fnA (us := [.ref a, v]) (vs := [.ref a, vx]) (QV := fun z H' => ∃ k, z = .bl k ∧ QV (.bl k) H') F hr I ok (.cons rfl (.cons r1 .nil)) (.cons ry (.cons rx .nil)) q fun v d H' L' r c f ⟨k, ed, q⟩ => ⟨k, by subst ed; exact r.blE, go _ _ H' L' (.bl _) c f q⟩)) (fun w s' z => ?_) fun _ _ x => x
  obtain ⟨z', H', I', rz, k, ek, qz⟩ := z
  subst ek
  cases rz
  exact wpAny_truthy_bool ⟨.bl k, H', I', rfl, qz⟩⟩
theorem j_ninO (hs : PySem.W.findIn C.X.K (.ref Cl) "__contains__" = some (some (.ref g))) (hf : PySem.W.isFn C.X.K (.ref g) = true) (F : FnA C.X.prog C.X.w C.X.K C.X.mg C.X.base k g sp) (hr : Room k C.X.A)
    (iy : IsIns L y Cl) (q : sp [y, x] L (fun d L' => ∃ k, d = .bl k ∧ Q (.bl (!k)) L') (C.R Γ)) : OpJ C (.cmp .NotIn) Γ x y L Q := ⟨fun Z σ H ok vx vy rx ry QV go pins s v u I r1 r2 => by
  obtain ⟨a, dx, vs, rfl, st⟩ := iy.slt ok.con ry
  cases (show u = Value.ref a from r2)
  obtain ⟨sl, od, _, J, _⟩ := SlX.slt_inst I st
  obtain ⟨m, hF⟩ := I.fr
  refine PySem.W.notIn_K hF I.ok.mod.kin J hs hf ?_
  refine wpAny_mono (wpAny_call (run_fnA (us := [.ref a, v]) (vs := [.ref a, vx]) (QV := fun z H' => ∃ k, z = .bl k ∧ QV (.bl (!k)) H') F hr I ok (.cons rfl (.cons r1 .nil)) (.cons ry (.cons rx .nil)) q fun v d H' L' r c f ⟨k, ed, q⟩ => ⟨k, by subst ed; exact r.blE, go _ _ H' L' (.bl _) c f q⟩)) (fun w s' z => ?_) fun _ _ x => x
  obtain ⟨z', H', I', rz, k, ek, qz⟩ := z
  subst ek
  cases rz
  exact wpAny_truthy_bool ⟨.bl (!k), H', I', rfl, qz⟩⟩
/-! ### isinstance -/
@[irreducible] def rIsiA (C : DL.Ctx) : List V → Hp → VK → Prop := fun xs H QV => ∃ (a b : V) (k : Bool), xs = [a, b] ∧ (∀ pins σ s u w, Inv C.X pins σ H s → RelV a u → RelV b w → ∃ t P, PySem.W.KitX C.X.K u t P ∧ P s.heap ∧ u ≠ .builtin "__main__.__loader__#opaque" ∧ PySem.W.kitOne C.X.K t w = some k) ∧ QV (.bl k) H
theorem call_isA : CallR C.X (.builtin "isinstance") (rIsiA C) := by
  intro pins s σ H xs us Q I r h
  unfold rIsiA at h
  obtain ⟨a, b, k, rfl, hk, q⟩ := h
  obtain ⟨u1, u2, rfl, r1, r2⟩ := vals2 r
  obtain ⟨t, P, Z, p, hx, e⟩ := hk pins σ s u1 u2 I r1 r2
  exact PySem.W.kia_one Z I.kIn p e hx fun tk => ⟨.bl k, H, I.tok tk, rfl, q⟩
theorem isa_B {T : String} {b : Bool} (ty : TyL C.X.K L x t) (e : PySem.W.kitOne C.X.K t (.type T) = some b) (q : Q (.bl b) L) : LcR C (rIsiA C) [x, .ty T] L Q := fun Z vs H c r QV go => by
  obtain ⟨v, w, rfl, r1, r2⟩ := r.twoE
  unfold rIsiA
  refine ⟨v, w, b, rfl, fun pins σ s u w' I ru rw => ?_, go _ _ H L (.bl _) c (.refl L H) q⟩
  rw [r2.tyE] at rw
  cases (show w' = Value.type T from rw)
  obtain ⟨P, k, p, hx⟩ := ty.kit c r1 I ru
  exact ⟨t, P, k, p, hx, e⟩
theorem isa_O {b : Bool} (ty : TyL C.X.K L x t) (e : PySem.W.kitOne C.X.K t (.ref Cl) = some b) (q : Q (.bl b) L) : LcR C (rIsiA C) [x, .ptr Cl] L Q := fun Z vs H c r QV go => by
  obtain ⟨v, w, rfl, r1, r2⟩ := r.twoE
  unfold rIsiA
  refine ⟨v, w, b, rfl, fun pins σ s u w' I ru rw => ?_, go _ _ H L (.bl _) c (.refl L H) q⟩
  rw [r2.ptrE] at rw
  cases (show w' = Value.ref Cl from rw)
  obtain ⟨P, k, p, hx⟩ := ty.kit c r1 I ru
  exact ⟨t, P, k, p, hx, e⟩
end
end DL
namespace DL
open PySem PySem.Spec PyProof.Rows L2
section
variable {C : DL.Ctx} {Γ : Gm} {L : Lp} {Q : D → Lp → Prop} {x y : D} {t : Value} {Cl g : Addr} {k : Nat} {sp : SpA} {a b e o : Expr} {es : List Expr} {pos p p1 : Pos} {E : AEnds}
/-- the callee runs below the running body -/
theorem run_fnB {A : Around} {pins : List (Addr × Obj)} {σ : L2.St} {Z : Fz} {H : Hp} {s : Shared} {us : List Value} {vs : List V} {ds : List D} {QV : VK} (F : FnA C.X.prog C.X.w C.X.K C.X.mg C.X.base k g sp) (hr : Room k A) (e0 : Env0 C.X.prog C.X.w C.X.K C.X.mg C.X.base A C.X.stack s H) (I : Inv C.X pins σ H s) (ok : Ok C Γ L Z σ H) (r : Vals vs us) (rd : Reps C.X.K Z H vs ds)
    (h : sp ds L Q (C.R Γ)) (go : Go C L Z H Q QV) : codeAny (model C.X.prog C.X.w) A (.call (.ref g) ⟨us, []⟩) (fun r s' => match r with | .ok (.ret v) => EP C.X pins σ QV v s' | .ok _ => False | .error e => C.X.xe e s') s := by
  refine codeAny_mono (F A C.X.stack s H us vs QV (L2.WE C.W σ) hr e0 r ⟨ds, L, Z, Q, C.R Γ, rd, ok.con, h, fun d L' q v H' rv c f => go v d H' L' rv c f q, fun cls fs L' q d H' xd c f => ok.lr.of cls d σ H' Γ L' fs (ok.sl.mono f.mv) c f xd q⟩) fun r s' hq => ?_
  cases r with
  | error e => exact passAt C.tk σ pins H s e s' I hq
  | ok fl =>
    cases fl with
    | ret u => exact I.after hq
    | next => exact False.elim hq
    | brk => exact False.elim hq
    | cont => exact False.elim hq
/-! ### calls of built-ins, the rule chosen late -/
structure CaJ (C : DL.Ctx) (f : Value) (Γ : Gm) (ds : List D) (L : Lp) (Q : D → Lp → Prop) : Prop where
  run : ∀ Z σ H, Ok C Γ L Z σ H → ∀ vs, Reps C.X.K Z H vs ds → ∀ QV, Go C L Z H Q QV → ∀ pins s us, Inv C.X pins σ H s → Vals vs us → wpAny (model C.X.prog C.X.w) C.X.A (call f us) (EP C.X pins σ QV) C.X.xe s
theorem CaJ.of {f : Value} {ds : List D} {r : List V → Hp → VK → Prop} (hc : CallR C.X f r) (h : LcR C r ds L Q) : CaJ C f Γ ds L Q := ⟨fun Z σ H ok vs rd QV go pins s us I r => hc pins s σ H vs us QV I r (h Z vs H ok.con rd QV go)⟩
theorem ae_callBJ {x : Str} {id : String} (hm : C.X.mg x = none) (h : AA C (e :: es) Γ L fun ds L1 => CaJ C (.builtin id) Γ ds L1 Q) (hv : bootBuiltins x = some (.builtin id) := by decide +kernel) (hg : Gl C.X x := by rfl) (hn : x ≠ "__name__" := by decide) (hdb : (x == ("__debug__" : Str)) = false := by decide)
    (he : starEach (e :: es) C.X.env = (false, eval e C.X.env) :: starEach es C.X.env := by rfl) (hpl : (backTo pos (starEach es C.X.env)).any (·.1) = false := by rfl) : AE C (.Call (.Name x p) (e :: es) [] pos) Γ L Q := fun Z σ H ok QV go => ⟨fun pins s I => by
  refine wpAny_Call_Name_kw (ld_blt I hg hm hv ?_ hn hdb)
  refine PyProof.Rows.callWith_builtin1 (thn ((h Z σ H ok (fun vs H1 => ∃ ds L1 Z1, Reps C.X.K Z1 H1 vs ds ∧ C.Con L1 Z1 H1 ∧ Fr L Z H L1 Z1 H1 ∧ CaJ C (.builtin id) Γ ds L1 Q) fun vs ds H1 L1 r1 c1 f1 q1 => ⟨ds, L1, _, r1, c1, f1, q1⟩).run pos pins s I) fun us s1 ⟨vs, H1, I1, r1, ds, L1, Z1, rd, c1, f1, q1⟩ => ?_) he hpl
  exact q1.run Z1 σ H1 (ok.step c1 f1) vs rd QV (go.after f1) pins s1 us I1 r1⟩
theorem ae_lenJ (hm : C.X.mg "len" = none) (h : AE C a Γ L fun x L1 => CaJ C (.builtin "len") Γ [x] L1 Q) (hg : Gl C.X "len" := by rfl) (he : starEach [a] C.X.env = [(false, eval a C.X.env)] := by rfl) : AE C (.Call (.Name "len" p) [a] [] pos) Γ L Q := ae_callBJ hm (aa_cons (h.mono fun x L1 q => aa_nil q) he) (hg := hg) (he := he)
theorem ae_isiJ (hm : C.X.mg "isinstance" = none) (h : AE C a Γ L fun x L1 => AE C b Γ L1 fun y L2 => LcR C (rIsiA C) [x, y] L2 Q) (hg : Gl C.X "isinstance" := by rfl) (he : starEach [a, b] C.X.env = (false, eval a C.X.env) :: starEach [b] C.X.env := by rfl) (he2 : starEach [b] C.X.env = [(false, eval b C.X.env)] := by rfl) (hpl : (backTo pos (starEach [b] C.X.env)).any (·.1) = false := by rfl) : AE C (.Call (.Name "isinstance" p) [a, b] [] pos) Γ L Q :=
  ae_callB call_isA hm (aa_cons (h.mono fun x L1 q => aa_cons (q.mono fun y L2 q2 => aa_nil q2) he2) he) (hg := hg) (he := he) (hpl := hpl)
theorem c_lenO (hs : PySem.W.findIn C.X.K (.ref Cl) "__len__" = some (some (.ref g))) (hf : PySem.W.isFn C.X.K (.ref g) = true) (F : FnA C.X.prog C.X.w C.X.K C.X.mg C.X.base k g sp) (hr : Room (k + 1) C.X.A)
    (ix : IsIns L x Cl) (q : sp [x] L (fun d L' => ∃ n : Nat, d = .int n ∧ n ≤ sizeLine ∧ Q (.int n) L') (C.R Γ)) : CaJ C (.builtin "len") Γ [x] L Q := ⟨fun Z σ H ok vs rd QV go pins s us I r => by
  obtain ⟨vx, rfl, rx⟩ := rd.oneE
  obtain ⟨u, rfl, ru⟩ := r.one
  obtain ⟨a, dx, vs, rfl, st⟩ := ix.slt ok.con rx
  cases (show u = Value.ref a from ru)
  obtain ⟨sl, od, _, J, _⟩ := SlX.slt_inst I st
  obtain ⟨m, hF⟩ := I.fr
  refine PySem.W.len_K hF I.ok.mod.kin J hs hf ?_
  refine wpAny_mono (wpAny_call (run_fnB (us := [.ref a]) (vs := [.ref a]) (QV := fun z H' => ∃ n : Nat, z = .int n ∧ n ≤ sizeLine ∧ QV (.int n) H') F hr.in1 I.env0.in1 I ok (.cons rfl .nil) (.cons rx .nil) q fun v d H' L' r c f ⟨n, ed, hn, q⟩ => ⟨n, by subst ed; exact r.intE, hn, go _ _ H' L' (.int _) c f q⟩)) (fun w s' z => ?_) fun _ _ x => x
  obtain ⟨z', H', I', rz, n, ez, hn, qz⟩ := z
  subst ez
  obtain ⟨tk, rfl⟩ := rz
  refine ⟨⟨Int.natCast_nonneg n, ?_⟩, .int n, H', I'.tok _, ⟨_, rfl⟩, qz⟩
  have : n < 2 ^ 63 := Nat.lt_of_le_of_lt hn (by unfold sizeLine; decide)
  omega⟩
/-! ### subscripts -/
structure SbJ (C : DL.Ctx) (value slice : Expr) (Γ : Gm) (x y : D) (L : Lp) (Q : D → Lp → Prop) : Prop where
  run : ∀ Z σ H, Ok C Γ L Z σ H → ∀ vx vy, Rep C.X.K Z H vx x → Rep C.X.K Z H vy y → ∀ QV, Go C L Z H Q QV → ∀ pins s v u, Inv C.X pins σ H s → RelV vx v → RelV vy u → wpAny (model C.X.prog C.X.w) C.X.A (subscriptTail value slice v u) (EP C.X pins σ QV) C.X.xe s
theorem SbJ.of {r : R2} (hs : PlainIx b) (hr : IxR C.X r) (h : L2R C r x y L Q) : SbJ C a b Γ x y L Q := ⟨fun Z σ H ok vx vy rx ry QV go pins s v u I r1 r2 => hr a b pins s σ H vx vy v u QV I r1 r2 (h Z vx vy H ok.con rx ry QV go) (hs _ _)⟩
theorem ae_sbJ (h : AE C a Γ L fun x L1 => AE C b Γ L1 fun y L2 => SbJ C a b Γ x y L2 Q) : AE C (.Subscript a b pos) Γ L Q := fun Z σ H ok QV go => ⟨fun pins s I => by
  refine Subscript_ ?_
  refine thn ((h Z σ H ok (fun vx H1 => ∃ x L1 Z1, Rep C.X.K Z1 H1 vx x ∧ C.Con L1 Z1 H1 ∧ Fr L Z H L1 Z1 H1 ∧ AE C b Γ L1 fun y L2 => SbJ C a b Γ x y L2 Q) fun v d H' L' r c f q => ⟨d, L', _, r, c, f, q⟩).run pins s I) fun v s1 ⟨vx, H1, I1, r1, x, L1, Z1, rx, c1, f1, q1⟩ => ?_
  refine thn ((q1 Z1 σ H1 (ok.step c1 f1) (fun vy H2 => ∃ y L2 Z2, Rep C.X.K Z2 H2 vy y ∧ C.Con L2 Z2 H2 ∧ Fr L1 Z1 H1 L2 Z2 H2 ∧ SbJ C a b Γ x y L2 Q) fun v d H' L' r c f q => ⟨d, L', _, r, c, f, q⟩).run pins s1 I1) fun u s2 ⟨vy, H2, I2, r2, y, L2, Z2, ry, c2, f2, q2⟩ => ?_
  exact q2.run Z2 σ H2 (ok.step c2 (f1.trans f2)) vx vy (rx.mono f2.mv) ry QV (go.after (f1.trans f2)) pins s2 v u I2 r1 r2⟩
/-- x[y] by the class's own __getitem__ -/
theorem sb_O (hs : PySem.W.findIn C.X.K (.ref Cl) "__getitem__" = some (some (.ref g))) (hfn : PySem.W.fnIn C.X.K g = true) (hf : PySem.W.isFn C.X.K (.ref g) = true) (F : FnA C.X.prog C.X.w C.X.K C.X.mg C.X.base k g sp) (hr : Room (k + 1) C.X.A)
    (ix : IsIns L x Cl) (q : sp [x, y] L Q (C.R Γ)) (hsl : ∀ v u, subscripted b true v u = runValue (.builtin "lifetime.subscript" ⟨[v, u], []⟩) := by exact fun _ _ => by with_unfolding_all rfl) : SbJ C a b Γ x y L Q := ⟨fun Z σ H ok vx vy rx ry QV go pins s v u I r1 r2 => by
  obtain ⟨a', dx, vs, rfl, st⟩ := ix.slt ok.con rx
  cases (show v = Value.ref a' from r1)
  obtain ⟨sl, od, _, J, _⟩ := SlX.slt_inst I st
  obtain ⟨m, hF⟩ := I.fr
  refine PySem.W.sub_K hF I.ok.mod.kin J hs hfn hf ?_ (hsl _ _)
  exact wpAny_call (run_fnB (us := [.ref a', u]) (vs := [.ref a', vy]) F hr.in1 I.env0.in1 I ok (.cons rfl (.cons r2 .nil)) (.cons rx (.cons ry .nil)) q go)⟩
/-! ### o[i] = e -/
structure StJ (C : DL.Ctx) (Γ : Gm) (x i v : D) (L : Lp) (Q : Lp → Prop) : Prop where
  run : ∀ Z σ H, Ok C Γ L Z σ H → ∀ vx vi vv, Rep C.X.K Z H vx x → Rep C.X.K Z H vi i → Rep C.X.K Z H vv v → ∀ QV : Hp → Prop, (∀ {Z'} H' L', C.Con L' Z' H' → Fr L Z H L' Z' H' → Q L' → QV H') → ∀ pins s ux ui uv, Inv C.X pins σ H s → RelV vx ux → RelV vi ui → RelV vv uv →
    wpAny (model C.X.prog C.X.w) C.X.A (setItem ux ui uv) (fun _ s' => ∃ H', Inv C.X pins σ H' s' ∧ QV H') C.X.xe s
theorem as_subJ (h : AE C e Γ L fun v L1 => AE C o Γ L1 fun x L2 => AE C b Γ L2 fun i L3 => StJ C Γ x i v L3 fun L4 => E.nx Γ L4)
    (hs : swapsWith e (some (.Subscript o b p1)) pos.line C.X.env = pure false := by rfl) : AS C (.Assign [.Subscript o b p1] e pos) Γ L E := fun Z σ H ok DD go => ⟨fun pins s I => by
  refine wpAny_Assign_Subscript ?_ hs
  refine thn ((h Z σ H ok (fun vv H1 => ∃ v L1 Z1, Rep C.X.K Z1 H1 vv v ∧ C.Con L1 Z1 H1 ∧ Fr L Z H L1 Z1 H1 ∧ AE C o Γ L1 fun x L2 => AE C b Γ L2 fun i L3 => StJ C Γ x i v L3 fun L4 => E.nx Γ L4) fun v d H' L' r c f q => ⟨d, L', _, r, c, f, q⟩).run pins s I) fun uv s1 ⟨vv, H1, I1, r1, v, L1, Z1, rv, c1, f1, q1⟩ => ?_
  refine thn ((q1 Z1 σ H1 (ok.step c1 f1) (fun vx H2 => ∃ x L2 Z2, Rep C.X.K Z2 H2 vx x ∧ C.Con L2 Z2 H2 ∧ Fr L1 Z1 H1 L2 Z2 H2 ∧ AE C b Γ L2 fun i L3 => StJ C Γ x i v L3 fun L4 => E.nx Γ L4) fun v d H' L' r c f q => ⟨d, L', _, r, c, f, q⟩).run pins s1 I1) fun ux s2 ⟨vx, H2, I2, r2, x, L2, Z2, rx, c2, f2, q2⟩ => ?_
  refine thn ((q2 Z2 σ H2 (ok.step c2 (f1.trans f2)) (fun vi H3 => ∃ i L3 Z3, Rep C.X.K Z3 H3 vi i ∧ C.Con L3 Z3 H3 ∧ Fr L2 Z2 H2 L3 Z3 H3 ∧ StJ C Γ x i v L3 fun L4 => E.nx Γ L4) fun v d H' L' r c f q => ⟨d, L', _, r, c, f, q⟩).run pins s2 I2) fun ui s3 ⟨vi, H3, I3, r3, i, L3, Z3, ri, c3, f3, q3⟩ => ?_
  have f13 := (f1.trans f2).trans f3
  refine thn (q3.run Z3 σ H3 (ok.step c3 f13) vx vi vv (rx.mono f3.mv) ri ((rv.mono f2.mv).mono f3.mv) (fun H4 => DD.nx σ H4) (fun H4 L4 c4 f4 q4 => go.nx σ H4 Γ L4 (ok.step c4 (f13.trans f4)) (f13.trans f4) q4) pins s3 ux ui uv I3 r2 r3 r1) fun _ s4 ⟨H4, I4, q4⟩ => ?_
  exact ⟨σ, H4, I4, q4⟩⟩
theorem st_O {i v : D} {QL : Lp → Prop} (hq : PySem.W.noSeq C.X.K Cl = true) (hs : PySem.W.findIn C.X.K (.ref Cl) "__setitem__" = some (some (.ref g))) (hf : PySem.W.isFn C.X.K (.ref g) = true) (F : FnA C.X.prog C.X.w C.X.K C.X.mg C.X.base k g sp) (hr : Room k C.X.A)
    (ix : IsIns L x Cl) (q : sp [x, i, v] L (fun _ L' => QL L') (C.R Γ)) : StJ C Γ x i v L QL := ⟨fun Z σ H ok vx vi vv rx ri rv QV go pins s ux ui uv I r1 r2 r3 => by
  obtain ⟨a', dx, vs, rfl, st⟩ := ix.slt ok.con rx
  cases (show ux = Value.ref a' from r1)
  obtain ⟨sl, od, _, J, _⟩ := SlX.slt_inst I st
  obtain ⟨m, hF⟩ := I.fr
  refine PySem.W.ksp_setItem hF I.ok.mod.kin J hq hs hf ?_
  refine wpAny_mono (wpAny_call (run_fnA (us := [.ref a', ui, uv]) (vs := [.ref a', vi, vv]) (QV := fun _ H' => QV H') F hr I ok (.cons rfl (.cons r2 (.cons r3 .nil))) (.cons rx (.cons ri (.cons rv .nil))) q fun v d H' L' r c f q => go H' L' c f q)) (fun w s' z => ?_) fun _ _ x => x
  obtain ⟨z', H', I', rz, qz⟩ := z
  exact ⟨H', I', qz⟩⟩
end
end DL
namespace GQ2
open PySem PySem.SeqAt GQ
open AutoSeq1 (wpAny_loadPart')
open MeetsSeq MeetsSeq2 MeetsSeq3 SeqRoads2
section
variable {prog : Program} {w : World} {A : Around} {R : Result → Shared → Prop}
theorem tuple_eqH (l b : Addr) (items items2 : Array Value) (n n2 : Nat) (dd dd2 : Option Addr) (sl sl2 : Array (Option Value)) (hsz : items.size = items2.size) (I : Nat → Shared → Prop)
    (turn : ∀ i (h1 : i < items.size) (h2 : i < items2.size) s, I i s → wpAny (model prog w) A.in1 (eqBool items[i] items2[i]) (fun r s' => (r = true → I (i + 1) s') ∧ (r = false → R (.ok (.ret (.bool false))) s')) (fun e s' => R (.error e) s') s)
    (fin : ∀ s, I items.size s → R (.ok (.ret (.bool true))) s) {s : Shared} (hl1 : s.heap.get? l = some { cls := .type "tuple", dict := dd, data := .seq items n, slots := sl }) (hb1 : s.heap.get? b = some { cls := .type "tuple", dict := dd2, data := .seq items2 n2, slots := sl2 }) (h : I 0 s) :
    wpAny (model prog w) A.in1 (Builtin.«tuple.__eq__» ⟨[.ref l, .ref b], []⟩) (FinOf prog w A R) (fun e s' => R (.error e) s') s := by
  have f2 := AutoSeq1.sub_tuple_tuple
  have hZ : (items.toList.zip items2.toList).length = items.size := by simp [hsz]
  have h0 := h
  obtain ⟨hp, g, d, tk, os⟩ := s
  wp_walk using wpAny_loadPart' hl1, wpAny_loadPart' hb1, wpAny_forIn_list _ (fun rest b s' => b.1 = none ∧ ∃ i, rest = (items.toList.zip items2.toList).drop i ∧ i ≤ items.size ∧ I i s') _
  case turn =>
    rintro ⟨y, x⟩ rest b s' ⟨hb', i, hz, hi, hI⟩
    have hlt : i < (items.toList.zip items2.toList).length := by
      rcases Nat.lt_or_ge i (items.toList.zip items2.toList).length with h' | h'
      · exact h'
      · rw [List.drop_of_length_le h'] at hz; cases hz
    have h1 : i < items.size := hZ ▸ hlt
    have h2 : i < items2.size := hsz ▸ h1
    rw [List.drop_eq_getElem_cons hlt] at hz
    injection hz with hyx hrest
    have hy : y = items[i] := by have := congrArg Prod.fst hyx; simpa using this
    have hx : x = items2[i] := by have := congrArg Prod.snd hyx; simpa using this
    subst hy hx
    refine wpAny_bind (wpAny_mono (turn i h1 h2 s' hI) (fun r s2 q2 => ?_) fun _ _ x => x)
    obtain ⟨qt, qf⟩ := q2
    cases r with
    | true =>
      wp_walk
      exact ⟨rfl, i + 1, hrest, h1, qt rfl⟩
    | false =>
      have hf := qf rfl
      wp_walk
      exact hf
  case fin =>
    rintro ⟨b1, b2⟩ s' ⟨hb', i, hz, hi, hI⟩
    simp only at hb'
    subst hb'
    have hge : items.size ≤ i := by
      rcases Nat.lt_or_ge i (items.toList.zip items2.toList).length with h' | h'
      · rw [List.drop_eq_getElem_cons h'] at hz; cases hz
      · exact hZ ▸ h'
    have hi' : i = items.size := by omega
    have hR : R (.ok (.ret (.bool true))) s' := fin s' (hi' ▸ hI)
    wp_walk
    simpa [Builtin.Tuple.tupleCompareSizes, hsz] using hR
  case h =>
    exact ⟨rfl, 0, rfl, Nat.zero_le _, h0⟩
end
section
variable {prog : Program} {w : World} {A : Around} {E : Value → Shared → Prop} {s : Shared}
theorem rc_tupH {l b : Addr} {items items2 : Array Value} {Q : Value → Shared → Prop} (hsz : items.size = items2.size) (hu : A.units < cLine) (I : Nat → Shared → Prop)
    (hl : s.heap.IsTuple l items) (hb : s.heap.IsTuple b items2)
    (turn : ∀ i (h1 : i < items.size) (h2 : i < items2.size) s, I i s → wpAny (model prog w) A.in1 (eqBool items[i] items2[i]) (fun r s' => (r = true → I (i + 1) s') ∧ (r = false → Q (.bool false) s')) E s)
    (fin : ∀ s, I items.size s → Q (.bool true) s) (h : I 0 s) : wpAny (model prog w) A (richCompare .Eq (.ref l) (.ref b)) Q E s := by
  obtain ⟨⟨cls, dd, data, sl⟩, ho, hc, n, hd⟩ := id hl
  obtain ⟨⟨cls2, dd2, data2, sl2⟩, ho2, hc2, n2, hd2⟩ := id hb
  simp only at hc hd hc2 hd2
  subst hc hd hc2 hd2
  refine wpAny_richCompare_same_room (op := .Eq) ⟨_, ho, rfl⟩ ⟨_, ho2, rfl⟩ F.slot_tuple_eq (call_here F.slot_tuple_eq ⟨_, ho, rfl⟩ F.entry_tuple_eq (F.args_tuple_eq_2 _ _) ?_) hu
  exact tuple_eqH (R := wants (fun v s' => v ≠ .notImplemented ∧ Q v s') E) l b items items2 n n2 dd dd2 sl sl2 hsz I (fun i h1 h2 s' q => wpAny_mono (turn i h1 h2 s' q) (fun r s2 z => ⟨z.1, fun e => ⟨(fun x => nomatch x), z.2 e⟩⟩) fun _ _ x => x) (fun s' q => ⟨(fun x => nomatch x), fin s' q⟩) ho ho2 h
end
end GQ2
namespace DL
open PySem PySem.Spec PyProof.Rows L2
/-- x == y as a builtin asks it, somewhere below the running body -/
structure EqI (C : DL.Ctx) (k : Nat) (Γ : Gm) (x y : D) (L : Lp) (Q : Bool → Lp → Prop) : Prop where
  run : ∀ A, Sub C.X k A → ∀ Z σ H, Ok C Γ L Z σ H → ∀ vx vy, Rep C.X.K Z H vx x → Rep C.X.K Z H vy y → ∀ QB : Bool → Hp → Prop, (∀ {Z'} b H' L', C.Con L' Z' H' → Fr L Z H L' Z' H' → Q b L' → QB b H') → ∀ pins s v u, Inv C.X pins σ H s → RelV vx v → RelV vy u →
    wpAny (model C.X.prog C.X.w) A (eqBool v u) (fun r s' => ∃ H', Inv C.X pins σ H' s' ∧ QB r H') C.X.xe s
/-- .. one pair behind the other -/
def EqsI (C : DL.Ctx) (k : Nat) (Γ : Gm) : List D → List D → Lp → (Bool → Lp → Prop) → Prop
  | [], [], L, Q => Q true L
  | x :: xs, y :: ys, L, Q => EqI C k Γ x y L fun b L1 => (b = true → EqsI C k Γ xs ys L1 Q) ∧ (b = false → Q false L1)
  | _, _, _, _ => False
section
variable {C : DL.Ctx} {Γ : Gm} {L : Lp} {x y : D} {k : Nat} {Cl g : Addr} {sp : SpA} {t : Value}
/-- the same object, or by the class's own == -/
theorem eqi_O {Q : Bool → Lp → Prop} (hs : PySem.W.findIn C.X.K (.ref Cl) "__eq__" = some (some (.ref g))) (hf : PySem.W.isFn C.X.K (.ref g) = true) (F : FnA C.X.prog C.X.w C.X.K C.X.mg C.X.base k g sp)
    (ix : IsIns L x Cl) (iy : IsIns L y Cl) (hsame : ∀ {Z H v}, C.Con L Z H → Rep C.X.K Z H v x → Rep C.X.K Z H v y → Q true L) (q : sp [x, y] L (fun d L' => ∃ k, d = .bl k ∧ Q k L') fun _ _ _ => False) : EqI C k Γ x y L Q := ⟨fun A sb Z σ H ok vx vy rx ry QB go pins s v u I r1 r2 => by
  obtain ⟨a, dx, vs, rfl, st⟩ := ix.slt ok.con rx
  obtain ⟨b, dy, ws, rfl, st2⟩ := iy.slt ok.con ry
  cases (show v = Value.ref a from r1)
  cases (show u = Value.ref b from r2)
  by_cases hab : a = b
  · subst hab
    exact SeqAt.EqAt.same (A := A) (s := s) (.ref a) C.X.prog C.X.w C.X.xe _ ⟨H, I, go true H L ok.con (.refl L H) (hsame ok.con rx ry)⟩
  · refine GQ.eqBool_refG hab ?_
    obtain ⟨sl, od, _, J, _⟩ := SlX.slt_inst I st
    obtain ⟨sl', od', _, J', _⟩ := SlX.slt_inst I st2
    obtain ⟨m, hF⟩ := I.fr
    have e0 : Env0 C.X.prog C.X.w C.X.K C.X.mg C.X.base A C.X.stack s H := by
      have e := I.env0
      exact ⟨by rw [sb.fr]; exact e.frames, e.mod, e.bs, e.bsz, e.funs, e.frf, e.hok, e.bare⟩
    refine PySem.W.cmp_K (op := .Eq) (tb := .ref Cl) sb.room.units0 hF I.ok.mod.kin J J'.type (by simp [PySem.W.notFirst]) hs hf ?_
    refine wpAny_mono (wpAny_call (run_fnD (us := [.ref a, .ref b]) (vs := [.ref a, .ref b]) (QV := fun z H' => ∃ k, z = .bl k ∧ QB k H') F sb.room e0 I ok (.cons rfl (.cons rfl .nil)) (.cons rx (.cons ry .nil)) q fun v d H' L' r c f ⟨k, ed, q⟩ => ⟨k, by subst ed; exact r.blE, go k H' L' c f q⟩)) (fun w s' z => ?_) fun _ _ x => x
    obtain ⟨z', H', I', rz, k, ek, qz⟩ := z
    subst ek
    cases rz
    exact ⟨k, rfl, H', I', qz⟩⟩
theorem EqsI.same : ∀ {xs ys : List D} {L : Lp} {Q : Bool → Lp → Prop}, EqsI C k Γ xs ys L Q → xs.length = ys.length ∨ xs ≠ [] := fun {xs ys} _ _ h => by
  cases xs with
  | nil =>
    cases ys with
    | nil => exact .inl rfl
    | cons => exact h.elim
  | cons => exact .inr (fun z => nomatch z)
/-- tuples by their items -/
theorem j_eqTup {xs ys : List D} {Q : D → Lp → Prop} (hr : Room (k + 1) C.X.A) (hl : xs.length = ys.length) (h : EqsI C k Γ xs ys L fun b L' => Q (.bl b) L') : OpJ C (.cmp .Eq) Γ (.tup xs) (.tup ys) L Q := ⟨fun Z σ H ok vx vy rx ry QV go pins s v u I r1 r2 => by
  obtain ⟨a, vs, rfl, ha, ra⟩ := rx.tupE
  obtain ⟨b, ws, rfl, hb, rb⟩ := ry.tupE
  cases (show v = Value.ref a from r1)
  cases (show u = Value.ref b from r2)
  obtain ⟨its, r, e, z⟩ := I.tuple (SqT.of ha)
  obtain ⟨its2, r', e2, z2⟩ := I.tuple (SqT.of hb)
  have hsz : its.toArray.size = its2.toArray.size := by rw [List.size_toArray, List.size_toArray, ← r.length, ← r'.length, ra.length, rb.length]; exact hl
  show wpAny _ _ (richCompare .Eq (.ref a) (.ref b)) _ _ _
  refine GQ2.rc_tupH hsz hr.units0 (fun i s' => ∃ H' L' Z', Inv C.X pins σ H' s' ∧ C.Con L' Z' H' ∧ Fr L Z H L' Z' H' ∧ EqsI C k Γ (xs.drop i) (ys.drop i) L' fun b L' => Q (.bl b) L') e e2 (fun i h1 h2 s' l => ?_) (fun s' l => ?_) ⟨H, L, Z, I, ok.con, .refl L H, by simpa using h⟩
  · obtain ⟨H1, L1, Z1, I1, c1, f1, q⟩ := l
    have g1 : its[i]? = some its.toArray[i] := by
      have h1' : i < its.length := by simpa using h1
      rw [List.getElem?_eq_getElem h1'] <;> simp
    have g2 : its2[i]? = some its2.toArray[i] := by
      have h2' : i < its2.length := by simpa using h2
      rw [List.getElem?_eq_getElem h2'] <;> simp
    have k1 : i < vs.length := by rw [r.length]; simpa using h1
    have k2 : i < ws.length := by rw [r'.length]; simpa using h2
    obtain ⟨u, hu, ru⟩ := r.get (List.getElem?_eq_getElem k1)
    obtain ⟨v, hv, rv⟩ := r'.get (List.getElem?_eq_getElem k2)
    rw [g1] at hu
    rw [g2] at hv
    rw [Option.some.inj hu, Option.some.inj hv]
    have m1 : i < xs.length := by rw [← ra.length]; exact k1
    have m2 : i < ys.length := by rw [← rb.length]; exact k2
    rw [List.drop_eq_getElem_cons m1, List.drop_eq_getElem_cons m2] at q
    have x1 : Rep C.X.K Z1 H1 vs[i] xs[i] := by
      obtain ⟨v0, e0, q0⟩ := ra.get (List.getElem?_eq_getElem m1)
      rw [List.getElem?_eq_getElem k1] at e0
      rw [Option.some.inj e0]
      exact q0.mono f1.mv
    have x2 : Rep C.X.K Z1 H1 ws[i] ys[i] := by
      obtain ⟨v0, e0, q0⟩ := rb.get (List.getElem?_eq_getElem m2)
      rw [List.getElem?_eq_getElem k2] at e0
      rw [Option.some.inj e0]
      exact q0.mono f1.mv
    refine wpAny_mono (q.run C.X.A.in1 ⟨hr.in1, rfl⟩ Z1 σ H1 (ok.step c1 f1) vs[i] ws[i] x1 x2 (fun b H2 => ∃ L2 Z2, C.Con L2 Z2 H2 ∧ Fr L Z H L2 Z2 H2 ∧ ((b = true → EqsI C k Γ (xs.drop (i + 1)) (ys.drop (i + 1)) L2 fun b L' => Q (.bl b) L') ∧ (b = false → Q (.bl false) L2))) (fun b H2 L2 c2 f2 q2 => ⟨L2, _, c2, f1.trans f2, q2⟩) pins s' _ _ I1 ru rv) (fun rr s2 hq => ?_) fun _ _ x => x
    obtain ⟨H2, I2, L2, Z2, c2, f2, qt, qf⟩ := hq
    exact ⟨fun e => ⟨H2, L2, Z2, I2, c2, f2, qt e⟩, fun e => ⟨.bl false, H2, I2, rfl, go _ _ H2 L2 (.bl _) c2 f2 (qf e)⟩⟩
  · obtain ⟨H1, L1, Z1, I1, c1, f1, q⟩ := l
    rw [List.drop_of_length_le (by rw [← ra.length, r.length]; simp), List.drop_of_length_le (by rw [← hl, ← ra.length, r.length]; simp)] at q
    exact ⟨.bl true, H1, I1, rfl, go _ _ H1 L1 (.bl _) c1 f1 q⟩⟩
end
end DL
namespace DL
open PySem PySem.Spec PyProof.Rows L2
section
variable {C : DL.Ctx} {Γ : Gm} {L : Lp} {e e2 : Expr} {pos : Pos}
theorem itzF_is {x y : Addr} {vs us : List V} {xs ys : List D} {L0 : Lp} {F0 : Fz} {H0 : Hp} (fx : F0 x) (fy : F0 y) (hx : H0 x = some (.lst vs)) (hy : H0 y = some (.lst us)) (rx : Reps C.X.K F0 H0 vs xs) (ry : Reps C.X.K F0 H0 us ys) : IsIt C (L2.Itz C.X.K x y) (zipD xs ys) (fun _ => True) L0 F0 H0 := by
  intro F i H L s cc g
  have hx' : SqL C.X.K H x vs := SqL.of (s.fk _ _ fx hx)
  have hy' : SqL C.X.K H y us := SqL.of (s.fk _ _ fy hy)
  have hl : (zipD xs ys).length = min xs.length ys.length := by unfold zipD; simp
  have l1 := rx.length
  have l2 := ry.length
  rw [hl]
  refine ⟨fun h => ?_, fun h => ⟨vs, us, hx', hy', ?_⟩, fun v H' yy hi => ?_⟩
  · have h1 : i < vs.length := by rw [l1]; exact Nat.lt_of_lt_of_le h (Nat.min_le_left _ _)
    have h2 : i < us.length := by rw [l2]; exact Nat.lt_of_lt_of_le h (Nat.min_le_right _ _)
    exact ⟨vs, us, vs[i], us[i], hx', hy', List.getElem?_eq_getElem h1, List.getElem?_eq_getElem h2⟩
  · omega
  · obtain ⟨T, x1, y1, e1, nT, e2, k1, k2⟩ := yy
    subst e1 e2
    obtain ⟨d1, g1, q1⟩ := rx.getV (k1 vs hx')
    obtain ⟨d2, g2, q2⟩ := ry.getV (k2 us hy')
    have s2 : Mv F0 H0 F (upd H T (.tup [x1, y1])) := s.mv.trans (.new nT)
    refine ⟨.tup [d1, d2], ?_, Rep.tupI upd_same (.cons (q1.mono s2) (.cons (q2.mono s2) .nil)) (by show 2 ≤ sizeLine; decide), .inr ⟨T, _, nT, rfl⟩⟩
    unfold zipD
    rw [List.getElem?_zipWith, g1, g2]
/-- zip of two frozen lists -/
theorem ai_zipF {p tpos : Pos} {elts : List Expr} {kk : Nat} {R : List D → (Lp → Prop) → Lp → Prop} (hm : C.X.mg "zip" = none) (h : AA C [e, e2] Γ L fun ds L1 => ∃ xs ys, ds = [.flst xs, .flst ys] ∧ R (zipD xs ys) (fun _ => True) L1) (hg : Gl C.X "zip" := by rfl)
    (hs : starEach [e, e2] C.X.env = (false, eval e C.X.env) :: starEach [e2] C.X.env := by rfl) (hpl : (backTo pos (starEach [e2] C.X.env)).any (·.1) = false := by rfl) : AI C (.Tuple elts kk tpos) (.Call (.Name "zip" p) [e, e2] [] pos) Γ L R := fun F σ H ok RV go =>
  wi_of (RZ.pi_zipA hg hm pa_we hs hpl) (h _ σ H ok _ fun vs ds H1 L1 r c f ⟨xs, ys, ed, q⟩ => by
    subst ed
    obtain ⟨v, w, rfl, r1, r2⟩ := r.twoE
    cases r1 with
    | @flst x vx _ hl ha hzz hn hi =>
      cases r2 with
      | @flst y vy _ hl2 ha2 hzz2 hn2 hi2 =>
        exact ⟨x, y, vx, vy, rfl, .inl ⟨SqL.of ha, SqL.of ha2, go _ H1 L1 _ _ c f (itzF_is hl hl2 ha ha2 (Reps.of_get hn hi) (Reps.of_get hn2 hi2)) q⟩⟩)
/-- a name's value is frozen, between two statements -/
theorem ass_frz (n : Nat) {d d' : D} {L' : Lp} {st : List Stmt} {E : AEnds} (hn : Γ[n]? = some (some d)) (z : Frz C L d L' d') (h : ASs C st (Γ.set n (some d')) L' E) : ASs C st Γ L E := fun F σ H ok DD go => ⟨fun pins s I => by
  obtain ⟨v, hv, rv⟩ := ok.sl.get n d hn
  obtain ⟨F', H', I', r', c', f'⟩ := z pins σ s F H v I ok.con rv
  have sl : Sl C.X.K F' H' σ (Γ.set n (some d')) := by
    have := (ok.sl.mono f'.mv).set n r'
    rwa [show σ.set n (some v) = σ from by
      apply List.ext_getElem?
      intro j
      by_cases e : j = n
      · subst e
        rw [hv, List.getElem?_set_self (List.getElem?_eq_some_iff.mp hv).1]
      · rw [List.getElem?_set_ne (Ne.symm e)]] at this
  exact (h F' σ H' ⟨sl, c', ok.lr.step f'⟩ DD (go.after f')).run pins s I'⟩
/-- y = [elt for x in iter], each item alone -/
theorem as_setMap (n i : Nat) {E : AEnds} {x y : Str} {px py spos : Pos} {scope : Scope} {elt iter : Expr}
    (h : AI C (.Name x px) iter Γ L fun ds G L1 => ∃ (α : Type) (xs : List α) (g f : α → D), ds = xs.map g ∧ G L1 ∧ ds.length ≤ sizeLine ∧ (∀ y ∈ xs, ∀ s H Cc cl fp, AV (bctx C scope s H Cc cl fp) elt ((wipeG Γ [i]).set i (some (g y))) L1 (f y)) ∧ ∀ p, L1 p = none → E.nx (Γ.set n (some (.ptr p))) (put L1 p (.lst (xs.map f))))
    (hag : ∀ s H Cc cl fp d Γ, AG (bctx C scope s H Cc cl fp) (.Name x px) d Γ (Γ.set i (some d)) [i] := by (intro _ _ _ _ _ _ _; exact ag_name _))
    (hy : C.X.N[n]? = some y := by rfl) (hyl : C.X.env.scope.names.lookup y = some .local := by rfl) (hsw : swapsWith (.ListComp elt [⟨.Name x px, iter, [], 0⟩] scope pos) (some (.Name y py)) spos.line C.X.env = pure true := by exact sw_true rfl rfl rfl (by decide +kernel))
    (ok : BlkOk C.X.N C.X.env.scope scope [(x, i)] := by (dsimp only [fctx, bctx, cxOf, envOfC, compEnvC, Cx.blk]; exact blkOk_by (by decide +kernel))) (hs : ∀ x, foldedSetIterable iter C.X.env x = pure x := by intro _; rfl) : AS C (.Assign [.Name y py] (.ListComp elt [⟨.Name x px, iter, [], 0⟩] scope pos) spos) Γ L E :=
  as_setLc n [(x, i)] (fun F σ H okk RV go => h F σ H okk RV fun J H' L' ds G c f it ⟨α, xs, g, f', e, hG, hz, hf, q⟩ => by
    subst e
    rw [List.length_map] at hz
    exact go J H' L' _ G c f it (lc_pure (R := fun acc L2 => ∀ p, L2 p = none → E.nx (Γ.set n (some (.ptr p))) (put L2 p (.lst acc))) (t := fun _ => true) hG hz (fun j hj => hj) (fun y hy s H Cc cl fp => ⟨hag s H Cc cl fp _ _, fun Q q => ats_nil q, fun _ => hf y hy s H Cc cl fp⟩) (by rw [List.filter_eq_self.mpr fun _ _ => rfl]; exact q))) hy hyl hsw ok hs
end
end DL
namespace DL
open PySem PySem.Spec PyProof.Rows L2
/-! ### own errors: __init__ -/
/-- self.fld = v, the first field of an error that is being made -/
def spWE (K : PySem.W.Frag) (fld : Str) : Sp := fun vs H Q _ => ∃ (a C : Addr) (y : V), vs = [.ref a, y] ∧ OexC K C ∧ PySem.W.findIn K (.ref C) fld = some none ∧ H a = some (exo a C none) ∧ ∀ dx, H dx = none → dx ≠ a → Q .non (upd (upd H dx (exd dx [(fld, y)])) a (exo a C (some dx)))
theorem vis_par {N ps : List Str} {sc : Scope} (S : FnScope N ps sc) {x : Str} (h : x ∈ ps) : Vis sc x := (S.par x h).elim .inl fun z => .inr (.inl z)
theorem fn_we {P : Program} {w : World} {K : PySem.W.Frag} {mg : Str → Option Value} {base : Heap} {x qual : Str} {st : Stmt} {f : Addr} {fd : FuncData} {v fld : Str} {p1 p2 p3 pos : Pos} (F : FunX K x qual st f fd) (S : FnScope ["self", v] ["self", v] (defScope st))
    (hbd : defBody st = [.Assign [.Attribute (.Name "self" p1) fld p2] (.Name v p3) pos]) (hd : (v == ("__debug__" : Str)) = false) (hcd2 : (v == ("__classdict__" : Str)) = false) : FnOk P w K mg base (L2.CX P w) 1 f fd ["self", v] (spWE K fld) := by
  obtain ⟨oc, od, dV, kV, doc, pm, an, cdv, ct, osl, rfl, lk, hcd⟩ := F.ex
  refine fn_of (k := 0) lk hcd S (fun vs H Q E ⟨a, C, y, e, _⟩ => by rw [e]; rfl) fun A outer s H vs Q E hr ⟨a, C, y, e, T, hno, ha, q⟩ => ?_
  subst e
  rw [hbd]
  refine ⟨_, pss_one (ps_ost (pe_var (i := 0) rfl (vis_par S List.mem_cons_self)) (pe_var (i := 1) rfl (vis_par S (List.mem_cons_of_mem _ List.mem_cons_self)) hd hcd2)), ?_⟩
  exact ⟨y, rfl, .ref a, rfl, a, C, rfl, T, hno, .inl ⟨ha, fun dx h1 h2 => q dx h1 h2⟩⟩
end DL
namespace DL
open PySem PySem.Spec PyProof.Rows L2
open PySem.W (ksEnv ksFn ks_superIn clsIn mroIn nsIn typeIn fnIn codeIn)
/-- the frame of an __init__ that says super() -/
def cxS (P : Program) (w : World) (K : PySem.W.Frag) (mg : Str → Option Value) (base : Heap) (N : List Str) (qual : Str) (scope : Scope) (f : Addr) (cdv : Value) (cc : Addr) (A : Around) (outer : List Env) (s : Shared) (H : Hp) : Cx where
  prog := P
  w := w
  K := K
  mg := mg
  base := base
  A := A.deeper (ksEnv qual scope s.heap.objs.size f cdv cc)
  N := N
  s_0 := s
  H_0 := H
  env := ksEnv qual scope s.heap.objs.size f cdv cc
  outer := outer
  stack := ksEnv qual scope s.heap.objs.size f cdv cc :: outer
  ex := []
  calm := true
  fn := fun _ => false
  pn := []
  xe := fun _ _ => False
/-- the scope of such an __init__ -/
structure SuSc (sc : Scope) (v : Str) : Prop where
  kind : sc.kind = .function
  co : sc.isCoroutine = false
  gen : sc.isGenerator = false
  slf : sc.names.lookup ("self" : Str) = some .local
  par : sc.names.lookup v = some .local
  sup : sc.names.lookup ("super" : Str) = some .globalImplicit
  cls : sc.names.lookup ("__class__" : Str) = some .free
  nocell : ∀ x ∈ sc.names, x.2 ≠ .cell
  only : ∀ x ∈ sc.names, x.2 = .free → x.1 = ("__class__" : Str)
  ne : ("self" : Str) ≠ v
  d1 : (v == ("__debug__" : Str)) = false
  d2 : (v == ("__classdict__" : Str)) = false
theorem inv_su {P : Program} {w : World} {K : PySem.W.Frag} {mg : Str → Option Value} {base : Heap} {qual v : Str} {scope : Scope} {f : Addr} {cdv : Value} {cc : Addr} {A : Around} {outer : List Env} {s : Shared} {H : Hp} {h0 : Heap} {tk : Nat} {u1 u2 : Value} {v1 v2 : V} {oc : Obj} {w0 : Option Value} (S : SuSc scope v) (hd : A.handled = none) (e0 : Env0 P w K mg base A outer s H)
    (hc : K.lookup cc = some oc) (hcd : oc.data = .cell w0) (hns : h0.Ns s.heap.objs.size (fun x => ((["self", v] : List Str).zip [u1, u2]).reverse.lookup x)) (hk : ∀ b o, s.heap.get? b = some o → h0.get? b = some o) (r1 : RelV v1 u1) (r2 : RelV v2 u2) :
    Inv (cxS P w K mg base ["self", v] qual scope f cdv cc A outer s H) [] [some v1, some v2] H { s with heap := h0, toks := tk } := by
  have noA : ∀ b : Addr, b ∉ (cxS P w K mg base ["self", v] qual scope f cdv cc A outer s H).ex := fun b z => absurd (show b ∈ ([] : List Addr) from z) (by simp)
  have one : ∀ {x : Str} {c : Addr}, ([(("__class__" : Str), cc)] : List (Str × Addr)).lookup x = some c → x = ("__class__" : Str) ∧ c = cc := fun {x c} h => by
    rw [List.lookup_cons] at h
    cases e : x == ("__class__" : Str) with
    | true => rw [e] at h; exact ⟨eq_of_beq e, (Option.some.inj h).symm⟩
    | false => rw [e] at h; cases h
  have bc : base.get? cc = some oc := e0.mod.kin _ _ hc
  have sc := e0.bs _ _ bc
  refine ⟨⟨e0.mod, S.kind, rfl, rfl, Nat.le_refl _, fun y z c h1 h2 => (one h1).1.trans (one h2).1.symm, fun y hy => ?_, (fun y c h => Bool.noConfusion h), fun _ => hd, Around.frames_deeper e0.frames, .inr ⟨rfl, rfl⟩, fun b z => absurd z (noA b), e0.bs, e0.bsz, fun b _ _ => noA b, fun b z => absurd z (noA b), e0.funs, e0.frf⟩,
    rfl, e0.bare, Un.kept hk, ⟨_, hns, fun i y z h1 h2 h3 => ?_⟩, fun y c h => ?_, e0.hok.fresh (Nat.le_refl _), fun y c h => ?_, fun p hp => absurd (show p ∈ ([] : List (Addr × Obj)) from hp) (by simp), e0.hok.kept hk, rfl⟩
  · have hy : scope.names.lookup y = some .cell ∨ scope.names.lookup y = some .free := hy
    rcases hy with hy | hy
    · exact absurd rfl (S.nocell _ (PySem.mem_of_lookup hy))
    · have : y = ("__class__" : Str) := S.only _ (PySem.mem_of_lookup hy) rfl
      subst this
      exact ⟨cc, rfl⟩
  · match i, h1, h2 with
    | 0, h1, h2 =>
      cases h1
      cases h2
      refine ⟨u1, r1, .inl ⟨S.slf, ?_⟩⟩
      show List.lookup ("self" : Str) [(v, u2), (("self" : Str), u1)] = some u1
      have e1 : (("self" : Str) == v) = false := by simpa using S.ne
      rw [List.lookup_cons, e1]
      rfl
    | 1, h1, h2 =>
      cases h1
      cases h2
      refine ⟨u2, r2, .inl ⟨S.par, ?_⟩⟩
      show List.lookup v [(v, u2), (("self" : Str), u1)] = some u2
      rw [List.lookup_cons, beq_self_eq_true]
    | i + 2, h1, h2 => simp [cxS] at h1
  · obtain ⟨_, rfl⟩ := one h
    exact ⟨w0, oc, hk _ _ sc.1, hcd⟩
  · obtain ⟨_, rfl⟩ := one h
    exact sc.2
/-- super().__init__(v), then self.fld = v -/
def spSU (K : PySem.W.Frag) (C : Addr) (fld : Str) : Sp := fun vs H Q _ => ∃ (a : Addr) (y : V), vs = [.ref a, y] ∧ H a = some (exo a C none) ∧ ∀ dx, H dx = none → dx ≠ a → Q .non (upd (upd (upd H dx (exd dx [("value", y)])) a (exo a C (some dx))) dx (exd dx [(fld, y), ("value", y)]))
set_option maxHeartbeats 1000000 in
theorem fn_su {P : Program} {w : World} {K : PySem.W.Frag} {mg : Str → Option Value} {base : Heap} {name qual v fld : Str} {params : Arguments} {scope : Scope} {dV kV doc pm ct oc ccl cl : Value} {an od cdd cld : Option Addr} {osl ccs csl : Array (Option Value)} {f f2 C cc cda : Addr} {fd2 : FuncData} {vsc : Array Value} {file : Str} {tf : Tok} {cdC : ClassData} {ar : Arg}
    {p0 p1 p2 p3 p4 p5 q1 q2 q3 q4 : Pos} {body : List Stmt} (hbd : body = [.Expr (.Call (.Attribute (.Call (.Name "super" p0) [] [] p1) "__init__" p2) [.Name v p3] [] p4) p5, .Assign [.Attribute (.Name "self" q1) fld q2] (.Name v q3) q4])
    (lk : K.lookup f = some ⟨oc, od, .func (ksFn name qual params body scope dV kV doc pm an (.ref cda) ct cc), osl⟩) (hcd : codeIn K (.ref cda) qual = true) (S : SuSc scope v) (hp : (params.posonlyargs ++ params.args).head? = some ar) (hself : ar.arg = "self")
    (hcode : K.lookup cda = some ⟨ccl, cdd, .fields vsc, ccs⟩) (hvs : vsc[2]? = some (.str file tf)) (hfile : ((P.main.file : Str) == file) = true) (hcell : K.lookup cc = some ⟨cl, cld, .cell (some (.ref C)), csl⟩) (hC : clsIn K C = some cdC) (hsub : mroIn K C (.ref C) = some true)
    (hop : nsIn K cStatics "thirdparty.any" = some none) (hm : ks_superIn K C C "__init__" = some (some (.ref f2))) (ht : typeIn K (.ref f2) = some (.type "function")) (hfn : fnIn K f2 = true) (htop : (P.main.scope.names.lookup ("super" : Str)).isSome = false) (hsu : mg "super" = none)
    (F2 : FnOk P w K mg base (L2.CX P w) 1 f2 fd2 ["self", "value"] (spWE K "value")) (hb2 : Binds K fd2 ["self", "value"] []) (T : OexC K C) {pl : Addr → Sem Bool}
    (he : ∀ L', eval (.Call (.Attribute (.Call (.Name "super" p0) [] [] p1) "__init__" p2) [.Name v p3] [] p4) (ksEnv qual scope L' f (.ref cda) cc) = (do
      let ov ← attributeBase (.Call (.Name "super" p0) [] [] p1) "__init__" (ksEnv qual scope L' f (.ref cda) cc) (eval (.Call (.Name "super" p0) [] [] p1) (ksEnv qual scope L' f (.ref cda) cc))
      standAt p2.atName
      let (g, first) ← holding [ov] (getMethod ov "__init__" (pl L'))
      callWith p4 g first (backTo p4 (starEach [.Name v p3] (ksEnv qual scope L' f (.ref cda) cc))) []))
    (n1 : PySem.W.findIn K (.ref C) "value" = some none) (n2 : PySem.W.findIn K (.ref C) fld = some none) :
    FnOk P w K mg base (L2.CX P w) 3 f (ksFn name qual params body scope dV kV doc pm an (.ref cda) ct cc) ["self", v] (spSU K C fld) := by
  refine ⟨fun vs H Q E ⟨a, y, e, _⟩ => by rw [e]; rfl, fun A outer s H args us vs Q E hr e0 hb r hsp => ?_⟩
  obtain ⟨a, y, rfl, ha, q⟩ := hsp
  match us, r with
  | [u1, u2], .cons r1 (.cons r2 .nil) =>
  have hu1 : u1 = .ref a := r1
  have KX : K.In s.heap := e0.mod.kin.keeps fun b o e => (e0.bs b o e).1
  have lim : s.heap.NoLimit := e0.mod.nolimit.keeps fun b o e => (e0.bs b o e).1
  have hloc : ∀ z ∈ (["self", v] : List Str).zip [u1, u2], scope.names.lookup z.1 = some .local := fun z hz => by
    rcases List.mem_cons.mp hz with rfl | hz
    · exact S.slf
    · rw [List.mem_singleton.mp hz]; exact S.par
  refine PySem.ks_codeAny_call_defAt (fd := ksFn name qual params body scope dV kV doc pm an (.ref cda) ct cc) (body := body) (binds := (["self", v] : List Str).zip [u1, u2]) hr.depth (KX _ _ lk) rfl lim (PySem.W.codeRec_of KX hcd) rfl hb S.nocell hloc (fun h0 hns hk0 => ?_) S.co S.gen S.kind
  have I0 : Inv (cxS P w K mg base ["self", v] qual scope f (.ref cda) cc A outer s H) [] [some (.ref a), some y] H { s with heap := h0, toks := s.toks + 2 } := inv_su S hr.hd e0 hcell rfl hns hk0 r1 r2
  have fin : ∀ {s' : Shared} {H' : Hp} {σ' : L2.St} {pins : List (Addr × Obj)}, Inv (cxS P w K mg base ["self", v] qual scope f (.ref cda) cc A outer s H) pins σ' H' s' → Q .non H' → CE outer P w H s Q .none s' := fun {s' H' σ' pins} J qq => ⟨.non, H', J.os, J.bare, J.base, J.hok, rfl, qq⟩
  have goal : _root_.PySem.wpAt (model P w) (A.deeper (ksEnv qual scope s.heap.objs.size f (.ref cda) cc)) (.func body (ksEnv qual scope s.heap.objs.size f (.ref cda) cc)) (execs body (ksEnv qual scope s.heap.objs.size f (.ref cda) cc))
      (fun fl s' => CR (L2.CX P w) outer P w H s Q E (.ok (.ret (match fl with | .ret u => u | _ => .none))) s') (fun e s' => False) { s with heap := h0, toks := s.toks + 2 } := by
    have kb : ∀ b o, base.get? b = some o → h0.get? b = some o := fun b o e => hk0 _ _ (e0.bs b o e).1
    have X0 : K.In h0 := e0.mod.kin.keeps kb
    obtain ⟨mb, g1, g2⟩ := e0.mod.blt
    obtain ⟨t1, hx⟩ := exo_at I0.hok ha
    obtain ⟨oD, hD1, hD2⟩ : ∃ oD, h0.get? C = some oD ∧ oD.data = .cls cdC := by
      unfold clsIn at hC
      split at hC
      · rename_i c d cd' sl ho
        cases hC
        exact ⟨_, X0 _ _ ho, rfl⟩
      · cases hC
    rw [hbd]
    refine PySem.ks_wpAt_execs_cons (PySem.ks_wpAt_Expr_any (PySem.ks_wpAt_MethodCall ?_ (he _)) (by simp [interactive, S.kind]))
    refine PySem.ks_wpAt_super_base (env := ksEnv qual scope s.heap.objs.size f (.ref cda) cc) S.sup S.cls rfl rfl (X0 _ _ lk) rfl hp rfl (X0 _ _ hcode) rfl hvs hfile htop ?_
    refine PySem.W.ks_loadName_global S.kind S.sup (Calls.loadGlobal_builtin (env := ksEnv qual scope s.heap.objs.size f (.ref cda) cc) (e0.mod.glob.keeps kb) hsu (g1.keeps kb) ((g2 "super" (by decide)).trans (by decide +kernel)) ⟨rfl, ?_⟩)
    refine wpAny_loadName_free S.kind S.cls rfl ⟨_, X0 _ _ hcell, rfl⟩ ?_
    rw [hself]
    refine wpAny_loadName_local (v := .ref a) S.kind S.slf hns ?_ ?_
    · show List.lookup ("self" : Str) [(v, u2), (("self" : Str), u1)] = some (.ref a)
      have e1 : (("self" : Str) == v) = false := by simpa using S.ne
      rw [List.lookup_cons, e1, hu1]
      rfl
    refine PySem.ks_wpAny_isType_cls hD1 hD2 ⟨rfl, ?_⟩
    refine PySem.ks_wpAny_call_super hD1 hD2 hx rfl (fun c z => nomatch z) (PySem.W.looks_mroIn X0 hsub) (fun h1 e1 k1 => ?_)
    have I1 := I0.kept (t' := s.toks + 2) k1
    have X1 : K.In h1 := X0.keeps k1
    have hmro : PySem.W.Looks (model P w) h1 (mroOf (.ref C)) cdC.mro := (PySem.W.looks_clsIn X1 hC).andThen .now
    have hm' : PySem.W.alongIn K "__init__" ((cdC.mro.dropWhile (· != .ref C)).drop 1) = some (some (.ref f2)) := by
      unfold ks_superIn at hm
      rw [hC] at hm
      exact hm
    obtain ⟨of, hof, hofc⟩ : ∃ of, h1.get? f2 = some of ∧ of.cls = .type "function" := by
      have ht' : (K.lookup f2).map (·.cls) = some (.type "function") := ht
      cases z : K.lookup f2 with
      | none => rw [z] at ht'; cases ht'
      | some of => rw [z] at ht'; exact ⟨of, X1 _ _ z, Option.some.inj ht'⟩
    have hxC : a ≠ C := fun z => by
      rw [z, hD1] at hx
      have := Option.some.inj hx
      rw [this] at hD2
      cases hD2
    refine PySem.ks_wpAny_getMethod_super e1 (PySem.W.looks_opaque X1 hop) hmro rfl X1 hm' hof hofc hxC rfl ?_
    have k2 : ∀ b o, h1.get? b = some o → (h1.push { cls := .type "method", data := .fields #[.ref f2, .ref a] }).get? b = some o := fun b o e => Heap.get?_push_of_some _ e
    have I2 := I1.kept (t' := s.toks + 2 + 1) k2
    have hq2 : (h1.push { cls := .type "method", data := .fields #[.ref f2, .ref a] }).get? h1.objs.size = some (PySem.W.methodObj (.ref f2) (.ref a)) := Heap.get?_push_size h1 rfl
    have nq : H h1.objs.size = none := I1.hok.fresh (Nat.le_refl _)
    have I2p := I2.pins_of (pins' := [(h1.objs.size, PySem.W.methodObj (.ref f2) (.ref a))]) fun p hp => by
      have : p = (h1.objs.size, PySem.W.methodObj (.ref f2) (.ref a)) := by simpa [cxS] using hp
      subst this
      refine ⟨hq2, nq, Nat.ne_of_gt I1.lt, I1.nofs (Nat.le_refl _), fun v z => by cases z⟩
    have va : PA (cxS P w K mg base ["self", v] qual scope f (.ref cda) cc A outer s H) [.Name v p3] _ := pa_cons (pe_var (i := 1) rfl (.inl S.par) S.d1 S.d2) pa_nil
    refine PySem.W.callWith_M (h₀ := base) (L := s.heap.objs.size) (news := [(h1.objs.size, PySem.W.methodObj (.ref f2) (.ref a))]) e0.mod.kin (fun p hp => ?_) List.mem_cons_self hfn ?_ rfl rfl
    · rw [List.mem_singleton.mp hp]
      exact ⟨hq2, Nat.ne_of_gt I1.lt, by
        cases z : base.get? h1.objs.size with
        | none => rfl
        | some o => exact absurd (Heap.lt_size (k1 _ _ (kb _ _ z))) (Nat.lt_irrefl _)⟩
    refine thn (va.run p4 _ _ _ H (fun vs H3 => vs = [y] ∧ H3 = H) I2p ⟨y, rfl, rfl, rfl⟩) fun us s3 ⟨vs3, H3, I3, r3, ev, eH⟩ => ?_
    rw [ev] at r3
    rw [eH] at I3
    obtain ⟨p1', p2', _⟩ := I3.pin (h1.objs.size, PySem.W.methodObj (.ref f2) (.ref a)) (by simp [cxS])
    refine ⟨⟨p1', I3.kIn⟩, ?_⟩
    refine wpAny_call (PySem.W.method_call p1' ?_)
    obtain ⟨u3, rfl, r4⟩ := vals1 r3
    have b2 := hb2 s3 [.ref a, u3] I3.kIn rfl
    refine codeAny_mono (F2.run _ _ s3 H ⟨[.ref a, u3], []⟩ [.ref a, u3] [.ref a, y] (fun z H' => z = .non ∧ ∃ dx, H dx = none ∧ dx ≠ a ∧ H' = upd (upd H dx (exd dx [("value", y)])) a (exo a C (some dx))) (fun _ _ _ => False) ((hr.deeper _).mono (by omega)) I3.env0 b2 (.cons rfl (.cons r4 .nil)) ⟨a, C, y, rfl, T, n1, ha, fun dx hd1 hd2 => ⟨rfl, dx, hd1, hd2, rfl⟩⟩) fun r s4 hq => ?_
    cases r with
    | error er => exact (passL (X := cxS P w K mg base ["self", v] qual scope f (.ref cda) cc A outer s H) _ _ _ _ er s4 I3 hq).elim
    | ok fl =>
      cases fl with
      | ret u4 =>
        obtain ⟨v4, H4, I4, r4, e4, dx, hd1, hd2, eH4⟩ := I3.after hq
        rw [eH4] at I4
        show _root_.PySem.wpAt _ _ _ (execs [_] _) _ _ _
        have ps : PSs (cxS P w K mg base ["self", v] qual scope f (.ref cda) cc A outer s H) [.Assign [.Attribute (.Name "self" q1) fld q2] (.Name v q3) q4] _ := pss_one (ps_ost (pe_var (i := 0) rfl (.inl S.slf)) (pe_var (i := 1) rfl (.inl S.par) S.d1 S.d2))
        refine wpAt_of_wpAny (wpAny_mono (ps.run _ s4 _ _ { nx := fun _ H' => Q .non H', rt := fun _ _ => False } I4 ?_) (fun fl s5 z => ?_) fun e s5 z => z)
        · exact ⟨y, rfl, .ref a, rfl, a, C, rfl, T, n2, .inr ⟨dx, [("value", y)], upd_same, by rw [upd_ne hd2]; exact upd_same, by show 1 ≤ 900; decide, q dx hd1 hd2⟩⟩
        · cases fl with
          | next =>
            obtain ⟨σ5, H5, I5, q5⟩ := z
            exact fin I5 q5
          | ret u5 =>
            obtain ⟨_, _, _, _, _, z⟩ := z
            exact z.elim
          | brk =>
            obtain ⟨_, _, _, z⟩ := z
            exact z.elim
          | cont =>
            obtain ⟨_, _, _, z⟩ := z
            exact z.elim
      | next => exact hq.elim
      | brk => exact hq.elim
      | cont => exact hq.elim
  exact PySem.ks_wpAt_mono goal (fun fl s' z => z) fun e s' z => z.elim
end DL
namespace DL
open PySem PySem.Spec PyProof.Rows L2
/-- an __init__ that lays its argument under some names -/
def spG (K : PySem.W.Frag) (C : Addr) (ns : List Str) : Sp := fun vs H Q _ => ∃ (a : Addr) (y : V), vs = [.ref a, y] ∧ H a = some (exo a C none) ∧ ∀ (dx : Addr) (H' : Hp), H dx = none → dx ≠ a → H' a = some (exo a C (some dx)) → H' dx = some (exd dx (ns.map fun n => (n, y))) → (∀ b, b ≠ a → b ≠ dx → H' b = H b) → Q .non H'
theorem spG_we {K : PySem.W.Frag} {C : Addr} {fld : Str} (T : OexC K C) (n1 : PySem.W.findIn K (.ref C) fld = some none) {vs : List V} {H : Hp} {Q : VK} {E : XK} (h : spG K C [fld] vs H Q E) : spWE K fld vs H Q E := by
  obtain ⟨a, y, e, ha, q⟩ := h
  exact ⟨a, C, y, e, T, n1, ha, fun dx h1 h2 => q dx _ h1 h2 upd_same (by rw [upd_ne h2]; exact upd_same) fun b h3 h4 => by rw [upd_ne h3, upd_ne h4]⟩
theorem spG_su {K : PySem.W.Frag} {C : Addr} {fld : Str} {vs : List V} {H : Hp} {Q : VK} {E : XK} (h : spG K C [fld, "value"] vs H Q E) : spSU K C fld vs H Q E := by
  obtain ⟨a, y, e, ha, q⟩ := h
  exact ⟨a, y, e, ha, fun dx h1 h2 => q dx _ h1 h2 (by rw [upd_ne (Ne.symm h2)]; exact upd_same) upd_same fun b h3 h4 => by rw [upd_ne h4, upd_ne h3, upd_ne h4]⟩
/-- the class x, at Cl, makes errors of one argument, which stands under the names ns -/
structure Err1 (P : Program) (w : World) (K : PySem.W.Frag) (mg : Str → Option Value) (base : Heap) (x : Str) (Cl : Addr) (k : Nat) (ns : List Str) : Prop where
  T : OexC K Cl
  nm : mg x = some (.ref Cl)
  ex : ∃ (fI : Addr) (fd : FuncData) (v : Str), PySem.W.findIn K (.ref Cl) "__init__" = some (some (.ref fI)) ∧ PySem.W.typeIn K (.ref fI) = some (.type "function") ∧ Binds K fd ["self", v] [] ∧ FnOk P w K mg base (L2.CX P w) k fI fd ["self", v] (spG K Cl ns)
section
variable {C : DL.Ctx} {Γ : Gm} {L : Lp} {e : Expr} {x : Str} {p pos : Pos} {k : Nat} {Cl : Addr} {ns : List Str} {E : AEnds}
/-- e makes an error: its class, its fields -/
def AM (C : DL.Ctx) (e : Expr) (Γ : Gm) (L : Lp) (Q : Value → List (Str × D) → Lp → Prop) : Prop := ∀ F σ H, Ok C Γ L F σ H → ∀ QX : XK, (∀ {F'} cls d H' L' fs, C.Con L' F' H' → Fr L F H L' F' H' → XdAt C.X.K F' H' d fs → Q cls fs L' → QX cls (some d) H') → ∃ t, PMk C.X e t ∧ t σ H QX
theorem am_err {Q : Value → List (Str × D) → Lp → Prop} (E1 : Err1 C.X.prog C.X.w C.X.K C.X.mg C.X.base x Cl k ns) (hr : Room (k + 1) C.X.A) (h : AE C e Γ L fun d L1 => Q (.ref Cl) (ns.map fun n => (n, d)) L1) (hg : Gl C.X x := by rfl) (hdb : (x == ("__debug__" : Str)) = false := by decide)
    (he : starEach [e] C.X.env = [(false, eval e C.X.env)] := by rfl) : AM C (.Call (.Name x p) [e] [] pos) Γ L Q := fun F σ H ok QX go => by
  obtain ⟨fI, fd, v, iC, tI, hb, F1⟩ := E1.ex
  refine ⟨_, pmk_oex E1.T iC tI F1 hr hb (dvs := []) .nil passL hg E1.nm pa_we hdb he rfl, ?_⟩
  have hA : AA C [e] Γ L fun ds L1 => ∃ d, ds = [d] ∧ Q (.ref Cl) (ns.map fun n => (n, d)) L1 := aa_cons (h.mono fun d L1 q => aa_nil ⟨d, rfl, q⟩) he
  refine hA F σ H ok _ fun {F1} vs ds H1 L1 r c f ⟨d, ed, q⟩ => ?_
  subst ed
  obtain ⟨y, rfl, ry⟩ := r.oneE
  refine ⟨by show 1 ≤ 1000; decide, fun a ha => ⟨a, y, rfl, upd_same, fun dx H' h1 h2 h3 h4 h5 => ⟨rfl, dx, _, h3, h4, ?_, ?_⟩⟩⟩
  · rw [upd_ne h2] at h1
    exact h1
  · rw [upd_ne h2] at h1
    have e1 : upd (L2.del H' a) dx (.xd (ns.map fun n => (n, y))) = upd H1 dx (.xd (ns.map fun n => (n, y))) := by
      funext b
      by_cases hb : b = dx
      · rw [hb, upd_same, upd_same]
      · rw [upd_ne hb, upd_ne hb]
        by_cases hb2 : b = a
        · rw [hb2, L2.del_same, ha]
        · rw [L2.del_ne hb2, h5 b hb2 hb, upd_ne hb2]
    rw [e1]
    refine go (.ref Cl) dx _ L1 (ns.map fun n => (n, d)) (c.new h1) (f.trans (.new h1)) ⟨_, upd_same, ?_⟩ q
    have key : ∀ l : List Str, Paired (fun (p : Str × V) (q : Str × D) => p.1 = q.1 ∧ Rep C.X.K F1 (upd H1 dx (.xd (ns.map fun n => (n, y)))) p.2 q.2) (l.map fun n => (n, y)) (l.map fun n => (n, d)) := by
      intro l
      induction l with
      | nil => exact .nil
      | cons n l ih => exact .cons ⟨rfl, ry.mono (.new h1)⟩ ih
    exact key ns
theorem as_raise (h : AM C e Γ L (C.R Γ)) : AS C (.Raise (some e) none pos) Γ L E := fun F σ H ok DD go => by
  obtain ⟨t, hp, q⟩ := h F σ H ok (fun cls d H' => C.W cls d σ H') fun {F'} cls d H' L' fs c f xd r => ok.lr.of cls d σ H' Γ L' fs (ok.sl.mono f.mv) c f xd r
  exact ws_of (ps_raise C.calm C.tk hp) q
end
end DL
namespace DL
open PySem PySem.Spec PyProof.Rows L2
/-! ### try with several clauses `except X as n` -/
abbrev Sui := Addr → Value → Option Addr → TS
/-- the ends of a suite whose name, slot i, goes -/
abbrev offN (i : Nat) (D : Ends) : Ends := { nx := fun τ G => D.nx (τ.set i none) G, rt := D.rt, bk := fun τ G => D.bk (τ.set i none) G, ct := fun τ G => D.ct (τ.set i none) G }
def wCl (K : PySem.W.Frag) (W0 : WX) (D : Ends) : List (Value × Nat × Sui) → WX
  | [] => W0
  | q :: r => fun cls d τ G => ∃ yes : Bool, PySem.W.exmOne K cls q.1 = some yes ∧ (yes = true → ∀ a, G a = none → q.2.2 a cls d (offN q.2.1 D) (τ.set q.2.1 (some (.ref a))) G) ∧ (yes = false → wCl K W0 D r cls d τ G)
inductive Cls (X : Cx) : List ExceptHandler → List (Value × Nat × Sui) → Prop
  | nil : Cls X [] []
  | cons {x n : Str} {c : Value} {i : Nat} {S : Sui} {b : Stmt} {bs : List Stmt} {p1 p2 : Pos} {hs : List ExceptHandler} {l : List (Value × Nat × Sui)} (hc : Names X x c) (hi : X.N[i]? = some n) (hn : X.env.kindOf n = some .local)
      (su : ∀ a oe cls d pn, Zc cls d oe → (∃ fv, oe.data = .fields fv) → PSs (X.suite a ((a, oe) :: pn)) (b :: bs) (S a cls d)) (r : Cls X hs l) : Cls X (.ExceptHandler (some (.Name x p1)) (some n) (b :: bs) p2 :: hs) ((c, i, S) :: l)
section
variable {X : Cx} {body : List Stmt} {h0 : ExceptHandler} {hs : List ExceptHandler} {l : List (Value × Nat × Sui)} {pos : Pos} {tb : WX → TS} {W0 : WX}
theorem not_frame {B h : Heap} {l : List Env} {a : Addr} {o : Obj} {fv : Array Value} (ff : h.FunFrames B l) (e : h.get? a = some o) (dd : o.data = .fields fv) : a ∉ frs l := fun hm => by
  obtain ⟨_, o2, e2, no⟩ := ff.mem hm
  rw [e] at e2
  cases e2
  exact no _ dd
theorem ps_tryA (hs0 : X.stack = X.env :: X.outer) (hf : X.env.frame = some X.env.locals) (hN : X.N.Nodup) (tk : Takes X W0)
    (hb : ∀ (W : WX) (pn : List (Addr × Obj)) (xe : Value → Shared → Prop), Takes (X.tr pn xe) W → PassesOwn (model X.prog X.w) X.A X.env xe → PSs (X.tr pn xe) body (tb W)) (hh : Cls X (h0 :: hs) l) :
    PS X (.Try body (h0 :: hs) [] [] pos) (fun D τ G => tb (wCl X.K W0 D l) D τ G) := ⟨fun pins s τ G D I h => by
  have ok := I.ok
  refine wpAny_Try_except (wpAny_mono ((hb (wCl X.K W0 D l) (X.pn ++ pins) (fun e z => wpAny (model X.prog X.w) X.A (noteFrame e X.env) (fun _ z2 => wpAny (model X.prog X.w) X.A (setFlight e none) (fun _ z3 => wpAny (model X.prog X.w) X.A (handleBy e X.env (h0 :: hs)) (SP X pins D) X.xe z3) X.xe z2) X.xe z)
    (fun u z xx => ?_) PassesOwn.looking).run [] s τ G D (I.toTry _) h) (fun fl z q => ?_) fun e z q => q)
  · obtain ⟨a, B, sI, pins', τ2, G2, cls, d, rfl, J', nb, up, sky, na, os, ag, wi⟩ := xx
    have J : Inv X pins τ2 G2 sI := J'.ofTry ok
    refine Sky.land Zc.steady (by rw [ok.frames, hs0]) hf (show Sky B (X.env :: X.outer) a (Zc cls d) X.env.locals z.heap by rw [← hs0]; exact sky) fun h3 f3 u3 => ?_
    have J3 : Inv X pins τ2 G2 { z with heap := h3 } := J.landed nb f3.1 (up.trans u3) os ag
    obtain ⟨o3, fv3, g3, z3, k3⟩ := f3.there
    have out := not_frame f3.2.2.1 g3 k3
    have nL : a ≠ X.env.locals := fun e => out (List.mem_filterMap.mpr ⟨X.env, List.mem_cons_self, by rw [hf, e]⟩)
    have nF : a ∉ X.fs := fun hm => by
      obtain ⟨v, hv, q⟩ := List.mem_filterMap.mp hm
      exact out (List.mem_filterMap.mpr ⟨v, List.mem_cons_of_mem _ hv, q⟩)
    have S3 := J3.suite g3 k3 na nL nF
    have turn : ∀ {hs' : List ExceptHandler} {l' : List (Value × Nat × Sui)}, Cls X hs' l' → wCl X.K W0 D l' cls d τ2 G2 → wpAny (model X.prog X.w) X.A (handleBy (.ref a) X.env hs') (SP X pins D) X.xe { z with heap := h3 } := by
      intro hs' l' hk
      induction hk with
      | nil =>
        intro q
        refine wpAny_handleBy_nil ?_
        obtain ⟨_, _, _, o, fv, T, oT, fT, e1, _, e3, e4, _⟩ := id f3
        unfold PySem.passOn
        refine wpAny_bind (wpAny_field e1 e3 e4 ?_)
        rw [if_neg (by simp : ¬ ((Value.ref T == Value.none) = true))]
        have up4 : wpAny (model X.prog X.w) X.A (setFlight (.ref a) X.env.frame) (fun _ z4 => wpAny (model X.prog X.w) X.A (throw (.ref a) : Sem Flow) (SP X pins D) X.xe z4) X.xe { z with heap := h3 } := by
          rw [hf]
          exact HandSPX.setFlight_upZ f3 fun h4 k4 u4 => wpAny_throw (tk _ _ ⟨a, B, sI, pins, τ2, G2, cls, d, rfl, J, nb, (up.trans u3).trans u4, .inr (.inr (by rw [hs0]; exact k4)), na, os, ag, q⟩)
        first
          | exact wpAny_bind (wpAny_pure (wpAny_bind up4))
          | exact wpAny_bind up4
      | @cons x n c i S b bs p1 p2 hs2 l2 hc hi hn su r ih =>
        intro q
        obtain ⟨yes, hm, hy, hno⟩ := q
        refine wpAny_handleBy_cons (codeAny_handlers_test ?_) (by intro q; cases q)
        have look := PySem.W.exm_one (M := model X.prog X.w) J3.kIn (show PySem.W.Looks (model X.prog X.w) h3 (typeOf (.ref a)) cls from fun A Q E s k q => wpAny_typeOf_ref (k _ _ g3) (by rw [z3.1]; exact q)) hm
        have load : ∀ {Q : Value → Shared → Prop} {E : Value → Shared → Prop}, Q c { z with heap := h3 } → wpAny (model X.prog X.w) (X.A.mark (some (.ref a))) (eval (.Name x p1) X.env) Q E { z with heap := h3 } := fun {Q E} q => by
          obtain ⟨hg, hd, hm | ⟨hm, hv, hnn⟩⟩ := hc
          · exact ld_glob (X := X.suite a ((a, o3) :: (X.pn ++ pins))) S3 hg hm q hd
          · exact ld_blt (X := X.suite a ((a, o3) :: (X.pn ++ pins))) S3 hg hm hv q hnn hd
        refine load (look.here ?_)
        cases yes with
        | false =>
          show wpAny _ X.A (handleBy (.ref a) X.env hs2) _ _ _
          exact ih (hno rfl)
        | true =>
          refine codeAny_handlers_suite_as (HandSPX.lands_againZ f3 fun h4 f4 u4 => ?_)
          have J4 : Inv X pins τ2 G2 { z with heap := h4 } := J.landed nb f4.1 ((up.trans u3).trans u4) os ag
          obtain ⟨o4, fv4, g4, z4, k4⟩ := f4.there
          refine store_ok (X := X.suite a ((a, o4) :: (X.pn ++ pins))) (v := .ref a) (J4.suite g4 k4 na nL nF) hN hi (.inl hn) rfl (fun s5 S5 => ?_) (.inr hn)
          refine wpAny_mono ((su a o4 cls d (X.pn ++ pins) z4 ⟨_, k4⟩).run [] s5 _ G2 _ S5 (hy rfl a na)) (fun fl s6 q6 => ?_) (fun _ _ e => e.elim)
          have off : ∀ {τ6 : L2.St} {G6 : Hp} {Q : Shared → Prop}, Inv (X.suite a ((a, o4) :: (X.pn ++ pins))) [] τ6 G6 s6 → (∀ s7, Inv X pins (τ6.set i none) G6 s7 → Q s7) → wpAny (model X.prog X.w) X.A (do bindName X.env n .none; unbindBehindTheSuite X.env n p2) (fun _ s7 => Q s7) X.xe s6 := fun {τ6 G6 Q} S6 hq => gone_ok (S6.unsuite ok) hN hi hn hq
          cases fl with
          | ret u =>
            obtain ⟨v6, τ6, G6, S6, r6, q6⟩ := q6
            exact off S6 fun s7 J7 => ⟨_, _, _, J7, r6, q6⟩
          | next =>
            obtain ⟨τ6, G6, S6, q6⟩ := q6
            exact off S6 fun s7 J7 => ⟨_, _, J7, q6⟩
          | brk =>
            obtain ⟨τ6, G6, S6, q6⟩ := q6
            exact off S6 fun s7 J7 => ⟨_, _, J7, q6⟩
          | cont =>
            obtain ⟨τ6, G6, S6, q6⟩ := q6
            exact off S6 fun s7 J7 => ⟨_, _, J7, q6⟩
    exact turn hh wi
  · cases fl with
    | next =>
      obtain ⟨τ2, G2, J, q⟩ := q
      exact wpAny_execs_nil ⟨τ2, G2, J.ofTry ok, q⟩
    | brk =>
      obtain ⟨τ2, G2, J, q⟩ := q
      exact ⟨τ2, G2, J.ofTry ok, q⟩
    | cont =>
      obtain ⟨τ2, G2, J, q⟩ := q
      exact ⟨τ2, G2, J.ofTry ok, q⟩
    | ret u =>
      obtain ⟨v, τ2, G2, J, r, q⟩ := q
      exact ⟨v, τ2, G2, J.ofTry ok, r, q⟩⟩
end
end DL
namespace DL
open PySem PySem.Spec PyProof.Rows L2
theorem XdAt.mono {K : PySem.W.Frag} {L L' : Lp} {F F' : Fz} {H H' : Hp} {d : Addr} {fs : List (Str × D)} (x : XdAt K F H d fs) (f : Fr L F H L' F' H') (hd : L d = none) : XdAt K F' H' d fs := by
  obtain ⟨fv, h, p⟩ := x
  exact ⟨fv, f.keep d _ h (fun y z => nomatch z) hd, Paired.mono p fun _ _ z => ⟨z.1, z.2.mono f.mv⟩⟩
theorem XdAt.off {P : Program} {w : World} {K : PySem.W.Frag} {L : Lp} {F : Fz} {H : Hp} {d : Addr} {fs : List (Str × D)} (x : XdAt K F H d fs) (c : Con P w K L F H) : L d = none := by
  cases e : L d with
  | none => rfl
  | some mo =>
    obtain ⟨fv, h, p⟩ := x
    have z := c.at_ d mo e
    cases mo with
    | lst ds => obtain ⟨vs, q, _⟩ := z; rw [h] at q; cases q
    | dct ks => obtain ⟨vs, q, _⟩ := z; rw [h] at q; cases q
    | ins C gs =>
      obtain ⟨dx, vs, q, _⟩ := z
      rcases q with ⟨q, _⟩ | ⟨q, _⟩
      · rw [h] at q; cases q
      · rw [h] at q; unfold SlX.SlO at q; cases q
    | set S n => have q : H d = _ := z; rw [h] at q; cases q
    | txs S n => have q : H d = _ := z.1; rw [h] at q; cases q
    | kd kds => obtain ⟨kvs, q, _⟩ := z; rw [h] at q; cases q
theorem XdAt.get {K : PySem.W.Frag} {F : Fz} {H : Hp} {d : Addr} {fs : List (Str × D)} {f : Str} {x : D} (h : XdAt K F H d fs) (e : fs.lookup f = some x) : ∃ fv v, H d = some (.xd fv) ∧ fv.lookup f = some v ∧ Rep K F H v x := by
  obtain ⟨fv, h, p⟩ := h
  have key : ∀ {fv : List (Str × V)} {fs : List (Str × D)}, Paired (fun (p : Str × V) (q : Str × D) => p.1 = q.1 ∧ Rep K F H p.2 q.2) fv fs → fs.lookup f = some x → ∃ v, fv.lookup f = some v ∧ Rep K F H v x := by
    intro fv
    induction fv with
    | nil => intro fs p e; cases p; cases e
    | cons a fv ih =>
      intro fs p e
      cases p with
      | cons q t =>
        rename_i b fs
        obtain ⟨a1, a2⟩ := a
        obtain ⟨b1, b2⟩ := b
        obtain ⟨q1, q2⟩ := q
        dsimp only at q1 q2
        subst q1
        rw [List.lookup_cons] at e ⊢
        cases z : f == a1 with
        | true => rw [z] at e; cases e; exact ⟨a2, rfl, q2⟩
        | false => rw [z] at e; exact ih t e
  obtain ⟨v, h1, h2⟩ := key p e
  exact ⟨fv, v, h, h1, h2⟩
/-! ### expressions of a suite: the error's fields, texts, tuples -/
def AZ (X : Cx) (dd : Addr) (fs : List (Str × D)) (e : Expr) (Γ : Gm) (L : Lp) (d : D) : Prop := ∀ F σ H, Sl X.K F H σ Γ → Con X.prog X.w X.K L F H → XdAt X.K F H dd fs → ∀ QV : VK, (∀ {F'} v H', Rep X.K F' H' v d → Con X.prog X.w X.K L F' H' → Fr L F H L F' H' → QV v H') → WE X e σ H QV
def AZs (X : Cx) (dd : Addr) (fs : List (Str × D)) (es : List Expr) (Γ : Gm) (L : Lp) (ds : List D) : Prop := ∀ F σ H, Sl X.K F H σ Γ → Con X.prog X.w X.K L F H → XdAt X.K F H dd fs → ∀ QV : List V → Hp → Prop, (∀ {F'} vs H', Reps X.K F' H' vs ds → Con X.prog X.w X.K L F' H' → Fr L F H L F' H' → QV vs H') → WA X es σ H QV
section
variable {X : Cx} {dd : Addr} {fs : List (Str × D)} {Γ : Gm} {L : Lp} {e : Expr} {es : List Expr} {pos : Pos} {d : D} {ds : List D}
theorem az_str {x : Str} {j : Nat} (hz : SOk x := by exact ⟨by decide +kernel, by decide +kernel⟩) : AZ X dd fs (.Constant (.str x) j pos) Γ L (.str x) := fun F σ H sl c xd QV go => we_of pe_str (go _ H (.str x hz) c (.refl L H))
theorem az_name (i : Nat) {x : Str} (hg : Γ[i]? = some (some d)) (hN : X.N[i]? = some x := by rfl) (hv : Vis X.env.scope x := by first | exact Or.inl rfl | exact Or.inr (Or.inl rfl) | exact Or.inr (Or.inr rfl))
    (hd : (x == ("__debug__" : Str)) = false := by decide) (hcd : (x == ("__classdict__" : Str)) = false := by decide) : AZ X dd fs (.Name x pos) Γ L d := fun F σ H sl c xd QV go => by
  obtain ⟨v, e, r⟩ := sl.get i d hg
  exact we_of (pe_var hN hv hd hcd) ⟨v, e, go v H r c (.refl L H)⟩
theorem azs_nil : AZs X dd fs [] Γ L [] := fun F σ H sl c xd QV go => wa_of pa_nil (go [] H .nil c (.refl L H))
theorem azs_cons (h1 : AZ X dd fs e Γ L d) (h2 : AZs X dd fs es Γ L ds) (hs : starEach (e :: es) X.env = (false, eval e X.env) :: starEach es X.env := by rfl) : AZs X dd fs (e :: es) Γ L (d :: ds) := fun F σ H sl c xd QV go =>
  wa_of (pa_cons pe_we pa_we hs) (h1 F σ H sl c xd _ fun v H1 r1 c1 f1 => h2 _ σ H1 (sl.mono f1.mv) c1 (xd.mono f1 (xd.off c)) _ fun vs H2 r2 c2 f2 => go (v :: vs) H2 (.cons (r1.mono f2.mv) r2) c2 (f1.trans f2))
theorem az_tup {k : Nat} (h : AZs X dd fs es Γ L ds) (hz : ds.length ≤ sizeLine := by exact Nat.le_of_ble_eq_true rfl) : AZ X dd fs (.Tuple es k pos) Γ L (.tup ds) := fun F σ H sl c xd QV go =>
  we_of (pe_tup pa_we) (h F σ H sl c xd _ fun vs H1 r1 c1 f1 => ⟨by rw [r1.length]; exact hz, fun p hp => go _ _ (Rep.tupI upd_same (r1.mono (.new hp)) hz) (c1.new hp) (f1.trans (.new hp))⟩)
theorem az_fld (i : Nat) {X0 : Cx} {a Cl : Addr} {oe : Obj} {cls : Value} {pn : List (Addr × Obj)} {f n : Str} {p : Pos} (T : XfC X0.K Cl) (hno : PySem.W.findIn X0.K (.ref Cl) f = some none) (hz : Zc cls (some dd) oe) (hf : ∃ fv, oe.data = .fields fv) (hcl : cls = .ref Cl) (hg : Γ[i]? = some (some (.ptr a))) (hl : fs.lookup f = some d)
    (hN : X0.N[i]? = some n := by rfl) (hv : Vis X0.env.scope n := by first | exact Or.inl rfl | exact Or.inr (Or.inl rfl) | exact Or.inr (Or.inr rfl)) (hd : (n == ("__debug__" : Str)) = false := by decide) (hcd : (n == ("__classdict__" : Str)) = false := by decide)
    (hb : attributeBase (.Name n p) f X0.env (eval (.Name n p) X0.env) = eval (.Name n p) X0.env := by rfl) : AZ (X0.suite a ((a, oe) :: pn)) dd fs (.Attribute (.Name n p) f pos) Γ L d := fun F σ H sl c xd QV go => by
  obtain ⟨v, e, r⟩ := sl.get i _ hg
  obtain ⟨fv, y, h1, h2, h3⟩ := xd.get hl
  exact we_of (pe_xf T hno hz hf (pe_var hN hv hd hcd) hb) ⟨v, e, r.ptrE, hcl, dd, fv, y, rfl, h1, h2, go y H h3 c (.refl L H)⟩
end
/-! ### try -/
/-- the context of a try's body -/
def tctx (C : DL.Ctx) (pn : List (Addr × Obj)) (xe : Value → Shared → Prop) (W : WX) (R : Gm → Value → List (Str × D) → Lp → Prop) (tk : Takes (C.X.tr pn xe) W) (po : PassesOwn (model C.X.prog C.X.w) C.X.A C.X.env xe) : DL.Ctx where
  X := C.X.tr pn xe
  W := W
  R := R
  tk := tk
  po := po
  calm := C.calm
  nd := C.nd
abbrev Cz := Value × Nat × Nat × Expr
/-- what the clauses make of an error -/
def RCl (C : DL.Ctx) (E : AEnds) : List Cz → Gm → Value → List (Str × D) → Lp → Prop
  | [] => C.R
  | q :: r => fun Γ cls fs L => ∃ yes : Bool, PySem.W.exmOne C.X.K cls q.1 = some yes ∧ (yes = true → ∃ d, (∀ a oe dd pn, Zc cls (some dd) oe → (∃ fv, oe.data = .fields fv) → AZ (C.X.suite a ((a, oe) :: pn)) dd fs q.2.2.2 (Γ.set q.2.1 (some (.ptr a))) L d) ∧ E.nx ((Γ.set q.2.2.1 (some d)).set q.2.1 none) L) ∧ (yes = false → RCl C E r Γ cls fs L)
inductive ClsD (C : DL.Ctx) : List ExceptHandler → List Cz → Prop
  | nil : ClsD C [] []
  | cons {x n y : Str} {c : Value} {i j : Nat} {e : Expr} {p1 p2 p3 p4 : Pos} {hs : List ExceptHandler} {l : List Cz} (hc : Names C.X x c) (hi : C.X.N[i]? = some n) (hn : C.X.env.kindOf n = some .local) (hj : C.X.N[j]? = some y) (hy : C.X.env.scope.names.lookup y = some .local) (hij : i ≠ j)
      (sw : swapsWith e (some (.Name y p3)) p4.line C.X.env = pure false) (r : ClsD C hs l) : ClsD C (.ExceptHandler (some (.Name x p1)) (some n) [.Assign [.Name y p3] e p4] p2 :: hs) ((c, i, j, e) :: l)
theorem Sl.setN {K : PySem.W.Frag} {F : Fz} {H : Hp} {σ : L2.St} {Γ : Gm} (x : Sl K F H σ Γ) (i : Nat) : Sl K F H (σ.set i none) (Γ.set i none) := by
  refine ⟨by rw [List.length_set, List.length_set]; exact x.len, fun k d e => ?_⟩
  by_cases h : i = k
  · subst h
    by_cases hl : i < Γ.length
    · rw [List.getElem?_set_self hl] at e; cases e
    · rw [List.getElem?_eq_none (by rw [List.length_set]; omega)] at e; cases e
  · rw [List.getElem?_set_ne h] at e ⊢
    exact x.get k d e
theorem set_off {α : Type} (l : List α) {i j : Nat} (h : i ≠ j) (x y z : α) : ((l.set i x).set j y).set i z = (l.set j y).set i z := by
  rw [List.set_comm _ _ h, List.set_set]
theorem clsd_ok {C : DL.Ctx} {hs : List ExceptHandler} {l : List Cz} (hk : ClsD C hs l) : ∃ l', Cls C.X hs l' ∧ ∀ {E DD L0 F0 H0}, GoS C L0 F0 H0 E DD → LinkR C L0 F0 H0 → ∀ {F'} cls d σ' H' Γ' L' fs, Sl C.X.K F' H' σ' Γ' → C.Con L' F' H' → Fr L0 F0 H0 L' F' H' → XdAt C.X.K F' H' d fs → RCl C E l Γ' cls fs L' → wCl C.X.K C.W DD l' cls (some d) σ' H' := by
  induction hk with
  | nil => exact ⟨[], .nil, fun {E DD L0 F0 H0} go lr {F'} cls d σ' H' Γ' L' fs sl c f xd r => lr.of cls d σ' H' Γ' L' fs sl c f xd r⟩
  | @cons x n y c i j e p1 p2 p3 p4 hs l hc hi hn hj hy hij sw r ih =>
    obtain ⟨l2, k2, q2⟩ := ih
    refine ⟨(c, i, fun a cls d D σ H => ∀ oe pn, Zc cls d oe → (∃ fv, oe.data = .fields fv) → WSs (C.X.suite a ((a, oe) :: pn)) [.Assign [.Name y p3] e p4] D σ H) :: l2, .cons hc hi hn (fun a oe cls d pn hz hf => ⟨fun pins s σ H D I h => (h oe pn hz hf).run pins s I⟩) k2, ?_⟩
    intro E DD L0 F0 H0 go lr F' cls d σ' H' Γ' L' fs sl con f xd rc
    obtain ⟨yes, hm, h1, h2⟩ := rc
    refine ⟨yes, hm, fun ey a ha oe pn hz hf => ?_, fun ey => q2 go lr cls d σ' H' Γ' L' fs sl con f xd (h2 ey)⟩
    obtain ⟨dv, az, hnx⟩ := h1 ey
    refine wss_of (pss_one (ps_set (X := C.X.suite a ((a, oe) :: pn)) C.nd hj (.inl hy) pe_we sw (.inr hy))) ?_
    refine az a oe d pn hz hf F' _ H' (sl.set i (.ptr a)) con xd _ fun {F2} v H2 rv c2 f2 => ?_
    have s2 := (((sl.set i (.ptr a)).mono f2.mv).set j rv).setN i
    rw [set_off Γ' hij] at s2
    exact go.nx _ H2 _ L' ⟨s2, c2, lr.step (f.trans f2)⟩ (f.trans f2) hnx
/-- try: body, except X as n: y = e, .. -/
theorem as_tryA {C : DL.Ctx} {Γ : Gm} {L : Lp} {E : AEnds} {body : List Stmt} {h0 : ExceptHandler} {hs : List ExceptHandler} {l : List Cz} {pos : Pos} (hk : ClsD C (h0 :: hs) l)
    (h : ∀ pn xe W tk po, ASs (tctx C pn xe W (RCl C E l) tk po) body Γ L E) (hst : C.X.stack = C.X.env :: C.X.outer := by rfl) (hf : C.X.env.frame = some C.X.env.locals := by rfl) : AS C (.Try body (h0 :: hs) [] [] pos) Γ L E := fun F σ H ok DD go => by
  obtain ⟨l2, k2, q2⟩ := clsd_ok hk
  refine ws_of (ps_tryA (tb := fun W D τ G => ∀ pn xe, Takes (C.X.tr pn xe) W → PassesOwn (model C.X.prog C.X.w) C.X.A C.X.env xe → WSs (C.X.tr pn xe) body D τ G) hst hf C.nd C.tk (fun W pn xe tk po => ⟨fun pins s τ G D I q => (q pn xe tk po).run pins s I⟩) k2) fun pn xe tk po => ?_
  refine h pn xe _ tk po F σ H ⟨ok.sl, ok.con, ⟨fun cls d σ' H' Γ' L' fs sl c f xd r => q2 go ok.lr cls d σ' H' Γ' L' fs sl c f xd r⟩⟩ DD ⟨fun s H2 Γ2 L2 o f q => go.nx s H2 Γ2 L2 ⟨o.sl, o.con, ok.lr.step f⟩ f q, go.rt, fun s H2 Γ2 L2 o f q => go.bk s H2 Γ2 L2 ⟨o.sl, o.con, ok.lr.step f⟩ f q, fun s H2 Γ2 L2 o f q => go.ct s H2 Γ2 L2 ⟨o.sl, o.con, ok.lr.step f⟩ f q⟩
end DL
namespace DL
open PySem PySem.Spec PyProof.Rows L2
/-! ### d.items(), the keys tuples, the dict locked -/
def Itit (t : Addr) (od : Obj) (kvs : List (List Key × V)) : It :=
  ⟨fun n G => G t = some (.frz od (.dT kvs)) ∧ n < kvs.length, fun n G x G' => ∃ T k v c, kvs[n]? = some (k, v) ∧ x = .ref T ∧ G T = none ∧ G c = some (.tup (k.map kV)) ∧ G' = upd G T (.tup [.ref c, v]), fun n G => G t = some (.frz od (.dT kvs)) ∧ kvs.length ≤ n⟩
/-- a locked dict, as its entries stand -/
theorem raw_at {X : Cx} {pins : List (Addr × Obj)} {σ : L2.St} {G : Hp} {s : Shared} {t : Addr} {od : Obj} {kvs : List (List Key × V)} (I : Inv X pins σ G s) (h : G t = some (.frz od (.dT kvs))) :
    ∃ es ep, od.data = .dict es ep ∧ s.heap.DictRaw t es ep ∧ (t == sysModules) = false ∧ s.TypeIs (.ref t) "dict" ∧ es.size = kvs.length ∧ ∀ n k v, kvs[n]? = some (k, v) → ∃ (hn : n < es.size) (c : Addr), es[n].key = .ref c ∧ G c = some (.tup (k.map kV)) ∧ RelV v es[n].val := by
  obtain ⟨hd, z, hs, xs, pr, o', es, ep, ho, hx, hdt, he, _⟩ := I.hok t _ h
  rw [hd] at ho
  cases ho
  have l1 : es.size = xs.length := size_of_entries he
  have l2 : kvs.length = xs.length := Paired.length pr
  refine ⟨es, ep, hdt, ⟨od, hd, hx, hdt⟩, hs, ⟨od, hd, hx.1⟩, by omega, fun n k v e => ?_⟩
  obtain ⟨b, hb, e1, e2, e3⟩ := paired_get pr e
  have hn : n < es.size := by rw [l1]; exact (List.getElem?_eq_some_iff.mp hb).1
  have q := entry_at he n
  rw [hb, Array.getElem?_eq_getElem hn] at q
  have q := Option.some.inj q
  exact ⟨hn, b.2.1, by rw [q]; rfl, e2, by rw [q]; exact e3⟩
theorem turn_itT {P : Program} {w : World} {K : PySem.W.Frag} {t : Addr} {od : Obj} {es : Array DictEntry} {ep : Nat} {kvs : List (List Key × V)} {elts : List Expr} {kk : Nat} {tpos : Pos} (it : Addr) (hod : od.data = .dict es ep) :
    Turn P w K (.Tuple elts kk tpos) (Itit t od kvs) [it] it (fun n h => ∃ ok ov, IsItemIter h it t n kvs.length ep ok ov) where
  mem := List.mem_cons_self
  obj := fun n h ⟨ok, ov, e⟩ b hb => by
    rw [List.mem_singleton.mp hb]
    exact ⟨_, e, fun v z => nomatch z⟩
  keep := fun n h h' ⟨ok, ov, e⟩ k => ⟨ok, ov, k it List.mem_cons_self _ e⟩
  item := by
    intro X hP hw hK hc n pins s σ G E I hf ⟨ok, ov, hit⟩ ⟨hd, hn⟩
    subst hP hw hK
    obtain ⟨es', ep', hdt, raw, _, _, hsz, ent⟩ := raw_at I hd
    rw [hod] at hdt
    cases hdt
    obtain ⟨⟨k, v⟩, hkv⟩ : ∃ p, kvs[n]? = some p := ⟨kvs[n], List.getElem?_eq_getElem hn⟩
    obtain ⟨hn2, c, e1, e2, e3⟩ := ent n k v hkv
    rw [← hsz] at hit
    have hlt : it < s.heap.objs.size := Heap.lt_size hit
    refine PySem.wpAny_pyNext_items_item_raw hit raw hn2 fun h' ho hT hz hk => ?_
    refine ⟨_, rfl, wpAny_letOwnedTupleGo_items (s := { s with heap := h' }) ho fun h2 he' sb => ?_⟩
    have hT2 : h2.get? s.heap.objs.size = some { cls := .type "tuple", data := .seq #[es[n].key, es[n].val] } := (sb.2 _ (Nat.ne_of_gt hlt)).trans hT
    have new : ObjOk X.prog X.w (upd G s.heap.objs.size (.tup [.ref c, v])) h2 s.heap.objs.size (.tup [.ref c, v]) := ⟨by show 2 ≤ sizeLine; decide, [es[n].key, es[n].val], .cons e1 (.cons e3 .nil), ⟨_, hT2, rfl, _, rfl⟩⟩
    have J := I.turnedNew (t' := s.toks) (ch := [it]) (fun b ob hb e => (sb.2 b (by simpa using hb)).trans (hk b ob (by simpa using hb) e)) hf (Nat.le_refl _) new
    refine ⟨.ref s.heap.objs.size, _, J, rfl, ⟨_, k, v, c, hkv, rfl, I.hok.fresh (Nat.le_refl _), e2, rfl⟩, ⟨es[n].key, es[n].val, by rw [← hsz]; exact he'⟩, fun b hb => ?_⟩
    rw [List.mem_singleton.mp hb, upd_ne (Nat.ne_of_lt hlt)]
    exact (hf it List.mem_cons_self).1
  done := by
    intro X hP hw hK hc n pins s σ G E I hf ⟨ok, ov, hit⟩ ⟨hd, hn⟩
    subst hP hw hK
    obtain ⟨f0, f1, f2, f3, f4, f5⟩ := hf it List.mem_cons_self
    obtain ⟨es', ep', hdt, raw, _, _, hsz, ent⟩ := raw_at I hd
    rw [hod] at hdt
    cases hdt
    rw [← hsz] at hit
    exact PySem.wpAny_pyNext_items_end_raw (I.ok.hd hc) hit raw (by omega) fun h' eb => ⟨rfl, I.turned (t' := s.toks) (fun b ob hb e => eb b ob hb e) f0 f1 f3 f4 f5⟩
  self := fun A n s Q E ⟨_, _, e⟩ h => PySem.W.kcp_self e h
end DL
namespace DL
open PySem PySem.Spec PyProof.Rows L2
/-! ### {elt for tg in iter for tg1 in iter1}, texts -/
abbrev sX (elt t0 i0 t1 i1 : Expr) (scope : Scope) (pos : Pos) : Expr := .SetComp elt [⟨t0, i0, [], 0⟩, ⟨t1, i1, [], 0⟩] scope pos
theorem sx_out (elt t0 i0 t1 i1 : Expr) (scope : Scope) (pos : Pos) (it acc : Value) (env : Env) :
    compTurn (sX elt t0 i0 t1 i1 scope pos) 0 it acc env = (do
      standAt i0.pos
      match ← pyNext it with
      | none => pure (.done .next)
      | some v =>
        letOwnedTupleGo t0 it v
        assign t0 env v
        let src ← eval i1 env
        standAt i1.pos
        let src ← foldedSetIterable i1 env src
        let _ ← runOwn (.compStart (sX elt t0 i0 t1 i1 scope pos) 1 (← holding [src] (pyIter src)) acc env) env
        again (.compLoop (sX elt t0 i0 t1 i1 scope pos) 0 it acc env)) := by rfl
theorem sx_in (elt t0 i0 t1 i1 : Expr) (scope : Scope) (pos : Pos) (it acc : Value) (env : Env) :
    compTurn (sX elt t0 i0 t1 i1 scope pos) 1 it acc env = (do
      standAt i1.pos
      match ← pyNext it with
      | none => pure (.done .next)
      | some v =>
        letOwnedTupleGo t1 it v
        assign t1 env v
        (do let y ← eval elt env; standAt elt.pos; let _ ← call (.builtin "set.add") [acc, y])
        again (.compLoop (sX elt t0 i0 t1 i1 scope pos) 1 it acc env)) := by rfl
section
variable {prog : Program} {w : World} {A : Around} {R : Result → Shared → Prop} {s : Shared} {elt t0 i0 t1 i1 : Expr} {scope : Scope} {pos : Pos} {it acc : Value} {env : Env}
abbrev Nt (prog : Program) (w : World) (A : Around) (env : Env) (R : Result → Shared → Prop) : Value → Shared → Prop := notedBy (model prog w) A env fun e s' => R (.error e) s'
theorem sx_loop0 (hs : ∀ x, foldedSetIterable i1 env x = pure x) (J : Nat → Shared → Prop)
    (go : ∀ n s, J n s → wpAny (model prog w) A (pyNext it) (fun r a1 => match r with
      | none => R (.ok .next) a1
      | some v => wpAny (model prog w) A (letOwnedTupleGo t0 it v) (fun _ a2 => wpAny (model prog w) A (assign t0 env v) (fun _ a3 =>
          wpAny (model prog w) A (eval i1 env) (fun x a4 => wpAny (model prog w) A (pyIter x) (fun it1 a5 =>
              codeAny (model prog w) A (.compStart (sX elt t0 i0 t1 i1 scope pos) 1 it1 acc env) (fun r s' => match r with
                | .ok _ => ∃ m, m < n ∧ J m s'
                | .error _ => False) a5) (Nt prog w A env R) a4) (Nt prog w A env R) a3) (Nt prog w A env R) a2) (Nt prog w A env R) a1) (Nt prog w A env R) s)
    (n : Nat) (h : J n s) : codeAny (model prog w) A (.compLoop (sX elt t0 i0 t1 i1 scope pos) 0 it acc env) R s := by
  refine codeAny_loop rfl J (fun n s hJ => ?_) n h
  show wpAny _ A ((compTurn (sX elt t0 i0 t1 i1 scope pos) 0 it acc env).onRaise (fun x => do noteFrame x env; theTreesLotGoes x)) _ _ s
  refine wpAny_noted ?_
  rw [sx_out]
  refine wpAny_bind (wpAny_standAt (wpAny_bind (wpAny_mono (go n s hJ) (fun r a1 g1 => ?_) fun _ _ z => z)))
  cases r with
  | none => exact wpAny_pure g1
  | some v =>
    refine wpAny_bind (wpAny_mono g1 (fun _ a2 g2 => wpAny_bind (wpAny_mono g2 (fun _ a3 g3 => wpAny_bind (wpAny_mono g3 (fun x a4 g4 => ?_) fun _ _ z => z)) fun _ _ z => z)) fun _ _ z => z)
    refine wpAny_bind (wpAny_standAt (wpAny_bind (wpAny_of_eq (hs x) (wpAny_bind (wpAny_holding (wpAny_mono g4 (fun it1 a5 g5 => ?_) fun _ _ z => z))))))
    refine wpAny_bind (wpAny_runOwn ?_)
    rw [Around.mark_none]
    refine codeAny_mono g5 fun r s' hr => ?_
    cases r with
    | ok f => exact wpAny_pure ⟨rfl, hr⟩
    | error e => exact hr.elim
theorem sx_loop1 (J : Nat → Shared → Prop)
    (go : ∀ n s, J n s → wpAny (model prog w) A (pyNext it) (fun r a1 => match r with
      | none => R (.ok .next) a1
      | some v => wpAny (model prog w) A (letOwnedTupleGo t1 it v) (fun _ a2 => wpAny (model prog w) A (assign t1 env v) (fun _ a3 =>
          wpAny (model prog w) A (eval elt env) (fun x a4 => wpAny (model prog w) A (call (.builtin "set.add") [acc, x]) (fun _ a5 => ∃ m, m < n ∧ J m a5) (Nt prog w A env R) a4) (Nt prog w A env R) a3) (Nt prog w A env R) a2) (Nt prog w A env R) a1) (Nt prog w A env R) s)
    (n : Nat) (h : J n s) : codeAny (model prog w) A (.compLoop (sX elt t0 i0 t1 i1 scope pos) 1 it acc env) R s := by
  refine codeAny_loop rfl J (fun n s hJ => ?_) n h
  show wpAny _ A ((compTurn (sX elt t0 i0 t1 i1 scope pos) 1 it acc env).onRaise (fun x => do noteFrame x env; theTreesLotGoes x)) _ _ s
  refine wpAny_noted ?_
  rw [sx_in]
  refine wpAny_bind (wpAny_standAt (wpAny_bind (wpAny_mono (go n s hJ) (fun r a1 g1 => ?_) fun _ _ z => z)))
  cases r with
  | none => exact wpAny_pure g1
  | some v =>
    refine wpAny_bind (wpAny_mono g1 (fun _ a2 g2 => wpAny_bind (wpAny_mono g2 (fun _ a3 g3 => ?_) fun _ _ z => z)) fun _ _ z => z)
    exact wpAny_bind (wpAny_bind (wpAny_mono g3 (fun x a4 g4 => wpAny_bind (wpAny_standAt (wpAny_bind (wpAny_mono g4 (fun _ a5 g5 => wpAny_pure (wpAny_pure ⟨rfl, g5⟩)) fun _ _ z => z)))) fun _ _ z => z))
theorem sx_start1 (h0 : codeAny (model prog w) A (.compLoop (sX elt t0 i0 t1 i1 scope pos) 1 it acc env) R s)
    (h : wpAny (model prog w) A (pyIter it) (fun it' s' => codeAny (model prog w) A (.compLoop (sX elt t0 i0 t1 i1 scope pos) 1 it' acc env) R s') (Nt prog w A env R) s) :
    codeAny (model prog w) A (.compStart (sX elt t0 i0 t1 i1 scope pos) 1 it acc env) R s := by
  refine codeAny_of_tree ?_
  show wpAny _ _ ((compStart (sX elt t0 i0 t1 i1 scope pos) 1 it acc env).onRaise (fun x => do noteFrame x env; standAt theWindowsPlace)) _ _ s
  refine wpAny_notedAt ?_
  unfold compStart
  show wpAny _ _ (ask >>= _) _ _ s
  refine wpAny_bind (wpAny_askSetting (wpAny_ite ?_))
  split
  · first
      | exact wpAny_bind (wpAny_pure (wpAny_pure (And.intro rfl h0)))
      | exact wpAny_pure (And.intro rfl h0)
  · first
      | exact wpAny_bind (wpAny_rule (wpAny_bind (wpAny_standAt (wpAny_bind (wpAny_mono h (fun jt a1 g1 => wpAny_pure (And.intro rfl g1)) fun _ _ z => z)))))
      | (refine wpAny_bind (wpAny_rule ?_); show wpAny _ _ (standAt i1.pos >>= _) _ _ s; exact wpAny_bind (wpAny_standAt (wpAny_bind (wpAny_mono h (fun jt a1 g1 => wpAny_pure (And.intro rfl g1)) fun _ _ z => z))))
end
section
variable {P : Program} {w : World} {A : Around} {E : Value → Shared → Prop} {s : Shared} {a : Addr} {S : Str → Bool} {n : Nat}
/-- set.add of a text -/
theorem setX_add {k : Str} {tk : Tok} {Q : Value → Shared → Prop} (R : SetX w s.heap a S n) (room : n + 1 < scanBound)
    (hQ : ∀ h', Heap.SameBut a s.heap h' → SetX w h' a (fun j => S j || decide (j = k)) (if S k = true then n else n + 1) → Q .none { s with heap := h', toks := s.toks + 1 }) :
    wpAny (model P w) A (call (.builtin "set.add") [.ref a, .str k tk]) Q E s := by
  have so : s.heap.SetOf (strKind P w) a S n := SetX.setOf R
  refine wpAny_call_entry F.slot_set_add so.typeIs F.entry_set_add ?_ (F.args_set_add_2 _ _)
  unfold Builtin.«set.add» Builtin.Frozenset.oneOther
  simp only [List.isEmpty_nil, bind_assoc]
  unfold Builtin.Frozenset.addrOf setAdd
  refine wpAny_bind (wpAny_pure ?_)
  refine wpAny_bind (wpAny_pure ?_)
  refine wpAny_bind (wpAny_holding (wpAny_bind ((strKind P w).pyHash (k := k) (Froz.is_str k tk) ?_)))
  refine setX_addH (s := { s with toks := s.toks + 1 }) R room fun h' sb r => ?_
  show wpAny _ _ (ret Value.none) _ _ _
  exact wpAny_pure ⟨_, rfl, hQ h' sb r⟩
end
abbrev SetXO (w : World) (a : Addr) (S : Str → Bool) (n : Nat) : HO := .ext fun h => SetX w h a S n
theorem addX_ok {X : Cx} {pins : List (Addr × Obj)} {σ : L2.St} {H : Hp} {s : Shared} {E : Value → Shared → Prop} {t : Addr} {S : Str → Bool} {n : Nat} {y : Str} {tk : Tok} {Q : Value → Shared → Prop} (I : Inv X pins σ H s) (ht : H t = some (SetXO X.w t S n)) (room : n + 1 < scanBound)
    (h : ∀ s', Inv X pins σ (upd H t (SetXO X.w t (fun j => S j || decide (j = y)) (if S y = true then n else n + 1))) s' → Q .none s') : wpAny (model X.prog X.w) X.A (call (.builtin "set.add") [.ref t, .str y tk]) Q E s := by
  have R : SetX X.w s.heap t S n := (I.hok t _ ht).1
  refine setX_add R room fun h' sb new => ?_
  have he : ∃ u, h'.get? t = some u := by
    obtain ⟨o, _, _, _, ho, _⟩ := new
    exact ⟨o, ho⟩
  exact h _ (I.write (e := t) (t' := s.toks + 1) (by rw [ht]; trivial) (.inl rfl) (fun b u hb hu => (sb.2 b hb).trans hu) he (setX_obj new))
end DL
namespace DL
open PySem PySem.Spec PyProof.Rows L2
section
variable {X : Cx}
/-- {elt for tg in iter for tg1 in iter1}: t the new set, every elt a text -/
def tSX (w : World) (wi : TI) (g : TG) (wi1 : TI) (g1 : TG) (te : TE) (vs vs1 : List Nat) : TE := fun σ H Q => wi σ H fun J H1 => ∀ t, H1 t = none → ∃ W : Nat → Nat → Hp → Prop, (∃ m, W 0 m (upd H1 t (SetXO w t (fun _ => false) 0))) ∧ ∀ i m H, W i m H →
  (J.stop i H ∧ Q (.ref t) H) ∨ (J.go i H ∧ ∃ Nx : Hp → Prop, (∀ H', Nx H' → ∃ m', m' < m ∧ W (i + 1) m' H') ∧ ∀ x H', J.yld i H x H' → g x (wipe σ vs) H' fun σ2 H2 => wipe σ2 vs = wipe σ vs ∧
    wi1 σ2 H2 fun J1 H4 => ∃ W1 : Nat → Nat → Hp → Prop, (∃ m, W1 0 m H4) ∧ ∀ j k H, W1 j k H →
      (J1.stop j H ∧ Nx H) ∨ (J1.go j H ∧ ∃ Nx1 : Hp → Prop, (∀ H', Nx1 H' → ∃ k', k' < k ∧ W1 (j + 1) k' H') ∧ ∀ x H', J1.yld j H x H' → g1 x (wipe σ2 vs1) H' fun σ3 H5 => wipe σ3 vs1 = wipe σ2 vs1 ∧
        te σ3 H5 fun y H7 => ∃ (c : Str) (S : Str → Bool) (n : Nat), y = .str c ∧ H7 t = some (SetXO w t S n) ∧ n + 1 < scanBound ∧ Nx1 (upd H7 t (SetXO w t (fun j => S j || decide (j = c)) (if S c = true then n else n + 1)))))
abbrev BE (X : Cx) (scope : Scope) (p : Cx → Prop) : Prop := ∀ (s : Shared) (H : Hp) (a : Addr) (cl : List (Str × Addr)) (fp : List Addr), p (X.blk s H scope (compEnvC scope cl a X.env) fp)
theorem sx_core {pins : List (Addr × Obj)} {s : Shared} {σ : L2.St} {H : Hp} {Q : VK} {elt tg iter tg1 iter1 : Expr} {scope : Scope} {own : List (Str × Nat)} {vs1 : List Nat} {pos p2 : Pos} {wi wi1 : TI} {g g1 : TG} {te : TE} {use : Option (Value → Sem Unit)} {Qf : Value → Shared → Prop}
    (hc : X.calm = true) (hN : X.N.Nodup) (I : Inv X pins σ H s) (hi : PI X tg iter wi) (ok : BlkOk X.N X.env.scope scope own) (hv : ∀ i ∈ vs1, i ∈ own.map (·.2))
    (hg : BE X scope fun X => PG X tg g) (he : BE X scope fun X => PE X elt te) (hi1 : BE X scope fun X => PI X tg1 iter1 wi1) (hg1 : BE X scope fun X => PG X tg1 g1) (hs : ∀ x, foldedSetIterable iter X.env x = pure x) (hs1 : ∀ env x, foldedSetIterable iter1 env x = pure x)
    (h : tSX X.w wi g wi1 g1 te (own.map (·.2)) vs1 σ H Q)
    (fine : ∀ t a s' m H', Inv X pins σ H' s' → Q (.ref t) H' → s'.heap.Ns a m → FpOk X pins H' a → compPost (model X.prog X.w) X.A X.xe use Qf (.ref t) a (.ok .next) s') :
    wpAny (model X.prog X.w) X.A (comprehension (sX elt tg iter tg1 iter1 scope pos) scope X.env p2 (newSet (.type "set")) false (eval iter X.env) use) Qf X.xe s := by
  have free : ∀ y ∈ scope.names, y.2 = .free → ∃ c, X.env.cells.lookup y.1 = some c := fun y hy e => (ok.free y hy e).elim (fun k => I.ok.has _ (.inl k)) fun k => I.ok.has _ (.inr k)
  refine wpAny_comprehension_free (use := use) rfl hs (closure_ok free) ok.kind (fun y hy e => by rw [ok.uniq y hy, e]) (thn (hi.run pins s σ H _ I h) fun _ _ hx => thn hx fun _ b2 h2 => ?_)
  obtain ⟨it, fp, tn, J, H2, e, I2, T, st2, f2, q⟩ := h2
  subst e
  refine PpSet.newSet_ok (newEnv_comp ?_)
  generalize ht : b2.heap.objs.size = t
  have htn : H2 t = none := I2.hok.fresh (Nat.le_of_eq ht)
  obtain ⟨W, ⟨m0, w0⟩, turn⟩ := q t htn
  generalize hb3 : ({ b2 with heap := b2.heap.push (freshS X.w) } : Shared) = b3
  have e3 : b3.heap = b2.heap.push (freshS X.w) := by rw [← hb3]
  have up : ∀ b o, b2.heap.get? b = some o → b3.heap.get? b = some o := fun b o z => by rw [e3]; exact Heap.get?_push_of_some _ z
  have I3 : Inv X pins σ (upd H2 t (SetXO X.w t (fun _ => false) 0)) b3 := by
    subst hb3
    refine I2.laid (t' := b2.toks) up (Nat.le_of_eq ht) (setX_obj (setX_fresh ?_))
    rw [← ht]
    exact Heap.get?_push_size _ rfl
  have lt : ∀ b ∈ fp, b < b2.heap.objs.size := fun b hb => let ⟨o, z, _⟩ := T.obj _ _ st2 b hb; Heap.lt_size z
  have f3 : ∀ b ∈ fp, FpOk X pins (upd H2 t (SetXO X.w t (fun _ => false) 0)) b ∧ b < b3.heap.objs.size := fun b hb =>
    ⟨⟨(upd_ne (by rw [← ht]; exact Nat.ne_of_lt (lt b hb))).trans (f2 b hb).1, (f2 b hb).2⟩, by rw [e3, Heap.size_push]; exact Nat.lt_succ_of_lt (lt b hb)⟩
  have st3 : tn 0 b3.heap := T.keep _ _ _ st2 fun b _ o z => up b o z
  have I4 := block_start I3 ok hN f3
  generalize hcl : cellsFrom (b3.heap.objs.size + 1) scope.names (cloFrom X.env.cells scope.names []) = cl at I4 ⊢
  have pg := hg b3 (upd H2 t (SetXO X.w t (fun _ => false) 0)) b3.heap.objs.size cl fp
  have pe := he b3 (upd H2 t (SetXO X.w t (fun _ => false) 0)) b3.heap.objs.size cl fp
  have pi1 := hi1 b3 (upd H2 t (SetXO X.w t (fun _ => false) 0)) b3.heap.objs.size cl fp
  have pg1 := hg1 b3 (upd H2 t (SetXO X.w t (fun _ => false) 0)) b3.heap.objs.size cl fp
  show codeAny _ _ (.compStart (sX elt tg iter tg1 iter1 scope pos) 0 (.ref it) (.ref t) (compEnvC scope cl b3.heap.objs.size X.env)) (compPost (model X.prog X.w) X.A X.xe use Qf (.ref t) b3.heap.objs.size) { b3 with heap := pushCells (b3.heap.push { cls := .type "dict", data := .dict #[] }) scope.names }
  have nfp : ∀ b ∈ fp, (upd H2 t (SetXO X.w t (fun _ => false) 0)) b = none := fun b hb => (f3 b hb).1.1
  generalize hce : compEnvC scope cl b3.heap.objs.size X.env = ce at I4 pg pe pi1 pg1 ⊢
  have cL : ce.locals = b3.heap.objs.size := by subst hce; rfl
  generalize hH3 : upd H2 t (SetXO X.w t (fun _ => false) 0) = H3 at I3 I4 pg pe pi1 pg1 w0 nfp f3
  generalize hb4 : ({ b3 with heap := pushCells (b3.heap.push { cls := .type "dict", data := .dict #[] }) scope.names } : Shared) = b4 at I4 ⊢
  have st4 : tn 0 b4.heap := T.keep _ _ _ st3 fun b _ o z => by subst hb4; exact pushCells_keeps _ _ _ _ (Heap.get?_push_of_some _ z)
  generalize hY : X.blk b3 H3 scope ce fp = Y at I4 pg pe pi1 pg1
  have yp : Y.prog = X.prog := by subst hY; rfl
  have yw : Y.w = X.w := by subst hY; rfl
  have yA : Y.A = X.A := by subst hY; rfl
  have ye : Y.env = ce := by subst hY; rfl
  have stat : ∀ {σ' : L2.St} {H' : Hp} {s' : Shared}, Inv Y [] σ' H' s' → (∀ b ∈ fp, H' b = none) → ∀ b ∈ fp, FpOk Y [] H' b := fun {σ' H' s'} I' hn b hb => by
    subst hY
    exact ⟨hn b hb, (I'.ok.exf b hb).1, I'.ok.exfs b hb, .inl hb, fun x c z => (I'.ok.exf b hb).2 x c z, fun p hp => absurd (show p ∈ ([] : List (Addr × Obj)) ++ [] from hp) (by simp)⟩
  subst hY
  have loop : codeAny (model X.prog X.w) X.A (.compLoop (sX elt tg iter tg1 iter1 scope pos) 0 (.ref it) (.ref t) ce) (compPost (model X.prog X.w) X.A X.xe use Qf (.ref t) b3.heap.objs.size) b4 := by
    refine sx_loop0 (hs1 ce) (fun n s' => ∃ i H', Inv (X.blk b3 H3 scope ce fp) [] (wipe σ (own.map (·.2))) H' s' ∧ tn i s'.heap ∧ (∀ b ∈ fp, H' b = none) ∧ W i n H') ?_ m0 ⟨0, H3, I4, st4, nfp, w0⟩
    rintro n b5 ⟨i, H5, I5, st5, n5, w5⟩
    rcases turn i n H5 w5 with ⟨stop, qq⟩ | ⟨go, Nx, hNx, step⟩
    · refine thnF (T.done (X.blk b3 H3 scope ce fp) rfl rfl rfl hc i [] b5 _ H5 (fun _ _ => False) I5 (stat I5 n5) st5 stop) fun r b6 ⟨hr, I6⟩ => ?_
      subst hr
      have I7 : Inv X pins σ H5 b6 := I3.call' (ch := fp) I6.os I6.base I6.hok I6.bare fun b hb => let z := (f3 b hb).1.2; ⟨z.2.2.1, z.1, z.2.2.2.1, z.2.2.2.2⟩
      have n0 : H5 b3.heap.objs.size = none := by
        have z : H5 ce.locals = none := I6.free
        rwa [cL] at z
      obtain ⟨m, hn, _⟩ := I6.loc
      have hn : b6.heap.Ns ce.locals m := hn
      rw [cL] at hn
      exact fine t b3.heap.objs.size b6 m H5 I7 qq hn (I3.fpOk (Nat.le_refl _) n0)
    · refine thnF (T.item (X.blk b3 H3 scope ce fp) rfl rfl rfl hc i [] b5 _ H5 (fun _ _ => False) I5 (stat I5 n5) st5 go) fun r b6 ⟨u, hr, h6⟩ => ?_
      subst hr
      refine thnF h6 fun _ b7 ⟨x, H7, I7, r7, y7, st7, n7⟩ => ?_
      refine thnF (pg.run _ b7 _ H7 x u _ (I7.pinned (stat I7 n7) (T.obj _ _ st7)) r7 (step x H7 y7)) fun _ b8 ⟨σ8, H8, I8, hw8, q8⟩ => ?_
      have fin : ∀ {σ9 : L2.St} {s' : Shared} {H' : Hp}, Inv (X.blk b3 H3 scope ce fp) ([] ++ pinsAt fp b7.heap) σ9 H' s' → (wipe σ (own.map (·.2))).length = σ9.length → (∀ (j : Nat) v, (wipe σ (own.map (·.2)))[j]? = some (some v) → σ9[j]? = some (some v)) → Nx H' →
          ∃ m, m < n ∧ ∃ i H', Inv (X.blk b3 H3 scope ce fp) [] (wipe σ (own.map (·.2))) H' s' ∧ tn i s'.heap ∧ (∀ b ∈ fp, H' b = none) ∧ W i m H' := fun {σ9 s' H'} I' hl hk nx => by
        obtain ⟨m', hm, w'⟩ := hNx H' nx
        have pin : ∀ b ∈ fp, ∀ o, b7.heap.get? b = some o → s'.heap.get? b = some o ∧ H' b = none := fun b hb o z =>
          have z := I'.pin (b, o) (List.mem_append_right _ (List.mem_append_right _ (mem_pinsAt hb z)))
          ⟨z.1, z.2.1⟩
        exact ⟨m', hm, i + 1, H', (I'.unpinned (pins := [])).weak hl hk, T.keep _ _ _ st7 fun b hb o z => (pin b hb o z).1, fun b hb => let ⟨o, z, _⟩ := T.obj _ _ st7 b hb; (pin b hb o z).2, w'⟩
      have hl8 : (wipe σ (own.map (·.2))).length = σ8.length := by rw [← hw8, wipe_length]
      have hk9 : ∀ (j : Nat) v, (wipe σ (own.map (·.2)))[j]? = some (some v) → (wipe σ8 vs1)[j]? = some (some v) := fun j v z => by
        rw [← hw8] at z
        obtain ⟨z1, z2⟩ := wipe_some z
        rw [wipe_out fun k => z2 (hv j k)]
        exact z1
      refine thnF (pi1.run _ b8 σ8 H8 _ I8 q8) fun _ _ hx => thnF hx fun _ c1 h11 => ?_
      obtain ⟨it1, fp1, tn1, J1, H11, e1, I11, T1, st11, f11, W1, ⟨m1, w1⟩, turn1⟩ := h11
      subst e1
      have stat1 : ∀ {H' : Hp}, (∀ b ∈ fp1, H' b = none) → ∀ b ∈ fp1, FpOk (X.blk b3 H3 scope ce fp) ([] ++ pinsAt fp b7.heap) H' b := fun hn b hb => ⟨hn b hb, (f11 b hb).2⟩
      have loop1 : codeAny (model X.prog X.w) X.A (.compLoop (sX elt tg iter tg1 iter1 scope pos) 1 (.ref it1) (.ref t) ce)
          (fun r s' => match r with
            | .ok _ => ∃ m, m < n ∧ ∃ i H', Inv (X.blk b3 H3 scope ce fp) [] (wipe σ (own.map (·.2))) H' s' ∧ tn i s'.heap ∧ (∀ b ∈ fp, H' b = none) ∧ W i m H'
            | .error _ => False) c1 := by
        refine sx_loop1 (fun k s' => ∃ j H', Inv (X.blk b3 H3 scope ce fp) ([] ++ pinsAt fp b7.heap) (wipe σ8 vs1) H' s' ∧ tn1 j s'.heap ∧ (∀ b ∈ fp1, H' b = none) ∧ W1 j k H') ?_ m1 ⟨0, H11, I11.weak (wipe_length _ _) (fun j v z => (wipe_some z).1), st11, fun b hb => (f11 b hb).1, w1⟩
        rintro k c2 ⟨j, H12, I12, st12, n12, w12⟩
        rcases turn1 j k H12 w12 with ⟨stop1, nx1⟩ | ⟨go1, Nx1, hNx1, step1⟩
        · refine thnF (T1.done (X.blk b3 H3 scope ce fp) rfl rfl rfl hc j _ c2 (wipe σ8 vs1) H12 (fun _ _ => False) I12 (stat1 n12) st12 stop1) fun r c3 ⟨hr, I13⟩ => ?_
          subst hr
          exact fin I13 (hl8.trans (wipe_length σ8 vs1).symm) hk9 nx1
        · refine thnF (T1.item (X.blk b3 H3 scope ce fp) rfl rfl rfl hc j _ c2 (wipe σ8 vs1) H12 (fun _ _ => False) I12 (stat1 n12) st12 go1) fun r c3 ⟨u1, hr, h13⟩ => ?_
          subst hr
          refine thnF h13 fun _ c4 ⟨x1, H14, I14, r14, y14, st14, n14⟩ => ?_
          refine thnF (pg1.run _ c4 (wipe σ8 vs1) H14 x1 u1 _ (I14.pinned (stat1 n14) (T1.obj _ _ st14)) r14 (step1 x1 H14 y14)) fun _ c5 ⟨σ15, H15, I15, hw15, q15⟩ => ?_
          refine thnF (pe.run _ c5 σ15 H15 _ I15 q15) fun z c7 ⟨yv, H17, I17, r17, tx, S0, k0, ey, ht17, hz17, nx⟩ => ?_
          subst ey
          obtain ⟨tk, rfl⟩ := r17
          refine addX_ok (X := X.blk b3 H3 scope ce fp) I17 ht17 hz17 fun c8 I' => ?_
          obtain ⟨m', hm, w'⟩ := hNx1 _ nx
          have pin : ∀ b ∈ fp1, ∀ o, c4.heap.get? b = some o → c8.heap.get? b = some o ∧ upd H17 t (SetXO X.w t (fun j => S0 j || decide (j = tx)) (if S0 tx = true then k0 else k0 + 1)) b = none := fun b hb o z =>
            have z := I'.pin (b, o) (List.mem_append_right _ (List.mem_append_right _ (mem_pinsAt hb z)))
            ⟨z.1, z.2.1⟩
          exact ⟨m', hm, j + 1, _, I'.unpinned.weak (by rw [← hw15, wipe_length]) (fun j v z => by rw [← hw15] at z; exact (wipe_some z).1), T1.keep _ _ _ st14 fun b hb o z => (pin b hb o z).1, fun b hb => let ⟨o, z, _⟩ := T1.obj _ _ st14 b hb; (pin b hb o z).2, w'⟩
      exact sx_start1 loop1 (T1.self X.A 0 _ _ _ st11 loop1)
  exact PpSet.codeAny_compStart_set loop (T.self X.A 0 _ _ _ st4 loop)
theorem pe_sx {elt tg iter tg1 iter1 : Expr} {scope : Scope} {own : List (Str × Nat)} {vs1 : List Nat} {pos : Pos} {wi wi1 : TI} {g g1 : TG} {te : TE} (hc : X.calm = true) (hN : X.N.Nodup) (hi : PI X tg iter wi) (ok : BlkOk X.N X.env.scope scope own) (hv : ∀ i ∈ vs1, i ∈ own.map (·.2))
    (hg : BE X scope fun X => PG X tg g) (he : BE X scope fun X => PE X elt te) (hi1 : BE X scope fun X => PI X tg1 iter1 wi1) (hg1 : BE X scope fun X => PG X tg1 g1) (hs : ∀ x, foldedSetIterable iter X.env x = pure x := by intro _; rfl) (hs1 : ∀ env x, foldedSetIterable iter1 env x = pure x := by intro _ _; rfl) :
    PE X (.SetComp elt [⟨tg, iter, [], 0⟩, ⟨tg1, iter1, [], 0⟩] scope pos) (tSX X.w wi g wi1 g1 te (own.map (·.2)) vs1) := by
  refine ⟨fun pins s σ H Q I h => ?_⟩
  rw [PpSet.eval_SetComp]
  refine sx_core hc hN I hi ok hv hg he hi1 hg1 hs hs1 h fun t a s' m H' I' q hn ⟨f0, f1, f2, f3, f4, f5⟩ => ⟨m, hn, fun h2 sb => ⟨.ref t, H', ?_, rfl, q⟩⟩
  exact I'.turned (t' := s'.toks) (fun b o hb e => (sb.2 b hb).trans e) f0 f1 f3 f4 f5
end
end DL
namespace DL
open PySem PySem.Spec PyProof.Rows L2
abbrev wiB (C : Ctx) (scope : Scope) (tg iter : Expr) : TI := fun σ H R => ∀ s H0 Cc cl fp, WI (bctx C scope s H0 Cc cl fp).X tg iter σ H R
theorem Stay.ext {H : Hp} {p : Addr} {f : Heap → Prop} {o : HO} (h : H p = some (.ext f)) : Stay H (upd H p o) :=
  ⟨fun a vs e => by rw [upd_ne (fun q => by rw [q, h] at e; cases e)]; exact e, fun a ob u e => by rw [upd_ne (fun q => by rw [q, h] at e; cases e)]; exact e, fun a e => by rw [upd_ne (fun q => by rw [q, h] at e; cases e)]; exact e⟩
section
variable {C : Ctx} {Γ : Gm} {L : Lp} {elt tg iter tg1 iter1 : Expr} {pos : Pos} {Q : D → Lp → Prop}
/-- what one item of the first source gives: the second source's items, each of them elt -/
def Two (C : Ctx) (scope : Scope) (Γ : Gm) (L : Lp) (tg tg1 iter1 elt : Expr) (vs vs1 : List Nat) (d : D) (ys : List D) : Prop := ∃ Γ3 ws, (∀ j ∈ ws, j ∈ vs) ∧ ∀ s H Cc cl fp, AG (bctx C scope s H Cc cl fp) tg d (wipeG Γ vs) Γ3 ws ∧ AV (bctx C scope s H Cc cl fp) iter1 Γ3 L (.tup ys) ∧
  ∀ y ∈ ys, ∃ Γ5 ws1, (∀ j ∈ ws1, j ∈ vs1) ∧ ∀ s H Cc cl fp, AG (bctx C scope s H Cc cl fp) tg1 y (wipeG Γ3 vs1) Γ5 ws1 ∧ AV (bctx C scope s H Cc cl fp) elt Γ5 L y
theorem ae_sx (own : List (Str × Nat)) (vs1 : List Nat) {scope : Scope}
    (h : AI C tg iter Γ L fun ds G L1 => G L1 ∧ ∃ xss : List (List Str), ds = xss.map (fun xs => D.tup (xs.map D.str)) ∧ xss.flatten.length + 1 < scanBound ∧ (∀ xs ∈ xss, Two C scope Γ L1 tg tg1 iter1 elt (own.map (·.2)) vs1 (.tup (xs.map D.str)) (xs.map D.str)) ∧
      ∀ t n, L1 t = none → n ≤ xss.flatten.length → Q (.ptr t) (put L1 t (.txs (fun k => decide (k ∈ xss.flatten)) n)))
    (ok : BlkOk C.X.N C.X.env.scope scope own := by (dsimp only [fctx, bctx, cxOf, envOfC, compEnvC, Cx.blk]; exact blkOk_by (by decide +kernel))) (hv : ∀ i ∈ vs1, i ∈ own.map (·.2) := by decide) (hs : ∀ x, foldedSetIterable iter C.X.env x = pure x := by intro _; rfl) (hs1 : ∀ env x, foldedSetIterable iter1 env x = pure x := by intro _ _; rfl) :
    AE C (.SetComp elt [⟨tg, iter, [], 0⟩, ⟨tg1, iter1, [], 0⟩] scope pos) Γ L Q := fun F σ H okk QV go => by
  refine we_of (pe_sx (wi := WI C.X tg iter) (g := gB C scope tg) (wi1 := wiB C scope tg1 iter1) (g1 := gB C scope tg1) (te := teB C scope elt) C.calm C.nd pi_wi ok hv (fun s H0 Cc cl fp => ⟨fun pins s1 σ1 H1 v u Q1 I r q => (q s H0 Cc cl fp).run pins s1 u I r⟩) (fun s H0 Cc cl fp => ⟨fun pins s1 σ1 H1 Q1 I q => (q s H0 Cc cl fp).run pins s1 I⟩) (fun s H0 Cc cl fp => ⟨fun pins s1 σ1 H1 Q1 I q => (q s H0 Cc cl fp).run pins s1 I⟩) (fun s H0 Cc cl fp => ⟨fun pins s1 σ1 H1 v u Q1 I r q => (q s H0 Cc cl fp).run pins s1 u I r⟩) hs hs1) ?_
  refine h _ σ H okk _ fun {F1} J H1 L1 ds G c1 f1 it ⟨hG, xss, eds, hz, hb, q⟩ => ?_
  subst eds
  intro t ht
  have f1t := c1.nf ht
  have l1t := c1.free ht
  refine ⟨fun i m H2 => m = xss.length - i ∧ i ≤ xss.length ∧ ∃ F2 n, C.Con L1 F2 H2 ∧ Fr L1 F1 H1 L1 F2 H2 ∧ ¬ F2 t ∧ H2 t = some (SetXO C.X.w t (fun k => decide (k ∈ (xss.take i).flatten)) n) ∧ n ≤ (xss.take i).flatten.length ∧ ∀ k ∈ (xss.take i).flatten, SOk k,
    ⟨xss.length, by simp, Nat.zero_le _, F1, 0, c1.new ht, .new ht, f1t, by rw [upd_same]; rfl, Nat.zero_le _, fun _ z => nomatch z⟩, ?_⟩
  rintro i m H2 ⟨rfl, hi, F2, n, c2, f2, f2t, h2t, hn, hS⟩
  obtain ⟨k1, k2, k3⟩ := it i H2 L1 f2 c2 hG
  rw [List.length_map] at k1 k2 k3
  by_cases hlt : i < xss.length
  · refine .inr ⟨k1 hlt, fun H3 => ∃ F2 n, C.Con L1 F2 H3 ∧ Fr L1 F1 H1 L1 F2 H3 ∧ ¬ F2 t ∧ H3 t = some (SetXO C.X.w t (fun k => decide (k ∈ (xss.take (i + 1)).flatten)) n) ∧ n ≤ (xss.take (i + 1)).flatten.length ∧ ∀ k ∈ (xss.take (i + 1)).flatten, SOk k, fun H3 hN => ⟨xss.length - (i + 1), by omega, rfl, hlt, hN⟩, fun x H' y => ?_⟩
    obtain ⟨d, hd, rd, hH⟩ := k3 x H' y hlt
    rw [List.getElem?_map, List.getElem?_eq_getElem hlt] at hd
    cases hd
    have etk : xss.take (i + 1) = xss.take i ++ [xss[i]] := by rw [List.take_add_one, List.getElem?_eq_getElem hlt]; rfl
    have eln : xss.flatten.length = (xss.take (i + 1)).flatten.length + (xss.drop (i + 1)).flatten.length := by rw [← List.length_append, ← List.flatten_append, List.take_append_drop]
    rw [etk, List.flatten_append] at eln ⊢
    have hm : xss[i] ∈ xss := List.getElem_mem hlt
    generalize xss[i] = xs at *
    have exs : [xs].flatten = xs := by simp
    rw [exs] at eln ⊢
    generalize (xss.take i).flatten = pre at *
    have fH : Fr L1 F2 H2 L1 F2 H' := by
      rcases hH with e | ⟨T, vs, nT, e⟩
      · rw [e]; exact .refl L1 H2
      · rw [e]; exact .new nT
    have cH : C.Con L1 F2 H' := by
      rcases hH with e | ⟨T, vs, nT, e⟩
      · rw [e]; exact c2
      · rw [e]; exact c2.new nT
    obtain ⟨_, _, h3t⟩ := fH.hid h2t (fun _ z => nomatch z) l1t f2t
    have slw : Sl C.X.K F2 H' (wipe σ (own.map (·.2))) (wipeG Γ (own.map (·.2))) := (okk.sl.mono ((f1.trans f2).trans fH).mv).wipe _
    obtain ⟨Γ3, ws, hws, hbody⟩ := hb xs hm
    intro s0 H0 Cc cl fp
    refine (hbody s0 H0 Cc cl fp).1 _ _ H' x slw rd _ fun σ3 sl3 but => ⟨But.wiped but hws, ?_⟩
    intro s1 H01 Cc1 cl1 fp1
    refine wi_of (pi_tup pe_we) ((hbody s1 H01 Cc1 cl1 fp1).2.1 (fun d L' => d = .tup (xs.map D.str) ∧ L' = L1) ⟨rfl, rfl⟩ _ σ3 H' ⟨sl3, cH, ⟨fun _ _ _ _ _ _ _ _ _ _ _ z => z.elim⟩⟩ _ fun {F4} v d H4 L4 r4 c4 f4 ⟨ed, eL⟩ => ?_)
    subst ed eL
    obtain ⟨a, vs, rfl, ha, ra⟩ := r4.tupE
    obtain ⟨_, f4t, h4t⟩ := f4.hid h3t (fun _ z => nomatch z) l1t f2t
    have fr4 := (f2.trans fH).trans f4
    have hvl : vs.length = xs.length := by rw [ra.length, List.length_map]
    refine ⟨a, rfl, ⟨vs, SqT.of ha⟩, fun j k H5 => k = xs.length - j ∧ j ≤ xs.length ∧ ∃ F5 n, C.Con L4 F5 H5 ∧ Fr L4 F1 H1 L4 F5 H5 ∧ Mv F4 H4 F5 H5 ∧ ¬ F5 t ∧ H5 t = some (SetXO C.X.w t (fun k => decide (k ∈ pre ++ xs.take j)) n) ∧ n ≤ (pre ++ xs.take j).length ∧ ∀ k ∈ pre ++ xs.take j, SOk k,
      ⟨xs.length, by simp, Nat.zero_le _, F4, n, c4, fr4, ⟨.refl H4, fun _ z => z, fun _ _ _ z => z⟩, f4t, by rw [h4t, List.take_zero, List.append_nil], by simpa using hn, by simpa using hS⟩, ?_⟩
    rintro j k H5 ⟨rfl, hj, F5, n5, c5, f5, m5, f5t, h5t, hn5, hS5⟩
    have sq : SqT C.X.K H5 a vs := SqT.of (m5.stay.tup _ _ ha)
    by_cases hjl : j < xs.length
    · refine .inr ⟨⟨vs, vs[j]'(by omega), sq, List.getElem?_eq_getElem _⟩, fun H6 => ∃ F5 n, C.Con L4 F5 H6 ∧ Fr L4 F1 H1 L4 F5 H6 ∧ Mv F4 H4 F5 H6 ∧ ¬ F5 t ∧ H6 t = some (SetXO C.X.w t (fun k => decide (k ∈ pre ++ xs.take (j + 1))) n) ∧ n ≤ (pre ++ xs.take (j + 1)).length ∧ ∀ k ∈ pre ++ xs.take (j + 1), SOk k, fun H6 hN => ⟨xs.length - (j + 1), by omega, rfl, hjl, hN⟩, fun x6 H6 y6 => ?_⟩
      obtain ⟨e6, y6⟩ := y6
      subst e6
      obtain ⟨d6, hd6, rd6⟩ := ra.getV (y6 vs sq)
      rw [List.getElem?_map, List.getElem?_eq_getElem hjl] at hd6
      cases hd6
      obtain ⟨Γ5, ws1, hws1, hin⟩ := (hbody s1 H01 Cc1 cl1 fp1).2.2 (.str xs[j]) (List.mem_map.mpr ⟨_, List.getElem_mem hjl, rfl⟩)
      intro s2 H02 Cc2 cl2 fp2
      refine (hin s2 H02 Cc2 cl2 fp2).1 _ _ H6 x6 (((sl3.mono f4.mv).mono m5).wipe vs1) (rd6.mono m5) _ fun σ7 sl7 but7 => ⟨But.wiped but7 hws1, ?_⟩
      intro s3 H03 Cc3 cl3 fp3
      refine (hin s3 H03 Cc3 cl3 fp3).2 (fun d L' => d = .str xs[j] ∧ L' = L4) ⟨rfl, rfl⟩ _ σ7 H6 ⟨sl7, c5, ⟨fun _ _ _ _ _ _ _ _ _ _ _ z => z.elim⟩⟩ _ fun {F8} v8 d8 H8 L8 r8 c8 f8 ⟨ed, eL⟩ => ?_
      subst ed eL
      obtain ⟨_, f8t, h8t⟩ := f8.hid h5t (fun _ z => nomatch z) l1t f5t
      have ev : v8 = .str xs[j] := by cases r8; rfl
      have so : SOk xs[j] := r8.bnd
      have et : xs.take (j + 1) = xs.take j ++ [xs[j]] := by rw [List.take_add_one, List.getElem?_eq_getElem hjl]; rfl
      have st := Stay.ext (o := SetXO C.X.w t (fun k => decide (k ∈ pre ++ xs.take (j + 1))) (if decide (xs[j] ∈ pre ++ xs.take j) = true then n5 else n5 + 1)) h8t
      have hl5 : (pre ++ xs.take j).length ≤ pre.length + j := by rw [List.length_append, List.length_take]; omega
      have ef : (fun k => decide (k ∈ pre ++ xs.take j) || decide (k = xs[j])) = fun k => decide (k ∈ pre ++ xs.take (j + 1)) := by
        funext k
        rw [et]
        generalize xs.take j = zs
        generalize xs[j] = z
        simp [Bool.or_assoc]
      rw [List.length_append] at eln
      refine ⟨xs[j], _, n5, ev, h8t, by omega, F8, _, ?_, ?_, ?_, f8t, by rw [upd_same, ef], ?_, ?_⟩
      · rw [ef]; exact c8.hid st l1t f8t
      · rw [ef]; exact (f5.trans f8).hidw ht f1t st
      · rw [ef]; exact (m5.trans f8.mv).trans (.hid st f8t)
      · rw [et, ← List.append_assoc, List.length_append]
        show _ ≤ _ + 1
        split <;> omega
      · intro k hk
        rw [et, ← List.append_assoc] at hk
        rcases List.mem_append.mp hk with hk | hk
        · exact hS5 k hk
        · rw [List.mem_singleton.mp hk]; exact so
    · have e : j = xs.length := by omega
      subst e
      rw [List.take_length] at h5t hn5 hS5
      exact .inl ⟨⟨vs, sq, by omega⟩, F5, n5, c5, f5, f5t, h5t, hn5, hS5⟩
  · have e : i = xss.length := by omega
    subst e
    rw [List.take_length] at h2t hn hS
    exact .inl ⟨k2 rfl, go _ _ H2 (put L1 t (.txs (fun k => decide (k ∈ xss.flatten)) n)) (.ptr t) (c2.shw f2t ⟨h2t, fun k hk => hS k (of_decide_eq_true hk)⟩) ((f1.trans f2).shw (f1.nul ht)) (q t n l1t hn)⟩
end
end DL
namespace DL
open PySem PySem.Spec PyProof.Rows L2
/-- an entry, as items() gives it -/
abbrev itD (x : List Key × D) : D := .tup [kD x.1, x.2]
def iItT (td : TE) : TI := fun σ H R => td σ H fun x H1 => ∃ d o kvs, x = .ref d ∧ H1 d = some (.frz o (.dT kvs)) ∧ R (Itit d o kvs) H1
theorem pi_itT {X : Cx} {e : Expr} {td : TE} {apos cpos : Pos} {elts : List Expr} {kk : Nat} {tpos : Pos} (he : PE X e td) (hbase : attributeBase e "items" X.env (eval e X.env) = eval e X.env := by rfl) (hline : (apos.endLine == cpos.line) = true := by rfl) :
    PI X (.Tuple elts kk tpos) (.Call (.Attribute e "items" apos) [] [] cpos) (iItT td) := by
  refine ⟨fun pins s σ H R I h => wpAny_Call_method (T := "dict") (id := "dict.items") hbase rfl hline F.plainAttrs_dict F.slot_dict_items F.type_dict_items (thn (he.run pins s σ H _ I h) fun u s1 hu => ?_)⟩
  obtain ⟨x, H1, I1, rx, d, o, kvs, rfl, hd, q⟩ := hu
  obtain rfl : u = Value.ref d := rx
  obtain ⟨es, ep, hdt, raw, hs, ty, hsz, _⟩ := raw_at I1 hd
  refine ⟨ty, ?_, ?_⟩
  · intro a' ea
    cases ea
    obtain ⟨o2, h1, h2, _⟩ := raw
    exact ⟨o2, h1, h2.2.1⟩
  have up : ∀ b ob, s1.heap.get? b = some ob → (s1.heap.push { cls := .type "dict_items", data := .fields #[.ref d] }).get? b = some ob := fun b ob z => Heap.get?_push_of_some _ z
  have I2 : Inv X pins σ H1 { s1 with heap := s1.heap.push { cls := .type "dict_items", data := .fields #[.ref d] } } := I1.kept (t' := s1.toks) up
  have fin : wpAny (model X.prog X.w) X.A (pyIter (.ref s1.heap.objs.size)) (PIE X pins σ (.Tuple elts kk tpos) R) X.xe { s1 with heap := s1.heap.push { cls := .type "dict_items", data := .fields #[.ref d] } } := by
    refine PySem.wpAny_pyIter_items_raw (d := d) ⟨_, Heap.get?_push_size _ rfl, rfl, rfl⟩ (raw.at fun ob z => up d ob z) (pi_one (tk := s1.toks) I2 _ (turn_itT _ hdt) ⟨.none, .none, ?_⟩ q)
    rw [← hsz]
    exact Heap.get?_push_size _ rfl
  show wpAny _ _ (callWith cpos (.builtin "dict.items") [.ref d] [] []) _ X.xe s1
  exact method_meetsIn F.slot_dict_items F.entry_dict_items rfl (PySem.evalArgs_none ⟨rfl, ty, F.args_dict_items_1 _, _, PySem.meets_dict_items_raw d hs, ⟨es, ep, raw⟩, fin⟩)
section
variable {C : Ctx} {Γ : Gm} {L : Lp} {elt tg iter tg1 iter1 e : Expr} {pos : Pos} {Q : D → Lp → Prop} {kds : List (List Key × D)} {E : AEnds} {d : D}
theorem itit_is {t : Addr} {od : Obj} {kvs : List (List Key × V)} {L0 : Lp} {F0 : Fz} {H0 : Hp} (st : ∀ F L H, Fr L0 F0 H0 L F H → H t = some (.frz od (.dT kvs))) (rr : KDs C.X.K F0 H0 kvs kds) (hk : ∀ q ∈ kds, KOk q.1) : IsIt C (Itit t od kvs) (kds.map itD) (fun _ => True) L0 F0 H0 := by
  intro F i H L s c g
  have hl : kvs.length = kds.length := Paired.length rr
  have ht := st F L H s
  rw [List.length_map]
  refine ⟨fun h => ⟨ht, by omega⟩, fun h => ⟨ht, by omega⟩, fun x H' y hi => ?_⟩
  obtain ⟨T, k, v, cc, e1, rfl, nT, hcc, rfl⟩ := y
  obtain ⟨⟨k2, d2⟩, hb, z1, z2⟩ := paired_get rr e1
  cases (show k = k2 from z1)
  refine ⟨itD (k, d2), by rw [List.getElem?_map, hb]; rfl, ?_, .inr ⟨T, _, nT, rfl⟩⟩
  have mv : Mv F H F (upd H T (.tup [.ref cc, v])) := .new nT
  have r1 : Rep C.X.K F (upd H T (.tup [.ref cc, v])) (.ref cc) (kD k) := (kD_rep hcc (hk _ (List.mem_of_getElem? hb))).mono mv
  have r2 : Rep C.X.K F (upd H T (.tup [.ref cc, v])) v d2 := (z2.mono s.mv).mono mv
  exact .tup upd_same (by show 2 ≤ sizeLine; decide) rfl fun j v' d' e1 e2 => by
    match j with
    | 0 => cases e1; cases e2; exact r1
    | 1 => cases e1; cases e2; exact r2
    | j + 2 => cases e1
theorem lc2_read {own : List (Str × Nat)} {vs1 : List Nat} {scope : Scope} {F : Fz} {σ : L2.St} {H : Hp} (okk : Ok C Γ L F σ H) {QV : VK} (go : Go C L F H Q QV)
    (h : AIp C tg iter L F σ H fun ds G L1 => G L1 ∧ ∃ ys : D → List D, (ds.flatMap ys).length ≤ sizeLine ∧ (∀ d ∈ ds, Two C scope Γ L1 tg tg1 iter1 elt (own.map (·.2)) vs1 d (ys d)) ∧ ∀ p, L1 p = none → Q (.ptr p) (put L1 p (.lst (ds.flatMap ys)))) :
    tLc2 (WI C.X tg iter) (gB C scope tg) tYes (wiB C scope tg1 iter1) (gB C scope tg1) tYes (teB C scope elt) (own.map (·.2)) vs1 σ H QV := by
  refine h _ fun {F1} J H1 L1 ds G c1 f1 it ⟨hG, ys, hz, hb, q⟩ => ?_
  intro t ht
  have f1t := c1.nf ht
  have l1t := c1.free ht
  refine ⟨fun i m H2 => m = ds.length - i ∧ i ≤ ds.length ∧ ∃ F2 vacc, C.Con L1 F2 H2 ∧ Fr L1 F1 H1 L1 F2 H2 ∧ ¬ F2 t ∧ H2 t = some (.lst vacc) ∧ Reps C.X.K F2 H2 vacc ((ds.take i).flatMap ys),
    ⟨ds.length, by simp, Nat.zero_le _, F1, [], c1.new ht, .new ht, f1t, upd_same, .nil⟩, ?_⟩
  rintro i m H2 ⟨rfl, hi, F2, vacc, c2, f2, f2t, h2t, ra⟩
  obtain ⟨k1, k2, k3⟩ := it i H2 L1 f2 c2 hG
  by_cases hlt : i < ds.length
  · refine .inr ⟨k1 hlt, fun H3 => ∃ F2 vacc, C.Con L1 F2 H3 ∧ Fr L1 F1 H1 L1 F2 H3 ∧ ¬ F2 t ∧ H3 t = some (.lst vacc) ∧ Reps C.X.K F2 H3 vacc ((ds.take (i + 1)).flatMap ys), fun H3 hN => ⟨ds.length - (i + 1), by omega, rfl, hlt, hN⟩, fun x H' y => ?_⟩
    obtain ⟨d, hd, rd, hH⟩ := k3 x H' y hlt
    rw [List.getElem?_eq_getElem hlt] at hd
    cases hd
    have etk : ds.take (i + 1) = ds.take i ++ [ds[i]] := by rw [List.take_add_one, List.getElem?_eq_getElem hlt]; rfl
    have eln : (ds.flatMap ys).length = ((ds.take (i + 1)).flatMap ys).length + ((ds.drop (i + 1)).flatMap ys).length := by rw [← List.length_append, ← List.flatMap_append, List.take_append_drop]
    rw [etk, List.flatMap_append, List.length_append] at eln
    rw [etk, List.flatMap_append]
    have hm : ds[i] ∈ ds := List.getElem_mem hlt
    have e1 : [ds[i]].flatMap ys = ys ds[i] := by simp
    rw [e1] at eln ⊢
    obtain ⟨Γ3, ws, hws, hbody⟩ := hb ds[i] hm
    generalize ds[i] = dd at *
    generalize (ds.take i).flatMap ys = pre at *
    generalize ys dd = xs at *
    have fH : Fr L1 F2 H2 L1 F2 H' := by
      rcases hH with e | ⟨T, vs, nT, e⟩
      · rw [e]; exact .refl L1 H2
      · rw [e]; exact .new nT
    have cH : C.Con L1 F2 H' := by
      rcases hH with e | ⟨T, vs, nT, e⟩
      · rw [e]; exact c2
      · rw [e]; exact c2.new nT
    obtain ⟨_, _, h3t⟩ := fH.hid h2t (fun _ z => nomatch z) l1t f2t
    have slw : Sl C.X.K F2 H' (wipe σ (own.map (·.2))) (wipeG Γ (own.map (·.2))) := (okk.sl.mono ((f1.trans f2).trans fH).mv).wipe _
    intro s0 H0 Cc cl fp
    refine (hbody s0 H0 Cc cl fp).1 _ _ H' x slw rd _ fun σ3 sl3 but => ⟨But.wiped but hws, ?_⟩
    unfold tYes
    dsimp only
    rw [if_pos rfl]
    intro s1 H01 Cc1 cl1 fp1
    refine wi_of (pi_tup pe_we) ((hbody s1 H01 Cc1 cl1 fp1).2.1 (fun d L' => d = .tup xs ∧ L' = L1) ⟨rfl, rfl⟩ _ σ3 H' ⟨sl3, cH, ⟨fun _ _ _ _ _ _ _ _ _ _ _ z => z.elim⟩⟩ _ fun {F4} v d H4 L4 r4 c4 f4 ⟨ed, eL⟩ => ?_)
    subst ed eL
    obtain ⟨a, vs, rfl, ha, rb⟩ := r4.tupE
    obtain ⟨_, f4t, h4t⟩ := f4.hid h3t (fun _ z => nomatch z) l1t f2t
    have fr4 := (f2.trans fH).trans f4
    have hvl : vs.length = xs.length := rb.length
    refine ⟨a, rfl, ⟨vs, SqT.of ha⟩, fun j k H5 => k = xs.length - j ∧ j ≤ xs.length ∧ ∃ F5 vacc, C.Con L4 F5 H5 ∧ Fr L4 F1 H1 L4 F5 H5 ∧ Mv F4 H4 F5 H5 ∧ ¬ F5 t ∧ H5 t = some (.lst vacc) ∧ Reps C.X.K F5 H5 vacc (pre ++ xs.take j),
      ⟨xs.length, by simp, Nat.zero_le _, F4, vacc, c4, fr4, ⟨.refl H4, fun _ z => z, fun _ _ _ z => z⟩, f4t, h4t, by rw [List.take_zero, List.append_nil]; exact (ra.mono fH.mv).mono f4.mv⟩, ?_⟩
    rintro j k H5 ⟨rfl, hj, F5, vacc5, c5, f5, m5, f5t, h5t, ra5⟩
    have sq : SqT C.X.K H5 a vs := SqT.of (m5.stay.tup _ _ ha)
    by_cases hjl : j < xs.length
    · refine .inr ⟨⟨vs, vs[j]'(by omega), sq, List.getElem?_eq_getElem _⟩, fun H6 => ∃ F5 vacc, C.Con L4 F5 H6 ∧ Fr L4 F1 H1 L4 F5 H6 ∧ Mv F4 H4 F5 H6 ∧ ¬ F5 t ∧ H6 t = some (.lst vacc) ∧ Reps C.X.K F5 H6 vacc (pre ++ xs.take (j + 1)), fun H6 hN => ⟨xs.length - (j + 1), by omega, rfl, hjl, hN⟩, fun x6 H6 y6 => ?_⟩
      obtain ⟨e6, y6⟩ := y6
      subst e6
      obtain ⟨d6, hd6, rd6⟩ := rb.getV (y6 vs sq)
      rw [List.getElem?_eq_getElem hjl] at hd6
      cases hd6
      obtain ⟨Γ5, ws1, hws1, hin⟩ := (hbody s1 H01 Cc1 cl1 fp1).2.2 xs[j] (List.getElem_mem hjl)
      intro s2 H02 Cc2 cl2 fp2
      refine (hin s2 H02 Cc2 cl2 fp2).1 _ _ H6 x6 (((sl3.mono f4.mv).mono m5).wipe vs1) (rd6.mono m5) _ fun σ7 sl7 but7 => ⟨But.wiped but7 hws1, ?_⟩
      rw [if_pos rfl]
      intro s3 H03 Cc3 cl3 fp3
      refine (hin s3 H03 Cc3 cl3 fp3).2 (fun d L' => d = xs[j] ∧ L' = L4) ⟨rfl, rfl⟩ _ σ7 H6 ⟨sl7, c5, ⟨fun _ _ _ _ _ _ _ _ _ _ _ z => z.elim⟩⟩ _ fun {F8} v8 d8 H8 L8 r8 c8 f8 ⟨ed, eL⟩ => ?_
      subst ed eL
      obtain ⟨_, f8t, h8t⟩ := f8.hid h5t (fun _ z => nomatch z) l1t f5t
      have et : xs.take (j + 1) = xs.take j ++ [xs[j]] := by rw [List.take_add_one, List.getElem?_eq_getElem hjl]; rfl
      have st : Stay H8 (upd H8 t (.lst (vacc5 ++ [v8]))) := .lst h8t
      have ra8 := ra5.mono f8.mv
      have hl8 := ra8.length
      rw [List.length_append, List.length_take] at hl8
      refine ⟨vacc5, h8t, by omega, F8, vacc5 ++ [v8], c8.hid st l1t f8t, (f5.trans f8).hidw ht f1t st, (m5.trans f8.mv).trans (.hid st f8t), f8t, upd_same, ?_⟩
      rw [et, ← List.append_assoc]
      exact (ra8.append (.cons r8 .nil)).mono (.hid st f8t)
    · have e : j = xs.length := by omega
      subst e
      rw [List.take_length] at ra5
      exact .inl ⟨⟨vs, sq, by omega⟩, F5, vacc5, c5, f5, f5t, h5t, ra5⟩
  · have e : i = ds.length := by omega
    subst e
    rw [List.take_length] at ra
    exact .inl ⟨k2 rfl, go _ _ H2 (put L1 t (.lst (ds.flatMap ys))) (.ptr t) (c2.shw f2t ⟨vacc, h2t, ra, hz⟩) ((f1.trans f2).shw (f1.nul ht)) (q t l1t)⟩
/-- y = [elt for k, v in e.items() for x in iter1] -/
theorem as_items2 (n : Nat) (own : List (Str × Nat)) (vs1 : List Nat) {y : Str} {py spos apos cpos tpos : Pos} {kk : Nat} {elts : List Expr} {scope : Scope} (hd : DR L d kds) (hi : ∀ L', (L' = L ∨ ∃ t, d = .ptr t ∧ L' = del L t) → AV C e Γ L' d) (ys : D → List D) (hz : ((kds.map itD).flatMap ys).length ≤ sizeLine)
    (hf : ∀ L', Le L' L → ∀ x ∈ kds, Two C scope Γ L' (.Tuple elts kk tpos) tg1 iter1 elt (own.map (·.2)) vs1 (itD x) (ys (itD x))) (q : ∀ p, L p = none → E.nx (Γ.set n (some (.ptr p))) (put L p (.lst ((kds.map itD).flatMap ys))))
    (hy : C.X.N[n]? = some y := by rfl) (hyl : C.X.env.scope.names.lookup y = some .local := by rfl) (hsw : swapsWith (.ListComp elt [⟨.Tuple elts kk tpos, .Call (.Attribute e "items" apos) [] [] cpos, [], 0⟩, ⟨tg1, iter1, [], 0⟩] scope pos) (some (.Name y py)) spos.line C.X.env = pure true := by exact sw_true rfl rfl rfl (by decide +kernel))
    (ok : BlkOk C.X.N C.X.env.scope scope own := by (dsimp only [fctx, bctx, cxOf, envOfC, compEnvC, Cx.blk]; exact blkOk_by (by decide +kernel))) (hv : ∀ i ∈ vs1, i ∈ own.map (·.2) := by decide) (hs : ∀ x, foldedSetIterable (.Call (.Attribute e "items" apos) [] [] cpos) C.X.env x = pure x := by intro _; rfl) (hs1 : ∀ env x, foldedSetIterable iter1 env x = pure x := by intro _ _; rfl)
    (hbase : attributeBase e "items" C.X.env (eval e C.X.env) = eval e C.X.env := by rfl) (hline : (apos.endLine == cpos.line) = true := by rfl) :
    AS C (.Assign [.Name y py] (.ListComp elt [⟨.Tuple elts kk tpos, .Call (.Attribute e "items" apos) [] [] cpos, [], 0⟩, ⟨tg1, iter1, [], 0⟩] scope pos) spos) Γ L E := by
  have ps := ps_setLc2 (wi := WI C.X (.Tuple elts kk tpos) (.Call (.Attribute e "items" apos) [] [] cpos)) (g := gB C scope (.Tuple elts kk tpos)) (tt := tYes) (wi1 := wiB C scope tg1 iter1) (g1 := gB C scope tg1) (tt1 := tYes) (te := teB C scope elt) C.calm C.nd hy hyl hsw pi_wi ok hv
    (fun s H0 Cc cl fp => ⟨fun pins s1 σ1 H1 v u Q1 I r q => (q s H0 Cc cl fp).run pins s1 u I r⟩) (fun s H0 Cc cl fp => pts_nil) (fun s H0 Cc cl fp => ⟨fun pins s1 σ1 H1 Q1 I q => (q s H0 Cc cl fp).run pins s1 I⟩) (fun s H0 Cc cl fp => ⟨fun pins s1 σ1 H1 v u Q1 I r q => (q s H0 Cc cl fp).run pins s1 u I r⟩) (fun s H0 Cc cl fp => pts_nil) (fun s H0 Cc cl fp => ⟨fun pins s1 σ1 H1 Q1 I q => (q s H0 Cc cl fp).run pins s1 I⟩) hs hs1
  intro F σ H okk DD go
  rcases hd with ⟨t, rfl, ht⟩ | rfl
  · obtain ⟨kvs, e0, rr, hk⟩ := okk.con.at_ t _ ht
    have nft := okk.con.nw ht
    refine ws_of (ps_lock ps) ⟨t, .dT kvs, e0, True.intro, fun od => ?_⟩
    have ne : ∀ b u, H b = some u → (∀ k, u ≠ .dT k) → b ≠ t := fun b u eb nd z => by rw [z, e0] at eb; exact nd _ (Option.some.inj eb).symm
    have st : Stay H (upd H t (.frz od (.dT kvs))) := ⟨fun b vs eb => by rw [upd_ne (ne b _ eb fun _ z => nomatch z)]; exact eb, fun b o xs eb => by rw [upd_ne (ne b _ eb fun _ z => nomatch z)]; exact eb, fun b eb => by rw [upd_ne (ne b _ eb fun _ z => nomatch z)]; exact eb⟩
    have mv : Mv F H F (upd H t (.frz od (.dT kvs))) := .hid st nft
    have fr : Fr L F H (del L t) F (upd H t (.frz od (.dT kvs))) := ⟨fun b u eb _ nb => by rw [upd_ne (fun z => by rw [z, ht] at nb; cases nb)]; exact eb, fun b z => upd_live z, st, fun b z => .inl ((del_le t).ne z), mv.fz, mv.fk, fun b z => .inl z⟩
    have c1 : C.Con (del L t) F (upd H t (.frz od (.dT kvs))) := ((okk.con.le (del_le t)).hid st del_same nft)
    have ok1 : Ok C Γ (del L t) F σ (upd H t (.frz od (.dT kvs))) := ⟨okk.sl.mono mv, c1, okk.lr.step fr⟩
    have rr1 := KDs.mono mv rr
    refine lc2_read (Q := fun d L2 => ∃ q, d = .ptr q ∧ del L t q = none ∧ L2 = put (del L t) q (.lst ((kds.map itD).flatMap ys))) ok1 (fun {F9} v d H' L' r c f2 ⟨q', ed, hq, eL⟩ => ?_) (fun RV g2 => ?_)
    · subst ed eL
      obtain ⟨lt, ft, ht'⟩ := f2.hid upd_same (fun _ z => nomatch z) del_same nft
      have hqt : q' ≠ t := fun z => by rw [z, put_same] at lt; cases lt
      obtain ⟨mv2, c2⟩ := unlock c ht' ft (KDs.mono f2.mv rr1) hk
      rw [put_del ht hq hqt] at c2
      have hq0 : L q' = none := by rw [del_ne hqt] at hq; exact hq
      have fr2 : Fr L F H (put L q' (.lst ((kds.map itD).flatMap ys))) F9 (upd H' t (.dT kvs)) := by
        refine ⟨fun b u eb no nb => ?_, fun b z => upd_live (f2.live b (upd_live z)), (st.trans f2.stay).trans mv2.stay, fun b z => ?_, fun b z => f2.fz b z, fun b u z eb => mv2.fk b u (f2.fz b z) (f2.fk b u z (mv.fk b u z eb)), fun b z => ?_⟩
        · have hb : b ≠ t := fun z => by rw [z, ht] at nb; cases nb
          rw [upd_ne hb]
          exact f2.keep b u (by rw [upd_ne hb]; exact eb) no (by rw [del_ne hb]; exact nb)
        · by_cases hb : b = q'
          · rw [hb]
            rcases f2.dom q' (by rw [put_same]; simp) with z2 | z2
            · exact absurd hq z2
            · rw [upd_ne hqt] at z2
              exact .inr z2
          · rw [put_ne hb] at z
            exact .inl z
        · rcases f2.off b z with z | z | z
          · exact .inl z
          · exact .inr (.inl ((del_le t).ne z))
          · by_cases hb : b = t
            · rw [hb, upd_same] at z; cases z
            · rw [upd_ne hb] at z
              exact .inr (.inr z)
      exact ⟨ht', go.nx _ _ _ _ ⟨(okk.sl.mono fr2.mv).set n (r.mono mv2), c2, okk.lr.step fr2⟩ fr2 (q q' hq0)⟩
    · refine wi_of (pi_itT pe_we hbase hline) (hi (del L t) (.inr ⟨t, rfl, rfl⟩) (fun d L2 => d = .ptr t ∧ L2 = del L t) ⟨rfl, rfl⟩ _ σ _ ok1 _ fun v d H2 L2 r2 c2 f2 ⟨ed, eL⟩ => ?_)
      subst ed eL
      have ht2 := f2.keep t _ upd_same (fun _ z => nomatch z) del_same
      refine ⟨t, od, kvs, r2.ptrE, ht2, g2 _ H2 _ (kds.map itD) (fun _ => True) c2 f2 (itit_is (fun F3 L3 H3 s => s.keep t _ ht2 (fun _ z => nomatch z) del_same) (KDs.mono f2.mv rr1) hk) ⟨trivial, ys, hz, fun d hd => ?_, fun p hp => ⟨p, rfl, hp, rfl⟩⟩⟩
      obtain ⟨x, hx, rfl⟩ := List.mem_map.mp hd
      exact hf _ (del_le t) x hx
  · refine ws_of ps (lc2_read (Q := fun d L1 => E.nx (Γ.set n (some d)) L1) okk (fun v d H1 L1 r c f q => go.nx _ H1 _ L1 ⟨(okk.sl.mono f.mv).set n r, c, okk.lr.step f⟩ f q) fun RV g2 => ?_)
    refine wi_of (pi_itT pe_we hbase hline) (hi L (.inl rfl) (fun d L2 => d = .fdct kds ∧ L2 = L) ⟨rfl, rfl⟩ _ σ H okk _ fun v d H1 L1 r c f ⟨ed, eL⟩ => ?_)
    subst ed eL
    obtain ⟨a, kvs, ea, hrd, rr, hk⟩ := DR.fz.at_ c r
    cases r with
    | @fdct a' kvs' _ o hl ha hk' hn he hi =>
      cases ea
      have ekv : kvs = kvs' := by
        rcases hrd with z | ⟨o', z⟩
        · rw [ha] at z; cases z
        · rw [ha] at z; cases z; rfl
      subst ekv
      refine ⟨_, o, kvs, rfl, ha, g2 _ H1 L1 _ (fun _ => True) c f (itit_is (fun F2 L2 H2 s => s.fk _ _ hl ha) rr hk) ⟨trivial, ys, hz, fun d hd => ?_, q⟩⟩
      obtain ⟨x, hx, rfl⟩ := List.mem_map.mp hd
      exact hf _ (.refl _) x hx
end
end DL
namespace DL
open PySem PySem.Spec PyProof.Rows L2
section
variable {P : Program} {w : World} {A : Around} {E : Value → Shared → Prop} {s : Shared}
set_option maxHeartbeats 3200000 in
theorem call_setX_tup {l : Addr} {items : Array Value} (xs : List Str) {Q : Value → Shared → Prop} (hh : A.handled = none) (hl : s.heap.IsTuple l items) (hit : StrsAre items.toList xs) (hb : xs.length + 1 < scanBound)
    (h : ∀ (h' : Heap) (tk c : Nat), SetX w h' s.heap.objs.size (fun j => decide (j ∈ xs)) c → c ≤ xs.length → (∀ b o, s.heap.get? b = some o → h'.get? b = some o) → Q (.ref s.heap.objs.size) { s with heap := h', toks := tk }) :
    wpAny (model P w) A (call (.type "set") [.ref l]) Q E s := by
  have hisz : items.size = xs.length := by rw [← StrsAre.len_eq hit, Array.length_toList]
  obtain ⟨c0, tl, hmro⟩ := PySem.F.called_set.mro
  have k_made := PySem.F.called_set.made
  have k_sub := PySem.F.called_set.sub
  refine wpAny_call (codeAny_of_tree ?_)
  show wpAny _ _ (callAny (.type "set") _) _ _ _
  refine wpAny_pure ⟨Code.quiet_builtin _ (by decide +kernel), codeAny_builtin PySem.F.entry_type_call ?_⟩
  rw [Around.under_plain (weight_type_call_type "set" [.ref l] []) rfl]
  have k_1 := PySem.F.called_set.notType
  have k_2 := PySem.F.called_set.canCreate
  have k_3 := PySem.F.typeCall_set_1 (.ref l)
  repeat (any_goals (first | assumption | wp_step))
  refine codeAny_mono (code_set_led1 (.ref l) (E := E) (Q₁ := fun ob s₁ => ob = .ref s.heap.objs.size ∧ s₁ = { s with heap := s.heap.push (freshS w) }) ⟨rfl, rfl⟩) fun r s₁ hr => ?_
  cases r with
  | error e => exact hr
  | ok fl =>
    cases fl with
    | ret ob =>
      obtain ⟨rfl, rfl⟩ := hr
      have hS : (s.heap.push (freshS w)).get? s.heap.objs.size = some (freshS w) := Heap.get?_push_size _ rfl
      have hT : Shared.TypeIs { s with heap := s.heap.push (freshS w) } (.ref s.heap.objs.size) "set" := ⟨_, hS, rfl⟩
      have k_4 := PySem.F.called_set.init.lookup
      have k_5 := PySem.F.called_set.init.bind (.ref s.heap.objs.size)
      repeat (any_goals (first | assumption | wp_step))
      refine codeAny_mono (codeAny_call_builtin (R := wants (fun r s₂ => r = .none ∧ ∃ h' tk c, s₂ = { s with heap := h', toks := tk } ∧ SetX w h' s.heap.objs.size (fun j => decide (j ∈ xs)) c ∧ c ≤ xs.length ∧
          (∀ b o, s.heap.get? b = some o → h'.get? b = some o)) E) PySem.F.called_set.init.plain PySem.F.entry_set_init (check_set_init_1 hT ?_)) fun r₂ s₂ hr₂ => ?_
      · obtain ⟨ol, hol, hcl, nl, hdl⟩ := hl
        obtain ⟨ocls, odict, odata, oslots⟩ := ol
        simp only at hcl hdl
        subst hcl; subst hdl
        have hol' : (s.heap.push (freshS w)).get? l = some { cls := .type "tuple", dict := odict, data := .seq items nl, slots := oslots } := Heap.get?_push_of_some _ hol
        have k_6 := PySem.F.sub_tuple_set
        have k_7 := PySem.F.sub_tuple_frozenset
        have k_8 : (Value.type "tuple" == Value.type "dict") = false := by decide
        have hl1 : (s.heap.push (freshS w)).IsTuple l items := ⟨_, hol', rfl, nl, rfl⟩
        unfold Builtin.«set.__init__» noKeywords Builtin.Frozenset.updateFrom
        generalize hPI : pyIter = PI
        wp_walk
        subst hPI
        refine wpAny_pyIter_tuple hl1 ?_
        refine wpAny_bind (wpAny_runValue ?_)
        have hlS : l < s.heap.objs.size := Heap.lt_size hol
        have hh3 : A.in1.in1.in1.handled = none := by simp [hh]
        have hz1 : (s.heap.push (freshS w)).objs.size = s.heap.objs.size + 1 := Heap.size_push ..
        have hneI : l ≠ (s.heap.push (freshS w)).objs.size := by
          rw [hz1]; exact Nat.ne_of_lt (Nat.lt_succ_of_lt hlS)
        have hSf : s.heap.objs.size ∉ [(s.heap.push (freshS w)).objs.size, l] := by
          rw [hz1]; simp only [List.mem_cons, List.not_mem_nil, or_false, not_or]
          exact ⟨Nat.ne_of_lt (Nat.lt_succ_self _), Nat.ne_of_gt hlS⟩
        have hval : ∀ (i : Nat) (v : Value), items[i]? = some v → ∃ k t, xs[i]? = some k ∧ v = .str k t := fun i v hv => by
          have hi : i < xs.length := by rw [← hisz]; exact (Array.getElem?_eq_some_iff.mp hv).1
          obtain ⟨t, e⟩ := SS.strs_at hit i v (by rw [Array.getElem?_toList]; exact hv)
          refine ⟨xs[i], t, List.getElem?_eq_getElem hi, ?_⟩
          rw [e, List.getD_eq_getElem?_getD, List.getElem?_eq_getElem hi] <;> rfl
        refine setX_loop ((Walks.tuple hh3 _ l hneI items).toS) s.heap.objs.size
          hSf xs hisz hb hval (items.size - 0) 0 _ (by omega) (Nat.zero_le _)
          ⟨⟨_, Heap.get?_push_size _ rfl, rfl, rfl⟩, (hl1.at fun o z => Heap.get?_push_of_some _ z)⟩ ?hS0 ?hR
        case hS0 =>
          refine ⟨0, Nat.le_refl 0, (setX_fresh (Heap.get?_push_of_some _ hS)).congr fun k => ?_⟩
          simp
        case hR =>
          intro s' c' hm hc' hS'
          obtain ⟨h', g2, d', tk', os'⟩ := s'
          obtain rfl : g2 = s.gens := hm.gens
          obtain rfl : d' = s.drawn := hm.drawn
          obtain rfl : os' = s.os := hm.os
          show wpAny _ _ _ _ _ _
          refine wpAny_pure ?_
          show wpAny _ _ (ret Value.none) _ _ _
          rw [hisz] at hc'
          refine wpAny_pure ⟨rfl, h', tk', c', rfl, hS', hc', fun b o e => ?_⟩
          have hb0 : b < s.heap.objs.size := Heap.lt_size e
          refine hm.heap b o ?_ (Heap.get?_push_of_some _ (Heap.get?_push_of_some _ e))
          rw [hz1]
          simp only [List.mem_cons, List.not_mem_nil, or_false, not_or]
          exact ⟨Nat.ne_of_lt hb0, Nat.ne_of_lt (Nat.lt_succ_of_lt hb0)⟩
      · cases r₂ with
        | error e => exact hr₂
        | ok fl₂ =>
          cases fl₂ with
          | ret r =>
            obtain ⟨rfl, h', tk, c', rfl, hS', hc', hk'⟩ := hr₂
            repeat (any_goals (first | assumption | wp_step))
            exact h _ _ _ hS' hc' hk'
          | _ => exact hr₂.elim
    | _ => exact hr.elim
end
section
variable {X : Cx}
/-- set(tuple of texts) -/
abbrev rSetT (K : PySem.W.Frag) (w : World) : List V → Hp → VK → Prop := fun vs H Q => ∃ (l : Addr) (xs : List Str), vs = [.ref l] ∧ SqT K H l (xs.map V.str) ∧ xs.length + 1 < scanBound ∧
  ∀ a n, H a = none → n ≤ xs.length → Q (.ref a) (upd H a (.ext fun h => SetX w h a (fun k => decide (k ∈ xs)) n))
theorem cr_setT (hc : X.calm = true) : CallR X (.type "set") (rSetT X.K X.w) := fun pins s σ H vs us Q I r ⟨l, xs, ev, hl, hb, q⟩ => by
  subst ev
  obtain ⟨u, rfl, ru⟩ := vals1 r
  obtain rfl : u = Value.ref l := ru
  obtain ⟨its, rv, pl, hz⟩ := I.tuple hl
  have hn : H s.heap.objs.size = none := I.hok.fresh (Nat.le_refl _)
  refine call_setX_tup (P := X.prog) (w := X.w) xs (I.ok.hd hc) pl (by simpa using strs_vals rv) hb fun h' tk c R hle k => ?_
  exact ⟨.ref s.heap.objs.size, _, I.laid (t' := tk) k (Nat.le_refl _) (setX_obj R), rfl, q _ c hn hle⟩
end
section
variable {C : DL.Ctx} {Γ : Gm} {L : Lp} {Q : D → Lp → Prop} {x y : D}
theorem c_setT {xs : List Str} (hb : xs.length + 1 < scanBound) (q : ∀ l n, L l = none → n ≤ xs.length → Q (.ptr l) (put L l (.txs (fun k => decide (k ∈ xs)) n))) : LcR C (rSetT C.X.K C.X.w) [.tup (xs.map D.str)] L Q := fun F vs H c r0 QV go => by
  obtain ⟨v, rfl, r⟩ := r0.oneE
  obtain ⟨p, ws, rfl, ha, ra⟩ := r.tupE
  have e := reps_strs ra
  subst e
  refine ⟨p, xs, rfl, SqT.of ha, hb, fun l n hl hn => go _ _ _ (put L l (.txs (fun k => decide (k ∈ xs)) n)) (.ptr l) (c.newL hl ⟨upd_same, fun k hk => ?_⟩) (.newL hl) (q l n (c.free hl) hn)⟩
  obtain ⟨i, hi⟩ := List.getElem?_of_mem (of_decide_eq_true hk)
  obtain ⟨v, _, rv⟩ := ra.get (show (xs.map D.str)[i]? = some (.str k) by rw [List.getElem?_map, hi]; rfl)
  exact rv.bnd
/-! lists of plain data, == and != -/
theorem LR.dp {ds : List D} {F : Fz} {H : Hp} {v : V} (h : LR L x ds) (c : C.Con L F H) (r : Rep C.X.K F H v x) (ok : okDs ds = true) : Dp C.X.K H v (.list (pys ds)) ∧ (PyData.list (pys ds)).canLay0 = true := by
  obtain ⟨a, vs, rfl, ha, ra, _⟩ := h.at_ c r
  obtain ⟨h1, h2⟩ := Reps.dp ds vs ok ra
  exact ⟨.lst (SqL.of ha) h1, by rw [PyData.canLay0]; exact h2⟩
theorem dep_list {α : Type} [Enc α] (xs : List α) (h : Enc.dep α ≤ 63) : (PyData.list (pys (xs.map (Enc.enc (α := α))))).depth ≤ 64 := by
  have := depAll (ds := pys (xs.map (Enc.enc (α := α)))) (n := 63) fun d hd => by
    rw [pys_map] at hd
    obtain ⟨z, _, rfl⟩ := List.mem_map.mp hd
    exact Nat.le_trans (Enc.dpt z) h
  have e : (PyData.list (pys (xs.map (Enc.enc (α := α))))).depth = (PyData.tuple (pys (xs.map (Enc.enc (α := α))))).depth := by simp only [PyData.depth]
  rw [e]
  exact this
theorem eqv_list {α : Type} [Enc α] [DecidableEq α] (xs ys : List α) : PyData.eqv (.list (pys (xs.map (Enc.enc (α := α))))) (.list (pys (ys.map Enc.enc))) = decide (xs = ys) := by
  have h := eqv_dec (α := List α) xs ys
  rw [← h]
  show _ = PyData.eqv (py (.tup _)) (py (.tup _))
  rw [py, py]
  simp only [PyData.eqv]
theorem eq_LL {α : Type} [Enc α] [DecidableEq α] {xs ys : List α} (hx : LR L x (xs.map Enc.enc)) (hy : LR L y (ys.map Enc.enc)) (q : Q (.bl (decide (xs = ys))) L) (h : Enc.dep α ≤ 63 := by decide) : L2R C (rEqA C.X.K) x y L Q := by
  unfold rEqA
  refine .ri fun F vx vy H c rx ry QV go => ?_
  obtain ⟨a1, a2⟩ := hx.dp c rx (plDs_ok _ (plDs_map _ _ fun z _ => Enc.pl z))
  obtain ⟨b1, b2⟩ := hy.dp c ry (plDs_ok _ (plDs_map _ _ fun z _ => Enc.pl z))
  refine ⟨_, _, a1, b1, shaped_of a2 (dep_list xs h), shaped_of b2 (dep_list ys h), ?_⟩
  rw [eqv_list]
  exact go _ _ H L (.bl _) c (.refl L H) q
theorem ne_LL {α : Type} [Enc α] [DecidableEq α] {xs ys : List α} (hx : LR L x (xs.map Enc.enc)) (hy : LR L y (ys.map Enc.enc)) (q : Q (.bl (!decide (xs = ys))) L) (h : Enc.dep α ≤ 63 := by decide) : L2R C (rNeA C.X.K) x y L Q := by
  unfold rNeA
  refine .ri fun F vx vy H c rx ry QV go => ?_
  obtain ⟨a1, a2⟩ := hx.dp c rx (plDs_ok _ (plDs_map _ _ fun z _ => Enc.pl z))
  obtain ⟨b1, b2⟩ := hy.dp c ry (plDs_ok _ (plDs_map _ _ fun z _ => Enc.pl z))
  refine ⟨_, _, a1, b1, shaped_of a2 (dep_list xs h), shaped_of b2 (dep_list ys h), ?_⟩
  rw [eqv_list]
  exact go _ _ H L (.bl _) c (.refl L H) q
theorem ne_B {a b : Bool} (q : Q (.bl (a != b)) L) : L2R C (rNeA C.X.K) (.bl a) (.bl b) L Q := by
  refine ne_D rfl rfl (by cases a <;> decide) (by cases b <;> decide) ?_
  have e : (!PyData.eqv (py (.bl a)) (py (.bl b))) = (a != b) := by cases a <;> cases b <;> decide
  rw [e]
  exact q
end
end DL
namespace DL
open PySem PySem.Spec PyProof.Rows L2
/-! ### defs that call repr: no repr is under way around them -/
/-- as FnA, where no repr is under way -/
def FnG (P : Program) (w : World) (K : PySem.W.Frag) (mg : Str → Option Value) (base : Heap) (k : Nat) (f : Addr) (sp : SpA) : Prop :=
  ∀ (A : Around) (outer : List Env) (s : Shared) (H : Hp) (us : List Value) (vs : List V) (Q : VK) (E : XK), Room k A → A.guards = some [] → Env0 P w K mg base A outer s H → Vals vs us → toSp P w K sp vs H Q E → codeAny (model P w) A (.call (.ref f) ⟨us, []⟩) (CR (L2.CX P w) outer P w H s Q E) s
structure DefG (P : Program) (w : World) (K : PySem.W.Frag) (mg : Str → Option Value) (base : Heap) (x : Str) (k : Nat) (sp : SpA) : Prop where
  ex : ∃ f, mg x = some (.ref f) ∧ PySem.W.keepIn K (.ref f) = true ∧ FnG P w K mg base k f sp
theorem guards_deeper (A : Around) (env : Env) : (A.deeper env).guards = A.guards := by
  first | rfl | simp [Around.deeper]
section
variable {P : Program} {w : World} {K : PySem.W.Frag} {mg : Str → Option Value} {base : Heap} {x qual : Str} {st : Stmt} {f : Addr} {fd : FuncData} {N ps : List Str} {k : Nat} {sp : SpA}
/-- the rule for such a def -/
theorem fnG0 (F : Fun K x qual st f fd) (S : FnScope N ps (defScope st))
    (hbody : ∀ (cdv : Value) (A : Around) (outer : List Env) (s : Shared) (H : Hp) (E : XK) (ds : List D) (L : Lp) (Q : D → Lp → Prop) (R : Value → List (Str × D) → Lp → Prop), Room k (A.deeper (envOfC qual (defScope st) s.heap.objs.size f cdv)) → (A.deeper (envOfC qual (defScope st) s.heap.objs.size f cdv)).guards = some [] → sp ds L Q R →
      ASs (fctx P w K mg base N qual (defScope st) f cdv A outer s H E S.nd R) (defBody st) (startG N ds) L (endsOf Q))
    (len : ∀ ds L Q R, sp ds L Q R → ds.length = ps.length) {A : Around} {outer : List Env} {s : Shared} {H : Hp} {us : List Value} {vs : List V} {Q : VK} {E : XK} {args : Args} (hr : Room (k + 1) A) (hg : A.guards = some []) (e0 : Env0 P w K mg base A outer s H) (hb : BindsTo s fd args (ps.zip us)) (r : Vals vs us) (h : toSp P w K sp vs H Q E) :
    codeAny (model P w) A (.call (.ref f) args) (CR (L2.CX P w) outer P w H s Q E) s := by
  obtain ⟨oc, od, kV, doc, pm, an, cdv, ct, osl, rfl, lk, hcd⟩ := F.ex
  obtain ⟨ds, L, Z, Q', R', rd, c, hsp, hq, he⟩ := h
  have hl : vs.length = ps.length := by rw [rd.length]; exact len _ _ _ _ hsp
  have up : ∀ b o, base.get? b = some o → s.heap.get? b = some o := fun b o z => (e0.bs b o z).1
  have KX : K.In s.heap := e0.mod.kin.keeps up
  have kinds : ∀ y ∈ ps.zip us, (defScope st).names.lookup y.1 = some .local ∨ ((defScope st).names.lookup y.1 = some .cell ∧ ((cellsFrom (s.heap.objs.size + 1) (defScope st).names []).lookup y.1).isSome = true) := fun y hy =>
    (S.par y.1 (List.of_mem_zip (a := y.1) (b := y.2) hy).1).imp id fun z => ⟨z, PySem.W.cellsFrom_some _ _ _ (.inl z)⟩
  refine codeAny_call_function hr.depth (KX _ _ lk) rfl S.co S.gen rfl (PySem.W.codeRec_of KX hcd) (hb _ _ _ _ (wpAny_newFunctionEnv_cells S.kind kinds fun env ee s1 z => ?_))
  subst ee
  refine ⟨(e0.mod.nolimit.keeps up).keeps z.toInCall.keep, codeAny_func ?_⟩
  have body := hbody cdv A outer s H E ds L Q' R' (hr.deeper _) ((guards_deeper _ _).trans hg) hsp _ (L2.start N vs) H ⟨sl_start rd, c, ⟨fun cls d σ' H' Γ' L' fs _ c' f' xd q => he cls fs L' q d H' xd c' f'⟩⟩
    { nx := fun _ H' => Q .non H', rt := Q } ⟨fun σ' H' Γ' L' ok' f' ⟨L2, le, q⟩ => hq .non L2 q .non H' .non (ok'.con.le le) (f'.leR le), fun v d H' L' rv c' f' ⟨L2, le, q⟩ => hq d L2 q v H' rv (c'.le le) (f'.leR le), fun _ _ _ _ _ _ z => z.elim, fun _ _ _ _ _ _ z => z.elim⟩
  have I : Inv (cxOf (L2.CX P w) P w K mg base N qual (defScope st) f cdv A outer s H E) [] (L2.start N vs) H s1 := inv_start S hr.hd e0 hl r z
  refine wpAny_mono (body.run [] s1 I) (fun fl s' hs => ?_) fun _ _ z => z
  cases fl with
  | ret u => obtain ⟨v, σ', H', J, rv, q⟩ := hs; exact ⟨v, H', J.os, J.bare, J.base, J.hok, rv, q⟩
  | next => obtain ⟨σ', H', J, q⟩ := hs; exact ⟨.non, H', J.os, J.bare, J.base, J.hok, rfl, q⟩
  | brk => obtain ⟨_, _, _, q⟩ := hs; exact q.elim
  | cont => obtain ⟨_, _, _, q⟩ := hs; exact q.elim
end
end DL
namespace DL
open PySem PySem.Spec PyProof.Rows L2
theorem fnG {P : Program} {w : World} {K : PySem.W.Frag} {mg : Str → Option Value} {base : Heap} {x qual : Str} {st : Stmt} {f : Addr} {fd : FuncData} {N ps : List Str} {k : Nat} {sp : SpA} (F : Fun K x qual st f fd) (S : FnScope N ps (defScope st)) (hb : Binds K fd ps []) (len : ∀ ds L Q R, sp ds L Q R → ds.length = ps.length)
    (hbody : ∀ (cdv : Value) (A : Around) (outer : List Env) (s : Shared) (H : Hp) (E : XK) (ds : List D) (L : Lp) (Q : D → Lp → Prop) (R : Value → List (Str × D) → Lp → Prop), Room k (A.deeper (envOfC qual (defScope st) s.heap.objs.size f cdv)) → (A.deeper (envOfC qual (defScope st) s.heap.objs.size f cdv)).guards = some [] → sp ds L Q R →
      ASs (fctx P w K mg base N qual (defScope st) f cdv A outer s H E S.nd R) (defBody st) (startG N ds) L (endsOf Q)) : FnG P w K mg base (k + 1) f sp := fun A outer s H us vs Q E hr hg e0 r h => by
  have hl : us.length = ps.length := by
    obtain ⟨ds, L, Z, Q', R', rd, c, hsp, _⟩ := h
    rw [← r.length, rd.length]
    exact len _ _ _ _ hsp
  have b := hb s us (e0.mod.kin.keeps fun b o z => (e0.bs b o z).1) (by rw [List.append_nil]; exact hl)
  rw [List.append_nil] at b
  exact fnG0 F S hbody len hr hg e0 b r h
section
variable {C : DL.Ctx} {Γ : Gm} {L : Lp} {e : Expr} {es : List Expr} {p pos : Pos} {Q : D → Lp → Prop} {x : Str} {k : Nat} {sp : SpA}
theorem ae_callG (F : DefG C.X.prog C.X.w C.X.K C.X.mg C.X.base x k sp) (hr : Room k C.X.A) (hgd : C.X.A.guards = some []) (h : AA C (e :: es) Γ L fun ds L1 => sp ds L1 Q (C.R Γ)) (hg : Gl C.X x := by rfl) (hdb : (x == ("__debug__" : Str)) = false := by decide)
    (he : starEach (e :: es) C.X.env = (false, eval e C.X.env) :: starEach es C.X.env := by rfl) (hpl : (backTo pos (starEach es C.X.env)).any (·.1) = false := by rfl) : AE C (.Call (.Name x p) (e :: es) [] pos) Γ L Q := fun Z σ H ok QV go => by
  refine ⟨fun pins s I => ?_⟩
  obtain ⟨f, hm, hk, G⟩ := F.ex
  refine wpAny_Call_Name_kw (ld_glob I hg hm ?_ hdb)
  refine PySem.W.callWith_K (h₀ := C.X.base) I.ok.mod.kin hk (thn ((h _ σ H ok (fun vs H1 => ∃ ds L1 Z1, Reps C.X.K Z1 H1 vs ds ∧ C.Con L1 Z1 H1 ∧ Fr L Z H L1 Z1 H1 ∧ sp ds L1 Q (C.R Γ)) (fun vs ds H1 L1 r c f q => ⟨ds, L1, _, r, c, f, q⟩)).run pos pins s I) fun us s1 ⟨vs, H1, I1, r, ds, L1, Z1, rd, c1, f1, q⟩ => ⟨I1.kIn, wpAny_call ?_⟩) he hpl
  have ok1 := ok.step c1 f1
  have go1 : Go C L1 Z1 H1 Q QV := go.after f1
  refine codeAny_mono (G C.X.A C.X.stack s1 H1 us vs QV (L2.WE C.W σ) hr hgd I1.env0 r ⟨ds, L1, Z1, Q, C.R Γ, rd, ok1.con, q, fun d L' q v H' rv c f => go1 v d H' L' rv c f q, fun cls fs L' q d H' xd c f => ok1.lr.of cls d σ H' Γ L' fs (ok1.sl.mono f.mv) c f xd q⟩) fun r s' hq => ?_
  cases r with
  | error e => exact passAt C.tk σ pins H1 s1 e s' I1 hq
  | ok fl =>
    cases fl with
    | ret u => exact I1.after hq
    | next => exact hq.elim
    | brk => exact hq.elim
    | cont => exact hq.elim
end
/-! the law's own def, called from nowhere -/
theorem call_law {P : Program} {w : World} {K : PySem.W.Frag} {mg mb : Str → Option Value} {CX : CXT} {fa a : Addr} {s₁ : Shared} {vs : List Value} {ns : List Int}
    (KX : K.In s₁.heap) (hm : s₁.heap.Ns mainGlobals mg) (hb : s₁.heap.Ns builtinsNs mb) (hbb : ∀ x : Str, x ≠ "__name__" → mb x = bootBuiltins x) (hlim : s₁.heap.NoLimit) (hg : s₁.gens = #[])
    (ha : s₁.heap.get? a = some { cls := .type "list", data := .seq vs.toArray }) (hi : IntsAre vs ns) (hl : ns.length ≤ sizeLine) (hsy : ∃ mm, s₁.heap.Ns sysModules mm)
    (F : ∀ (base : Heap) (H : Hp), K.In base → base.Ns mainGlobals mg → (∃ o, base.get? sysModules = some o) → Env0 P w K mg base callerA [] s₁ H → Only H → SqL K H a (ns.map V.int) → codeAny (model P w) callerA (.call (.ref fa) ⟨[.ref a], []⟩) (CR CX [] P w H s₁ (fun v _ => v = .bl true) fun _ _ _ => False) s₁)
    (hX : ∀ H e s', CX [] H s₁ (fun _ _ _ => False) e s' → False) :
    codeAny (model P w) callerA (.call (.ref fa) ⟨[.ref a], []⟩) (fun r s' => r = .ok (.ret (.bool true)) ∧ OldK s₁.heap s'.heap ∧ s'.os = s₁.os ∧ AllBare s'.gens) s₁ := by
  have rv := vals_ints hi
  have main : ∀ H : Hp, Only H → SqL K H a (ns.map V.int) → HOk P w H s₁.heap → (∀ b, H b ≠ none → b = a) → (H a ≠ none → K.lookup a = none) →
      codeAny (model P w) callerA (.call (.ref fa) ⟨[.ref a], []⟩) (fun r s' => r = .ok (.ret (.bool true)) ∧ OldK s₁.heap s'.heap ∧ s'.os = s₁.os ∧ AllBare s'.gens) s₁ := by
    intro H hO hS hok hA hK
    have out : ∀ {b : Addr} {o : Obj}, s₁.heap.get? b = some o → (H b ≠ none → False) → (hidT s₁.heap H).get? b = some o := fun {b o} z nz => hidT_get z (by
      cases q : H b with
      | none => rfl
      | some u => exact (nz (by rw [q]; simp)).elim)
    have nsk : ∀ {b : Addr} {m : Str → Option Value}, s₁.heap.Ns b m → (hidT s₁.heap H).Ns b m := fun {b m} h => by
      obtain ⟨o, es, ep, z, d, r⟩ := h
      refine ⟨o, es, ep, out z fun nz => ?_, d, r⟩
      have eb := hA b nz
      rw [eb, ha] at z
      cases z
      cases (show Data.seq vs.toArray _ = Data.dict es ep from d)
    have kb : K.In (hidT s₁.heap H) := fun b o z => out (KX b o z) fun nz => by
      have eb := hA b nz
      rw [eb] at z nz
      rw [hK nz] at z
      cases z
    have md : Mod K mg (hidT s₁.heap H) := ⟨kb, nsk hm, ⟨mb, nsk hb, hbb⟩, let ⟨mc, h1, h2⟩ := hlim; ⟨mc, nsk h1, h2⟩⟩
    have e0 : Env0 P w K mg (hidT s₁.heap H) callerA [] s₁ H := ⟨rfl, md, fun b o z => of_hidT z, Nat.le_of_eq (hidT_size _ _), trivial, (fun b z => nomatch z), hok, .of_eq hg⟩
    refine codeAny_mono (F _ H kb (nsk hm) (let ⟨_, z⟩ := hsy; let ⟨o, _, _, e, _⟩ := nsk z; ⟨o, e⟩) e0 hO hS) fun r s' hr => ?_
    match r, hr with
    | .error e, hr => exact (hX H e s' hr).elim
    | .ok (.ret u), ⟨v, H', os, bare, un, hok', ru, ev⟩ =>
      subst ev
      cases (show u = Value.bool true from ru)
      refine ⟨rfl, OldK.of_keep fun b o z => ?_, os, bare⟩
      rcases hO b with q | ⟨ob, xs, q⟩
      · exact un.keep b o z q (fun zz => nomatch zz) (by simp)
      · obtain ⟨e1, _⟩ := hok b _ q
        obtain ⟨e2, _⟩ := hok' b _ (un.frzs b ob _ q)
        rw [z] at e1
        cases e1
        exact e2
  cases hk : K.lookup a with
  | some o =>
    have z := KX a o hk
    rw [ha] at z
    cases z
    exact main (fun _ => none) (fun _ => .inl rfl) (.inr ⟨_, vs.toArray, _, hk, rfl, rfl, rfl, by rw [List.size_toArray, hi.length]; exact hl, by simpa using rv⟩) (fun b u z => nomatch z) (fun b z => (z rfl).elim) fun z => (z rfl).elim
  | none =>
    have at1 : upd (fun _ => none) a (.frz { cls := .type "list", data := .seq vs.toArray } (.lst (ns.map V.int))) a = some (.frz { cls := .type "list", data := .seq vs.toArray } (.lst (ns.map V.int))) := upd_same
    have at2 : ∀ b, b ≠ a → upd (fun _ => none) a (.frz { cls := .type "list", data := .seq vs.toArray } (.lst (ns.map V.int))) b = none := fun b nb => upd_ne nb
    refine main (upd (fun _ => none) a (.frz { cls := .type "list", data := .seq vs.toArray } (.lst (ns.map V.int)))) (fun b => ?_) (.inl (.inr ⟨_, at1⟩)) (fun b u z => ?_) (fun b z => ?_) fun _ => hk
    · by_cases eb : b = a
      · subst eb; exact .inr ⟨_, _, at1⟩
      · exact .inl (at2 b eb)
    · by_cases eb : b = a
      · subst eb
        rw [at1] at z
        cases z
        exact ⟨ha, by rw [List.length_map]; exact hl, vs, _, rv, ha⟩
      · rw [at2 b eb] at z
        cases z
    · exact Classical.byContradiction fun eb => z (at2 b eb)
theorem walk_G {l : PySem.W.OpenLaw} {n k : Nat} {q : Program} {loose : List Str} {XP : (Str → Option Value) → Heap → Prop} {YP : World → Heap → Prop} {d : DefRec} {K : Params → PySem.W.Frag} {sp : SpA}
    (hn : l.most = some n) (hn2 : n ≤ sizeLine) (hdf : d.params.defaults = []) (hr : Room k callerA)
    (hY : ∀ (w : World) (h : Heap), YP w h → (K w.params).In h)
    (F : ∀ (w : World) (mg : Str → Option Value) (fa : Addr) (h : Heap), (K w.params).In h → h.Ns mainGlobals mg → mg d.name = some (.ref fa) → ∀ base : Heap, (K w.params).In base → base.Ns mainGlobals mg → (∃ o, base.get? sysModules = some o) → FnG l.prog w (K w.params) mg base k fa sp)
    (hsp : ∀ (ns : List Int) (Q : D → Lp → Prop) (R : Value → List (Str × D) → Lp → Prop), Q (.bl true) (fun _ => none) → sp [.ilst ns] (fun _ => none) Q R) (hin : importsNone q = true := by rfl) :
    PySem.W.WalkO q loose XP YP l.row.toRowW d [] (fun f vs => PySem.call f vs) := by
  refine Att.attach_call hn hdf fun w s₀ s₁ mg mb fa o pm cd doc a vs ns G Y ho hd hcd hmg hobj hints hlen hg => ?_
  have kx := hY w _ Y
  exact call_law (CX := L2.CX l.prog w) kx G.T.g G.T.b G.T.builtins G.T.nolimit hg hobj hints (Nat.le_trans hlen hn2) (let ⟨mm, z, _⟩ := (G.T.seer hin).mods; ⟨mm, z⟩) (fun base H kb hm hsy e0 hO hS => F w mg fa _ kx G.T.g hmg base kb hm hsy callerA [] s₁ H [.ref a] [.ref a] _ _ hr rfl e0 (.cons rfl .nil) (law_sp hO hS (hsp ns))) fun H e s' z => law_cx z
end DL
namespace DL
open PySem PySem.Spec PyProof.Rows L2
/-! ### data that can be shown: also frozen lists, frozen dicts of texts and numbers -/
def keyPy : Key → PyData
  | .inl i => .int i
  | .inr x => .str x
mutual
def pyE : D → PyData
  | .non => .none
  | .bl b => .bool b
  | .int i => .int i
  | .str x => .str x
  | .tup ds => .tuple (pyEs ds)
  | .flst ds => .list (pyEs ds)
  | .kdct kds => .dict (pyEk kds)
  | .ty _ => .none
  | .ptr _ => .none
  | .ilst _ => .none
  | .obj _ _ => .none
  | .fdct _ => .none
def pyEs : List D → List PyData
  | [] => []
  | d :: ds => pyE d :: pyEs ds
def pyEk : List (Key × D) → List (PyData × PyData)
  | [] => []
  | (k, d) :: r => (keyPy k, pyE d) :: pyEk r
end
mutual
def okE : D → Bool
  | .non => true
  | .bl _ => true
  | .int _ => true
  | .str _ => true
  | .tup ds => okEs ds
  | .flst ds => okEs ds
  | .kdct kds => okEk kds
  | .ty _ => false
  | .ptr _ => false
  | .ilst _ => false
  | .obj _ _ => false
  | .fdct _ => false
def okEs : List D → Bool
  | [] => true
  | d :: ds => okE d && okEs ds
def okEk : List (Key × D) → Bool
  | [] => true
  | (_, d) :: r => okE d && okEk r
end
theorem okEs_mem : ∀ {ds : List D}, okEs ds = true → ∀ d ∈ ds, okE d = true
  | d :: ds, h, x, hx => by
    rw [okEs, Bool.and_eq_true] at h
    rcases List.mem_cons.mp hx with rfl | hx
    · exact h.1
    · exact okEs_mem h.2 x hx
mutual
theorem okE_okD : ∀ d : D, okD d = true → okE d = true
  | .non, _ => by rw [okE]
  | .bl _, _ => by rw [okE]
  | .int _, _ => by rw [okE]
  | .str _, _ => by rw [okE]
  | .tup ds, h => by rw [okE]; rw [okD] at h; exact okEs_okD ds h
  | .ty _, h => by simp [okD] at h
  | .ptr _, h => by simp [okD] at h
  | .ilst _, h => by simp [okD] at h
  | .obj _ _, h => by simp [okD] at h
  | .flst _, h => by simp [okD] at h
  | .fdct _, h => by simp [okD] at h
  | .kdct _, h => by simp [okD] at h
theorem okEs_okD : ∀ ds : List D, okDs ds = true → okEs ds = true
  | [], _ => by rw [okEs]
  | d :: ds, h => by
    rw [okDs, Bool.and_eq_true] at h
    rw [okEs, okE_okD d h.1, okEs_okD ds h.2]
    rfl
end
section
variable {X : Cx} {pins : List (Addr × Obj)} {σ : L2.St} {H : Hp} {s : Shared} {Z : Fz}
/-- what is tracked is not sys.modules -/
theorem Inv.nsys (I : Inv X pins σ H s) (hs : ∃ o, X.base.get? sysModules = some o) {a : Addr} {u : HO} (ha : H a = some u) : a ≠ sysModules := fun e => by
  obtain ⟨o, ho⟩ := hs
  have := (I.bs _ _ ho).2
  rw [← e, ha] at this
  cases this
theorem key_reads {h : Heap} {k : Key} {v : Value} (e : keyIs k v = true) : Reads h v (keyPy k) [] := by
  rcases keyIs_shape e with ⟨i, t, rfl, rfl⟩ | ⟨x, t, rfl, rfl⟩
  · exact .int i t
  · exact .str x t
mutual
theorem Rep.rd (I : Inv X pins σ H s) (hs : ∃ o, X.base.get? sysModules = some o) : ∀ (d : D) (v : V) (u : Value), okE d = true → Rep X.K Z H v d → RelV v u → ∃ as, Reads s.heap u (pyE d) as ∧ sysModules ∉ as
  | .non, _, u, _, r, ru => by
    rw [r.nonE] at ru
    cases (show u = Value.none from ru)
    rw [pyE]
    exact ⟨[], .none, by simp⟩
  | .bl b, _, u, _, r, ru => by
    rw [r.blE] at ru
    cases (show u = Value.bool b from ru)
    rw [pyE]
    exact ⟨[], .bool b, by simp⟩
  | .int i, _, u, _, r, ru => by
    rw [r.intE] at ru
    obtain ⟨t, rfl⟩ := ru
    rw [pyE]
    exact ⟨[], .int i t, by simp⟩
  | .str x, _, u, _, r, ru => by
    rw [r.strE] at ru
    obtain ⟨t, rfl⟩ := ru
    rw [pyE]
    exact ⟨[], .str x t, by simp⟩
  | .tup ds, _, u, h, r, ru => by
    obtain ⟨a, vs, rfl, ha, ra⟩ := r.tupE
    cases (show u = Value.ref a from ru)
    rw [okE] at h
    obtain ⟨its, rv, ⟨o, ho, hc, n, hd⟩, _⟩ := I.tuple (SqT.of ha)
    obtain ⟨as, h1, h2⟩ := Reps.rd I hs ds vs its h ra rv
    rw [pyE]
    exact ⟨as, .tuple ho hc hd (by simpa using h1), h2⟩
  | .flst ds, _, u, h, r, ru => by
    cases r with
    | @flst a vs _ hl ha hz hn hi =>
      cases (show u = Value.ref a from ru)
      rw [okE] at h
      obtain ⟨its, rv, ⟨o, n, ho, hc, hd, hdt⟩, _⟩ := I.list (SqL.of ha)
      obtain ⟨as, h1, h2⟩ := Reps.rd I hs ds vs its h (Reps.of_get hn hi) rv
      rw [pyE]
      refine ⟨a :: as, .list ho hc hdt (by simpa using h1), fun z => ?_⟩
      rcases List.mem_cons.mp z with e | e
      · exact Inv.nsys I hs ha e.symm
      · exact h2 e
  | .kdct kds, _, u, h, r, ru => by
    cases r with
    | @kdct a kvs _ o hl ha hn he hi =>
      cases (show u = Value.ref a from ru)
      rw [okE] at h
      obtain ⟨_, hg, hx, es, ep, vs, hdt, hsz, kv, _, _, h1, h2, h3, h4, h5, h6⟩ := I.frzK ha
      rw [hg] at h1
      cases h1
      rw [hdt] at h3
      cases h3
      obtain ⟨as, bs, g1, g2, g3, g4⟩ := Repk.rd I hs kds kvs vs es.toList h hn he hi kv h5
      rw [pyE]
      refine ⟨_, .dict hg hx.1 hdt g1 g2, fun z => ?_⟩
      rcases List.mem_append.mp z with z | z
      · rcases List.mem_cons.mp z with e | e
        · exact Inv.nsys I hs ha e.symm
        · exact g3 e
      · exact g4 z
  | .ty _, _, _, h, _, _ => by simp [okE] at h
  | .ptr _, _, _, h, _, _ => by simp [okE] at h
  | .ilst _, _, _, h, _, _ => by simp [okE] at h
  | .obj _ _, _, _, h, _, _ => by simp [okE] at h
  | .fdct _, _, _, h, _, _ => by simp [okE] at h
theorem Reps.rd (I : Inv X pins σ H s) (hs : ∃ o, X.base.get? sysModules = some o) : ∀ (ds : List D) (vs : List V) (us : List Value), okEs ds = true → Reps X.K Z H vs ds → Vals vs us → ∃ as, ReadsAll s.heap us (pyEs ds) as ∧ sysModules ∉ as
  | [], _, _, _, r, rv => by
    cases r
    cases rv
    rw [pyEs]
    exact ⟨[], .nil, by simp⟩
  | d :: ds, _, _, h, r, rv => by
    rw [okEs, Bool.and_eq_true] at h
    cases r with
    | cons r1 r2 =>
      cases rv with
      | cons v1 v2 =>
        obtain ⟨as, a1, a2⟩ := Rep.rd I hs d _ _ h.1 r1 v1
        obtain ⟨bs, b1, b2⟩ := Reps.rd I hs ds _ _ h.2 r2 v2
        rw [pyEs]
        exact ⟨as ++ bs, .cons a1 b1, fun z => (List.mem_append.mp z).elim a2 b2⟩
theorem Repk.rd (I : Inv X pins σ H s) (hs : ∃ o, X.base.get? sysModules = some o) : ∀ (kds : List (Key × D)) (kvs : List (Key × V)) (vs : List (Key × Value)) (es : List DictEntry), okEk kds = true → kvs.length = kds.length → (∀ (i : Nat) (v : Key × V) (d : Key × D), kvs[i]? = some v → kds[i]? = some d → v.1 = d.1) →
    (∀ (i : Nat) (v : Key × V) (d : Key × D), kvs[i]? = some v → kds[i]? = some d → Rep X.K Z H v.2 d.2) → KV kvs vs → Pairs (mixKind X.prog X.w) es vs → ∃ as bs, ReadsAll s.heap (es.map (·.key)) ((pyEk kds).map (·.1)) as ∧ ReadsAll s.heap (es.map (·.val)) ((pyEk kds).map (·.2)) bs ∧ sysModules ∉ as ∧ sysModules ∉ bs
  | [], [], _, _, _, _, _, _, kv, pr => by
    cases kv
    cases pr
    rw [pyEk]
    exact ⟨[], [], .nil, .nil, by simp, by simp⟩
  | [], _ :: _, _, _, _, hl, _, _, _, _ => by simp at hl
  | (k, d) :: kds, [], _, _, _, hl, _, _, _, _ => by simp at hl
  | (k, d) :: kds, v :: kvs, _, _, h, hl, he, hi, kv, pr => by
    rw [okEk, Bool.and_eq_true] at h
    cases kv with
    | @cons _ q _ _ r1 r2 =>
      cases pr with
      | cons p1 p0 p2 =>
        obtain ⟨as, bs, g1, g2, g3, g4⟩ := Repk.rd I hs kds kvs _ _ h.2 (by simpa using hl) (fun i x y e1 e2 => he (i + 1) x y (by simpa using e1) (by simpa using e2)) (fun i x y e1 e2 => hi (i + 1) x y (by simpa using e1) (by simpa using e2)) r2 p2
        have ek : v.1 = k := he 0 v (k, d) rfl rfl
        have rk := key_reads (h := s.heap) (show keyIs q.1 _ = true from p1)
        rw [← r1.1, ek] at rk
        obtain ⟨cs, c1, c2⟩ := Rep.rd I hs d v.2 q.2 h.1 (hi 0 v (k, d) rfl rfl) r1.2
        rw [pyEk]
        refine ⟨[] ++ as, cs ++ bs, .cons rk g1, .cons ?_ g2, by simpa using g3, fun z => (List.mem_append.mp z).elim c2 g4⟩
        show Reads s.heap _ (pyE d) cs
        dsimp only
        rw [p0]
        exact c1
end
/-- repr of such data, where no repr is under way -/
theorem cr_repr (hg : X.A.guards = some []) (hs : ∃ o, X.base.get? sysModules = some o) : CallR X (.builtin "repr") (fun vs H Q => ∃ (Z : Fz) (a : Addr) (d : D), vs = [.ref a] ∧ Rep X.K Z H (.ref a) d ∧ okE d = true ∧ (pyE d).showable = true ∧ X.A.units + ((pyE d).depth + 1) < cLine ∧ (pyE d).shown.length ≤ sizeLine ∧ Q (.str (pyE d).shown) H) := fun pins s σ H vs us Q I r ⟨Z, a, d, ev, rd, ok, hsh, hu, hz, q⟩ => by
  subst ev
  obtain ⟨u, rfl, ru⟩ := vals1 r
  cases (show u = Value.ref a from ru)
  obtain ⟨as, h1, h2⟩ := Rep.rd I hs d _ _ ok rd (show RelV (.ref a) (.ref a) from rfl)
  refine repr_of_reads' h1 hsh (fun _ => h2) hg hu (fun _ _ z => z) (fun h' t tk k => ?_) hz
  exact ⟨.str (pyE d).shown, H, I.kept (t' := tk) k, ⟨t, rfl⟩, q⟩
end
section
variable {C : DL.Ctx} {Γ : Gm} {L : Lp} {Q : D → Lp → Prop}
@[irreducible] def rRepr (X : Cx) : List V → Hp → VK → Prop := fun vs H Q => ∃ (Z : Fz) (a : Addr) (d : D), vs = [.ref a] ∧ Rep X.K Z H (.ref a) d ∧ okE d = true ∧ (pyE d).showable = true ∧ X.A.units + ((pyE d).depth + 1) < cLine ∧ (pyE d).shown.length ≤ sizeLine ∧ Q (.str (pyE d).shown) H
theorem call_repr {X : Cx} (hg : X.A.guards = some []) (hs : ∃ o, X.base.get? sysModules = some o) : CallR X (.builtin "repr") (rRepr X) := by
  unfold rRepr
  exact cr_repr hg hs
/-- repr(x), x a tuple -/
theorem c_repr {ds : List D} (ok : okEs ds = true) (hsh : (pyE (.tup ds)).showable = true) (hu : C.X.A.units + 64 < cLine) (hd : (pyE (.tup ds)).depth ≤ 60) (hz : (pyE (.tup ds)).shown.length ≤ sizeLine) (hso : SOk (pyE (.tup ds)).shown) (q : Q (.str (pyE (.tup ds)).shown) L) : LcR C (rRepr C.X) [.tup ds] L Q := fun F vs H c r0 QV go => by
  obtain ⟨v, rfl, r⟩ := r0.oneE
  obtain ⟨a, ws, rfl, ha, ra⟩ := r.tupE
  unfold rRepr
  exact ⟨F, a, .tup ds, rfl, r, by rw [okE]; exact ok, hsh, by omega, hz, go _ _ H L (.str _ hso) c (.refl L H) q⟩
end
end DL
namespace DL
open PySem PySem.Spec PyProof.Rows L2
/-! ### the signs of what repr shows -/
def Sg (x : Str) : Prop := ∀ c ∈ x.cps.toList, c < 0x110000
theorem sg_ok {x : Str} : PyData.strOk x = true ↔ Sg x := by
  unfold PyData.strOk Sg
  rw [Array.all_eq_true']
  simp
theorem sg_app {a b : Str} (ha : Sg a) (hb : Sg b) : Sg (a ++ b) := fun c hc => by
  have e : (a ++ b).cps.toList = a.cps.toList ++ b.cps.toList := by show (a.cps ++ b.cps).toList = _; simp
  rw [e] at hc
  exact (List.mem_append.mp hc).elim (ha c) (hb c)
theorem chr_lt (c : Char) : c.toNat < 0x110000 := by
  have := c.valid
  rcases this with h | h
  · have : c.toNat < 0xd800 := h
    omega
  · exact h.2
theorem sg_lit (s : String) : Sg (Str.ofString s) := fun c hc => by
  have e : (Str.ofString s).cps.toList = s.toList.map Char.toNat := by
    unfold Str.ofString
    simp [cpsOfBytes_string]
  rw [e] at hc
  obtain ⟨z, _, rfl⟩ := List.mem_map.mp hc
  exact chr_lt z
theorem sg_join : ∀ (ts : List Str), (∀ t ∈ ts, Sg t) → Sg (Str.join ", " ts)
  | [], _ => fun c hc => absurd hc (by show c ∉ ([] : List Nat); simp)
  | [x], h => h x List.mem_cons_self
  | x :: y :: r, h => sg_app (sg_app (h x List.mem_cons_self) (sg_lit ", ")) (sg_join (y :: r) fun t ht => h t (List.mem_cons_of_mem _ ht))
theorem sg_from : ∀ (ts : List Str) (k : Nat) (acc : Str), Sg acc → (∀ t ∈ ts, Sg t) → Sg (textFrom k acc ts)
  | [], _, _, ha, _ => ha
  | t :: ts, k, acc, ha, h => by
    unfold textFrom
    refine sg_from ts (k + 1) _ (sg_app (sg_app ha ?_) (h t List.mem_cons_self)) fun x hx => h x (List.mem_cons_of_mem _ hx)
    exact sg_lit _
theorem sg_char {q c : Nat} (hq : q < 0x110000) (hc : c < 0x110000) : ∀ z ∈ Builtin.Str.reprChar q c, z < 0x110000 := by
  intro z hz
  have hex : ∀ n, ∀ z ∈ (List.replicate (n - ((Nat.toDigits 16 c).map Char.toNat).length) 48 ++ (Nat.toDigits 16 c).map Char.toNat), z < 0x110000 := fun n z hz => by
    rcases List.mem_append.mp hz with h | h
    · rw [(List.mem_replicate.mp h).2]; decide
    · obtain ⟨x, _, rfl⟩ := List.mem_map.mp h
      exact chr_lt x
  unfold Builtin.Str.reprChar at hz
  dsimp only at hz
  split at hz
  · simp only [List.mem_cons, List.not_mem_nil, or_false] at hz
    rcases hz with rfl | rfl
    · decide
    · exact hc
  split at hz
  · simp only [List.mem_cons, List.not_mem_nil, or_false] at hz
    rcases hz with rfl | rfl <;> decide
  split at hz
  · simp only [List.mem_cons, List.not_mem_nil, or_false] at hz
    rcases hz with rfl | rfl <;> decide
  split at hz
  · simp only [List.mem_cons, List.not_mem_nil, or_false] at hz
    rcases hz with rfl | rfl <;> decide
  split at hz
  · rw [List.mem_singleton.mp hz]; exact hc
  split at hz
  · rcases List.mem_append.mp hz with h | h
    · simp only [List.mem_cons, List.not_mem_nil, or_false] at h
      rcases h with rfl | rfl <;> decide
    · exact hex 2 z h
  split at hz
  · rcases List.mem_append.mp hz with h | h
    · simp only [List.mem_cons, List.not_mem_nil, or_false] at h
      rcases h with rfl | rfl <;> decide
    · exact hex 4 z h
  · rcases List.mem_append.mp hz with h | h
    · simp only [List.mem_cons, List.not_mem_nil, or_false] at h
      rcases h with rfl | rfl <;> decide
    · exact hex 8 z h
theorem sg_fold {q : Nat} (hq : q < 0x110000) : ∀ (l : List Nat) (acc : Array Nat), (∀ c ∈ l, c < 0x110000) → (∀ c ∈ acc.toList, c < 0x110000) → ∀ c ∈ (l.foldl (fun out c => out ++ (Builtin.Str.reprChar q c).toArray) acc).toList, c < 0x110000
  | [], _, _, ha => ha
  | x :: l, acc, hl, ha => by
    rw [List.foldl_cons]
    refine sg_fold hq l _ (fun c hc => hl c (List.mem_cons_of_mem _ hc)) fun c hc => ?_
    rw [Array.toList_append] at hc
    rcases List.mem_append.mp hc with h | h
    · exact ha c h
    · exact sg_char hq (hl x List.mem_cons_self) c h
theorem sg_repr {x : Str} (h : Sg x) : Sg (reprText x) := by
  have hq : reprQuote x < 0x110000 := by unfold reprQuote; split <;> decide
  intro c hc
  unfold reprText at hc
  rw [Array.toList_push, ← Array.foldl_toList] at hc
  rcases List.mem_append.mp hc with hc | hc
  · exact sg_fold hq _ _ h (fun c hc => by simp at hc; rw [hc]; exact hq) c hc
  · rw [List.mem_singleton.mp hc]; exact hq
mutual
/-- every text in it is of signs -/
def sgD : PyData → Bool
  | .none => true
  | .bool _ => true
  | .int _ => true
  | .str x => PyData.strOk x
  | .list xs => sgDs xs
  | .tuple xs => sgDs xs
  | .dict kvs => sgDk kvs
def sgDs : List PyData → Bool
  | [] => true
  | x :: xs => sgD x && sgDs xs
def sgDk : List (PyData × PyData) → Bool
  | [] => true
  | (k, v) :: r => sgD k && sgD v && sgDk r
end
mutual
theorem sg_shown : ∀ d : PyData, sgD d = true → Sg d.shown
  | .none, _ => by rw [PyData.shown]; exact sg_lit "None"
  | .bool b, _ => by rw [PyData.shown]; cases b <;> exact sg_lit _
  | .int i, _ => by rw [PyData.shown]; exact sg_lit _
  | .str x, h => by
    rw [sgD] at h
    rw [PyData.shown]
    exact sg_repr (sg_ok.mp h)
  | .list xs, h => by
    rw [sgD] at h
    rw [PyData.shown]
    exact sg_app (sg_from _ 0 _ (sg_lit "[") (sg_shownAll xs h)) (sg_lit "]")
  | .tuple xs, h => by
    rw [sgD] at h
    rw [PyData.shown]
    exact sg_app (sg_app (sg_lit "(") (sg_join _ (sg_shownAll xs h))) (sg_lit _)
  | .dict kvs, h => by
    rw [sgD] at h
    rw [PyData.shown]
    exact sg_app (sg_app (sg_lit "{") (sg_join _ (sg_shownKv kvs h))) (sg_lit "}")
theorem sg_shownAll : ∀ xs : List PyData, sgDs xs = true → ∀ t ∈ PyData.shownAll xs, Sg t
  | [], _, t, ht => by rw [PyData.shownAll] at ht; cases ht
  | x :: xs, h, t, ht => by
    rw [sgDs, Bool.and_eq_true] at h
    rw [PyData.shownAll] at ht
    rcases List.mem_cons.mp ht with rfl | ht
    · exact sg_shown x h.1
    · exact sg_shownAll xs h.2 t ht
theorem sg_shownKv : ∀ kvs : List (PyData × PyData), sgDk kvs = true → ∀ t ∈ PyData.shownKv kvs, Sg t
  | [], _, t, ht => by rw [PyData.shownKv] at ht; cases ht
  | (k, v) :: r, h, t, ht => by
    rw [sgDk, Bool.and_eq_true, Bool.and_eq_true] at h
    rw [PyData.shownKv] at ht
    rcases List.mem_cons.mp ht with rfl | ht
    · exact sg_app (sg_app (sg_shown k h.1.1) (sg_lit ": ")) (sg_shown v h.1.2)
    · exact sg_shownKv r h.2 t ht
end
end DL
namespace DL
open PySem PySem.Spec PyProof.Rows L2
section
variable {C : DL.Ctx} {L : Lp} {Q : D → Lp → Prop} {d : D}
theorem okE_ty {K : PySem.W.Frag} (h : okE d = true) : TyL K L d (.type (tyD d)) := by
  cases d with
  | non => exact .non
  | bl b => exact .bl b
  | int i => exact .int i
  | str x => exact .str x
  | tup ds => exact .tup ds
  | flst ds => exact .flst ds
  | kdct kds => exact .kdct kds
  | _ => simp [okE] at h
theorem okE_isi {T : String} {k : Bool} (h : okE d = true) (hk : kitB (tyD d) T = some k) (q : Q (.bl k) L) : LcR C (rIsiA C) [d, .ty T] L Q := isa_B (okE_ty h) (kit_ty hk) q
theorem kitE_str (h : okE d = true) : kitB (tyD d) "str" = some (match d with | .str _ => true | _ => false) := by
  cases d with
  | non => exact (by decide +kernel : kitB "NoneType" "str" = some false)
  | bl b => exact (by decide +kernel : kitB "bool" "str" = some false)
  | int i => exact (by decide +kernel : kitB "int" "str" = some false)
  | str x => exact (by decide +kernel : kitB "str" "str" = some true)
  | tup ds => exact (by decide +kernel : kitB "tuple" "str" = some false)
  | flst ds => exact (by decide +kernel : kitB "list" "str" = some false)
  | kdct ds => exact (by decide +kernel : kitB "dict" "str" = some false)
  | _ => simp [okE] at h
theorem kitE_tup (h : okE d = true) : kitB (tyD d) "tuple" = some (match d with | .tup _ => true | _ => false) := by
  cases d with
  | non => exact (by decide +kernel : kitB "NoneType" "tuple" = some false)
  | bl b => exact (by decide +kernel : kitB "bool" "tuple" = some false)
  | int i => exact (by decide +kernel : kitB "int" "tuple" = some false)
  | str x => exact (by decide +kernel : kitB "str" "tuple" = some false)
  | tup ds => exact (by decide +kernel : kitB "tuple" "tuple" = some true)
  | flst ds => exact (by decide +kernel : kitB "list" "tuple" = some false)
  | kdct ds => exact (by decide +kernel : kitB "dict" "tuple" = some false)
  | _ => simp [okE] at h
theorem okEs_get {ds : List D} (h : okEs ds = true) {i : Nat} {d : D} (hd : ds[i]? = some d) : okE d = true := okEs_mem h d (List.mem_of_getElem? hd)
theorem okE_dW (ws : List Wd) : okE (dW ws) = true := okE_okD _ (okD_dW ws)
theorem okE_dC (cs : List Cell) : okE (dC cs) = true := okE_okD _ (okD_dC cs)
theorem okE_dR (rs : Rl) : okE (dR rs) = true := okE_okD _ (okD_dR rs)
end
end DL
namespace DL
open PySem PySem.Spec PyProof.Rows L2
/-! ### small data: plain signs, small numbers -/
def asc (x : Str) : Bool := x.cps.toList.all fun c => decide (c < 128)
def smI (i : Int) : Bool := decide (-999999999999 ≤ i) && decide (i ≤ 999999999999)
def smK : Key → Bool
  | .inl i => smI i
  | .inr x => asc x
mutual
def shw : D → Bool
  | .non => true
  | .bl _ => true
  | .int i => smI i
  | .str x => asc x
  | .tup ds => shws ds
  | .flst ds => shws ds
  | .kdct kds => shwk kds
  | .ty _ => false
  | .ptr _ => false
  | .ilst _ => false
  | .obj _ _ => false
  | .fdct _ => false
def shws : List D → Bool
  | [] => true
  | d :: ds => shw d && shws ds
def shwk : List (Key × D) → Bool
  | [] => true
  | (k, d) :: r => smK k && shw d && shwk r
end
structure ShP (d : PyData) : Prop where
  lf : d.leavesShort 13 = true
  sg : sgD d = true
  sh : d.showable = true
theorem shp_int {i : Int} (h : smI i = true) : ShP (.int i) := by
  unfold smI at h
  rw [Bool.and_eq_true] at h
  have h1 := of_decide_eq_true h.1
  have h2 := of_decide_eq_true h.2
  refine ⟨?_, by rw [sgD], ?_⟩
  · rw [PyData.leavesShort]
    exact decide_eq_true (PyData.shown_int_le2 h1 h2)
  · rw [PyData.showable]
    refine decide_eq_true ?_
    have h3 : i.natAbs < 2 ^ 40 := by
      have : (2 : Nat) ^ 40 = 1099511627776 := by decide
      omega
    by_cases hz : i.natAbs = 0
    · rw [hz]; decide
    · have := (Nat.log2_lt hz).mpr h3
      omega
theorem shp_str {x : Str} (h : asc x = true) : ShP (.str x) := by
  unfold asc at h
  have h1 := List.all_eq_true.mp h
  refine ⟨?_, ?_, by rw [PyData.showable]⟩
  · rw [PyData.leavesShort]
    exact List.all_eq_true.mpr fun c hc => decide_eq_true (Nat.lt_trans (of_decide_eq_true (h1 c hc)) (by decide))
  · rw [sgD]
    exact sg_ok.mpr fun c hc => by have := of_decide_eq_true (h1 c hc); omega
mutual
theorem shw_ok : ∀ d : D, shw d = true → okE d = true ∧ ShP (pyE d)
  | .non, _ => by rw [okE, pyE]; exact ⟨rfl, by rw [PyData.leavesShort], by rw [sgD], by rw [PyData.showable]⟩
  | .bl b, _ => by rw [okE, pyE]; exact ⟨rfl, by rw [PyData.leavesShort], by rw [sgD], by rw [PyData.showable]⟩
  | .int i, h => by rw [shw] at h; rw [okE, pyE]; exact ⟨rfl, shp_int h⟩
  | .str x, h => by rw [shw] at h; rw [okE, pyE]; exact ⟨rfl, shp_str h⟩
  | .tup ds, h => by
    rw [shw] at h
    obtain ⟨h1, h2, h3, h4⟩ := shws_ok ds h
    rw [okE, pyE]
    exact ⟨h1, by rw [PyData.leavesShort]; exact h2, by rw [sgD]; exact h3, by rw [PyData.showable]; exact h4⟩
  | .flst ds, h => by
    rw [shw] at h
    obtain ⟨h1, h2, h3, h4⟩ := shws_ok ds h
    rw [okE, pyE]
    exact ⟨h1, by rw [PyData.leavesShort]; exact h2, by rw [sgD]; exact h3, by rw [PyData.showable]; exact h4⟩
  | .kdct kds, h => by
    rw [shw] at h
    obtain ⟨h1, h2, h3, h4⟩ := shwk_ok kds h
    rw [okE, pyE]
    exact ⟨h1, by rw [PyData.leavesShort]; exact h2, by rw [sgD]; exact h3, by rw [PyData.showable]; exact h4⟩
  | .ty _, h => by simp [shw] at h
  | .ptr _, h => by simp [shw] at h
  | .ilst _, h => by simp [shw] at h
  | .obj _ _, h => by simp [shw] at h
  | .fdct _, h => by simp [shw] at h
theorem shws_ok : ∀ ds : List D, shws ds = true → okEs ds = true ∧ PyData.leavesShortAll 13 (pyEs ds) = true ∧ sgDs (pyEs ds) = true ∧ PyData.showableAll (pyEs ds) = true
  | [], _ => by rw [okEs, pyEs, PyData.leavesShortAll, sgDs, PyData.showableAll]; exact ⟨rfl, rfl, rfl, rfl⟩
  | d :: ds, h => by
    rw [shws, Bool.and_eq_true] at h
    obtain ⟨a0, a1, a2, a3⟩ := shw_ok d h.1
    obtain ⟨b0, b1, b2, b3⟩ := shws_ok ds h.2
    rw [okEs, pyEs, PyData.leavesShortAll, sgDs, PyData.showableAll, a0, a1, a2, a3, b0, b1, b2, b3]
    exact ⟨rfl, rfl, rfl, rfl⟩
theorem shwk_ok : ∀ kds : List (Key × D), shwk kds = true → okEk kds = true ∧ PyData.leavesShortKv 13 (pyEk kds) = true ∧ sgDk (pyEk kds) = true ∧ PyData.showableKv (pyEk kds) = true
  | [], _ => by rw [okEk, pyEk, PyData.leavesShortKv, sgDk, PyData.showableKv]; exact ⟨rfl, rfl, rfl, rfl⟩
  | (k, d) :: r, h => by
    rw [shwk, Bool.and_eq_true, Bool.and_eq_true] at h
    obtain ⟨a0, a1, a2, a3⟩ := shw_ok d h.1.2
    obtain ⟨b0, b1, b2, b3⟩ := shwk_ok r h.2
    have hk : ShP (keyPy k) := by
      have hh := h.1.1
      cases k with
      | inl i => exact shp_int hh
      | inr x => exact shp_str hh
    obtain ⟨c1, c2, c3⟩ := hk
    rw [okEk, pyEk, PyData.leavesShortKv, sgDk, PyData.showableKv, a0, a1, a2, a3, b0, b1, b2, b3, c1, c2, c3]
    exact ⟨rfl, rfl, rfl, rfl⟩
end
/-- small, m levels at most, n signs and items at most -/
structure Vd (m n : Nat) (d : D) : Prop where
  sh : shw d = true
  dp : (pyE d).depth ≤ m
  bk : (pyE d).bulk ≤ n
theorem Vd.mono {m n m' n' : Nat} {d : D} (h : Vd m n d) (hm : m ≤ m') (hn : n ≤ n') : Vd m' n' d := ⟨h.sh, Nat.le_trans h.dp hm, Nat.le_trans h.bk hn⟩
theorem Vd.ok {m n : Nat} {d : D} (h : Vd m n d) : okE d = true := (shw_ok d h.sh).1
section
variable {C : DL.Ctx} {L : Lp} {Q : D → Lp → Prop}
/-- repr of a small tuple -/
theorem c_reprV {ds : List D} {m n : Nat} (h : Vd m n (.tup ds)) (hm : m ≤ 60) (hn : n ≤ 2 ^ 20) (hu : C.X.A.units + 64 < cLine) (q : Q (.str (pyE (.tup ds)).shown) L) : LcR C (rRepr C.X) [.tup ds] L Q := by
  obtain ⟨h1, h2, h3, h4⟩ := shw_ok _ h.sh
  have hz : (pyE (.tup ds)).shown.length ≤ sizeLine := PyData.shown_fits_bulk (B := 13) (by decide) (by decide) h2 (Nat.le_trans h.bk hn)
  rw [okE] at h1
  exact c_repr h1 h4 hu (Nat.le_trans h.dp hm) hz ⟨hz, sg_ok.mpr (sg_shown _ h3)⟩ q
end
end DL
namespace DL
open PySem PySem.Spec PyProof.Rows L2
/-- {text: number} -/
def tDict1 (x : Str) (i : Int) : TE := fun _ H Q => ∀ p, H p = none → Q (.ref p) (upd H p (.dK [(.inr x, .int i)]))
theorem pe_dict1 {X : Cx} {x : Str} {i : Int} {j1 j2 : Nat} {p1 p2 pos : Pos} : PE X (.Dict [some (.Constant (.str x) j1 p1)] [.Constant (.int i) j2 p2] pos) (tDict1 x i) := by
  refine ⟨fun pins s σ H Q I h => ?_⟩
  have hn : H s.heap.objs.size = none := I.hok.fresh (Nat.le_refl _)
  have I1 : Inv X pins σ (upd H s.heap.objs.size (.dK [])) { s with heap := s.heap.push { cls := .type "dict", data := .dict #[] } } := I.laid (a := s.heap.objs.size) (o := .dK []) (t' := s.toks) (fun _ _ q => Heap.get?_push_of_some _ q) (Nat.le_refl _) (dk_empty s.heap I.big)
  refine wpAny_Dict_pairs (knd := mixKind X.prog X.w) (pairs := [(eval (.Constant (.str x) j1 p1) X.env, do let v ← eval (.Constant (.int i) j2 p2) X.env; standAt pos; pure v)]) rfl (by simp) (by show 1 ≤ 15; decide) ?_
  have hne : ∀ {b : Addr} {o : HO}, H b = some o → b ≠ s.heap.objs.size := fun hb e => by rw [e, hn] at hb; cases hb
  refine evalPairs_cons (thn (pe_str.run pins _ σ _ (fun v G => v = V.str x ∧ G = upd H s.heap.objs.size (.dK [])) I1 ⟨rfl, rfl⟩) fun u1 s1 ⟨v1, G1, J1, r1, e1, e2⟩ => ?_)
  subst e1 e2
  refine wpAny_bind (thn (pe_int.run pins _ σ _ (fun v G => v = V.int i ∧ G = upd H s.heap.objs.size (.dK [])) J1 ⟨rfl, rfl⟩) fun u2 s2 ⟨v2, G2, J2, r2, e1, e2⟩ => ?_)
  subst e1 e2
  refine wpAny_bind (wpAny_standAt (wpAny_pure (evalPairs_nil ?_)))
  obtain ⟨t1, rfl⟩ := r1
  obtain ⟨t2, rfl⟩ := r2
  obtain ⟨_, _, vs0, kv0, d0⟩ : ([] : List (Key × V)).length ≤ sizeLine ∧ (s.heap.objs.size == sysModules) = false ∧ ∃ vs, KV ([] : List (Key × V)) vs ∧ s2.heap.DictOf (mixKind X.prog X.w) s.heap.objs.size vs := J2.hok _ _ upd_same
  cases kv0
  refine ⟨[(.inr x, .int i t2)], ?_, d0, fun h' d1 sb => ⟨.ref s.heap.objs.size, _, ?_, rfl, h _ hn⟩⟩
  · exact ⟨Froz.is_str (P := X.prog) (w := X.w) x t1, rfl, trivial⟩
  · have e : upd (upd H s.heap.objs.size (.dK [])) s.heap.objs.size (.dK [(.inr x, .int i)]) = upd H s.heap.objs.size (.dK [(.inr x, .int i)]) := by
      funext b
      by_cases z : b = s.heap.objs.size
      · rw [z, upd_same, upd_same]
      · rw [upd_ne z, upd_ne z, upd_ne z]
    rw [← e]
    have hx : ∃ u, h'.get? s.heap.objs.size = some u := let ⟨o, _, _, ho, _⟩ := d1; ⟨o, ho⟩
    exact J2.write (e := s.heap.objs.size) (t' := s2.toks + 1) (by rw [upd_same]; trivial) (.inl rfl) (fun b u hb hu => (sb.2 b hb).trans hu) hx ⟨by show 1 ≤ sizeLine; decide, by assumption, [(.inr x, .int i t2)], .cons ⟨rfl, t2, rfl⟩ .nil, d1⟩
section
variable {C : DL.Ctx} {Γ : Gm} {L : Lp} {Q : D → Lp → Prop} {pos : Pos}
theorem frz_kd {a : Addr} {kds : List (Key × D)} (ha : L a = some (.kd kds)) : Frz C L (.ptr a) (DL.del L a) (.kdct kds) := fun pins σ s F H v I c r => by
  obtain ⟨kvs, e, rr⟩ := c.at_ a _ ha
  obtain ⟨od, I1⟩ := I.lock e True.intro
  have nfa := c.nw ha
  have ne : ∀ b u, H b = some u → (∀ k, u ≠ .dK k) → b ≠ a := fun b u eb nd q => by rw [q, e] at eb; exact nd _ (Option.some.inj eb).symm
  have st : Stay H (upd H a (.frz od (.dK kvs))) := ⟨fun b vs eb => by rw [upd_ne (ne b _ eb fun _ z => nomatch z)]; exact eb, fun b o xs eb => by rw [upd_ne (ne b _ eb fun _ z => nomatch z)]; exact eb, fun b eb => by rw [upd_ne (ne b _ eb fun _ z => nomatch z)]; exact eb⟩
  have mv : Mv F H (fun b => F b ∨ b = a) (upd H a (.frz od (.dK kvs))) := ⟨st, fun b z => .inl z, fun b o z eb => by
    have hb : b ≠ a := fun q => nfa (q ▸ z)
    rw [upd_ne hb]; exact eb⟩
  have key : ∀ {kvs : List (Key × V)} {kds : List (Key × D)}, Paired (fun (p : Key × V) (q : Key × D) => p.1 = q.1 ∧ Rep C.X.K F H p.2 q.2) kvs kds → ∀ (i : Nat) (v : Key × V) (d : Key × D), kvs[i]? = some v → kds[i]? = some d → v.1 = d.1 ∧ Rep C.X.K F H v.2 d.2 := by
    intro kvs kds h
    induction h with
    | nil => intro i v d h1 _; simp at h1
    | cons h1 h2 ih =>
      intro i v d e1 e2
      cases i with
      | zero => simp at e1 e2; subst e1 e2; exact h1
      | succ i => exact ih i v d (by simpa using e1) (by simpa using e2)
  refine ⟨_, _, I1, ?_, ⟨fun b u eb => ?_, fun b zz => ?_⟩, ⟨fun b u eb _ nb => ?_, fun b zz => upd_live zz, st, fun b zz => .inl ((del_le a).ne zz), mv.fz, mv.fk, fun b zz => ?_⟩⟩
  · rw [r.ptrE]
    exact .kdct (.inr rfl) upd_same (Paired.length rr) (fun i v d h1 h2 => (key rr i v d h1 h2).1) fun i v d h1 h2 => (key rr i v d h1 h2).2.mono mv
  · have hb : b ≠ a := fun q => by rw [q, DL.del_same] at eb; cases eb
    exact (c.at_ b u (del_le a b u eb)).mono mv (upd_ne hb)
  · rcases zz with zz | zz
    · have hb : b ≠ a := fun q => nfa (q ▸ zz)
      obtain ⟨n, o, eo, k1, k2⟩ := c.fz b zz
      exact ⟨(del_le a).none n, o, by rw [upd_ne hb]; exact eo, k1, k2⟩
    · rw [zz]
      exact ⟨DL.del_same, _, upd_same, (fun _ z => nomatch z), (fun z => nomatch z)⟩
  · have hb : b ≠ a := fun q => by rw [q, ha] at nb; cases nb
    rw [upd_ne hb]; exact eb
  · rcases zz with zz | zz
    · exact .inl zz
    · rw [zz, ha]
      exact .inr (.inl (by simp))
theorem ae_kd0 (q : Q (.kdct []) L) : AE C (.Dict [] [] pos) Γ L Q := AE.frz fun F σ H ok QV go =>
  we_of pe_dnewK fun p hp => go _ _ _ (put L p (.kd [])) (.ptr p) (ok.con.newL hp ⟨[], upd_same, .nil⟩) (.newL hp) ⟨.kdct [], L, by
    have z := frz_kd (C := C) (put_same (L := L) (a := p) (o := .kd []))
    rwa [DL.del_put (ok.con.free hp)] at z, q⟩
theorem ae_kd1 {x : Str} {i : Int} {j1 j2 : Nat} {p1 p2 : Pos} (q : Q (.kdct [(.inr x, .int i)]) L) : AE C (.Dict [some (.Constant (.str x) j1 p1)] [.Constant (.int i) j2 p2] pos) Γ L Q := AE.frz fun F σ H ok QV go =>
  we_of pe_dict1 fun p hp => go _ _ _ (put L p (.kd [(.inr x, .int i)])) (.ptr p) (ok.con.newL hp ⟨_, upd_same, .cons ⟨rfl, .int i⟩ .nil⟩) (.newL hp) ⟨.kdct [(.inr x, .int i)], L, by
    have z := frz_kd (C := C) (put_same (L := L) (a := p) (o := .kd [(.inr x, .int i)]))
    rwa [DL.del_put (ok.con.free hp)] at z, q⟩
end
end DL
namespace DL
open PySem PySem.Spec PyProof.Rows L2
section
variable {C : DL.Ctx} {Γ : Gm} {L : Lp} {Q : D → Lp → Prop} {e o : Expr} {pos apos p p2 pos2 : Pos}
theorem Reps.rev {K : PySem.W.Frag} {F : Fz} {H : Hp} : ∀ {xs : List V} {ys : List D}, Reps K F H xs ys → Reps K F H xs.reverse ys.reverse
  | _, _, .nil => .nil
  | _, _, .cons h1 h2 => by rw [List.reverse_cons, List.reverse_cons]; exact Reps.append (Reps.rev h2) (.cons h1 .nil)
/-- a tuple != () -/
theorem j_neT0 {ds : List D} (hu : C.X.A.units < cLine) (q : Q (.bl (!ds.isEmpty)) L) : OpJ C (.cmp .NotEq) Γ (.tup ds) (.tup []) L Q := ⟨fun Z σ H ok vx vy rx ry QV go pins s v u I r1 r2 => by
  obtain ⟨a, vs, rfl, ha, ra⟩ := rx.tupE
  obtain ⟨b, ws, rfl, hb, rb⟩ := ry.tupE
  cases (show v = Value.ref a from r1)
  cases (show u = Value.ref b from r2)
  cases rb
  obtain ⟨its, rv, t1, _⟩ := I.tuple (SqT.of ha)
  obtain ⟨its2, rv2, t2, _⟩ := I.tuple (SqT.of hb)
  cases rv2
  have hl : its.length = ds.length := by rw [← rv.length, ra.length]
  refine SeqAt.RcNeAt.tuples (e := fun _ => true) t1 t2 hu (fun j h1 h2 => absurd h2 (by simp)) _ _ _ _ ⟨.bl (!ds.isEmpty), H, I, ?_, go _ _ H L (.bl _) ok.con (.refl L H) q⟩
  show Value.bool _ = Value.bool _
  congr 1
  simp
  cases ds with
  | nil => simp at hl; simp [hl]
  | cons d ds => cases its with
    | nil => simp at hl
    | cons => simp⟩
/-- tuple(reversed(list)) -/
theorem ae_tupRev (hm : C.X.mg "tuple" = none) (hm2 : C.X.mg "reversed" = none) (h : AL C e Γ L fun ds L1 => Q (.tup ds.reverse) L1) (hg : Gl C.X "tuple" := by rfl) (hg2 : Gl C.X "reversed" := by rfl) (hs : starEach [e] C.X.env = (false, eval e C.X.env) :: starEach [] C.X.env := by rfl) :
    AE C (.Call (.Name "tuple" p) [.Call (.Name "reversed" p2) [e] [] pos2] [] pos) Γ L Q := fun F σ H ok QV go =>
  we_of (RT.pe_tupRev C.calm hg hm hg2 hm2 pe_we hs) (h.elim _ σ H ok _ fun v d H1 L1 r c f ⟨L2, q, ds, ed, hq, eL, hz, qq⟩ => by
    subst ed eL
    obtain ⟨vs, ha, ra, hz2⟩ := c.at_ q _ put_same
    refine ⟨q, vs, r.ptrE, SqL.of ha, fun t ht => ?_⟩
    have c2 := c.le (le_put hq)
    exact go _ _ _ L2 (Rep.tupI upd_same (ra.rev.mono (.new ht)) (by rw [List.length_reverse]; exact hz)) (c2.new ht) ((f.leR (le_put hq)).trans (.new ht)) qq)
/-- tuple * n -/
theorem mul_T {ds : List D} {k : Int} (h2 : 2 ≤ k) (h3 : k ≤ 1000) (hn : ds ≠ []) (hz : ds.length ≤ 1000) (q : Q (.tup (List.replicate k.toNat ds).flatten) L) : L2R C (rRepT C.X.K) (.tup ds) (.int k) L Q := fun F vx vy H c rx ry QV go => by
  obtain ⟨a, vs, rfl, ha, ra⟩ := rx.tupE
  rw [ry.intE]
  have hl := ra.length
  refine ⟨a, k, vs, rfl, rfl, SqT.of ha, fun z => hn (by rw [z] at hl; exact List.length_eq_zero_iff.mp hl.symm), h2, h3, by omega, fun t ht => ?_⟩
  have rr : ∀ n, Reps C.X.K F H (List.replicate n vs).flatten (List.replicate n ds).flatten := fun n => by
    induction n with
    | zero => exact .nil
    | succ n ih => rw [List.replicate_succ, List.replicate_succ, List.flatten_cons, List.flatten_cons]; exact ra.append ih
  have hz3 : (List.replicate k.toNat ds).flatten.length ≤ sizeLine := by
    rw [List.length_flatten, List.map_replicate, List.sum_replicate_nat, sl_eq]
    have : k.toNat * ds.length ≤ 1000 * 1000 := Nat.mul_le_mul (by omega) hz
    omega
  exact go _ _ _ L (Rep.tupI upd_same ((rr k.toNat).mono (.new ht)) hz3) (c.new ht) (.new ht) q
theorem j_mulT {ds : List D} {k : Int} (h2 : 2 ≤ k) (h3 : k ≤ 1000) (hn : ds ≠ []) (hz : ds.length ≤ 1000) (q : Q (.tup (List.replicate k.toNat ds).flatten) L) : OpJ C (.bin .Mult) Γ (.tup ds) (.int k) L Q := OpJ.of (t := .bin .Mult) op_repT (mul_T h2 h3 hn hz q)
/-- x.upper(), plain signs -/
theorem ae_upper (h : AE C o Γ L fun d L1 => ∃ x, d = .str x ∧ asc x = true ∧ x.length ≤ 1000000 ∧ ∀ y : Str, asc y = true → y.length = x.length → Q (.str y) L1) (hbase : attributeBase o "upper" C.X.env (eval o C.X.env) = eval o C.X.env := by rfl) (hline : (apos.endLine == pos.line) = true := by rfl) :
    AE C (.Call (.Attribute o "upper" apos) [] [] pos) Γ L Q := fun F σ H ok QV go =>
  we_of (pe_upper pe_we hbase hline) (h _ σ H ok _ fun v d H1 L1 r c f ⟨x, ed, hx, hl, q⟩ => by
    subst ed
    rw [r.strE]
    refine ⟨⟨x, rfl⟩, x, rfl, rfl, by omega, ?_⟩
    have h1 : ∀ c ∈ x.cps.toList, c < 128 := fun c hc => of_decide_eq_true (List.all_eq_true.mp hx c hc)
    have e := upper_ascii (x := x) h1
    have hc : (Txt.upper x).cps.toList = x.cps.toList.map up1 := by rw [e]; simp
    have ha : asc (Txt.upper x) = true := by
      unfold asc
      rw [hc]
      refine List.all_eq_true.mpr fun z hz => decide_eq_true ?_
      obtain ⟨c, h2, rfl⟩ := List.mem_map.mp hz
      have := h1 c h2
      unfold up1
      split <;> omega
    have hl2 : (Txt.upper x).length = x.length := by
      have := congrArg List.length hc
      simp at this
      exact this
    have so : SOk (Txt.upper x) := ⟨by rw [hl2, sl_eq]; omega, sg_ok.mpr fun c hc => by have := of_decide_eq_true (List.all_eq_true.mp ha c hc); omega⟩
    exact go _ _ H1 L1 (.str _ so) c f (q _ ha hl2))
end
end DL
namespace DL
open PySem PySem.Spec PyProof.Rows L2
theorem tuple_mul0 (l : Addr) (n : Nat) (dd : Option Addr) (sl : Array (Option Value)) (x : Int) (u : Tok) (c0 : (decide (x < -(2 ^ 63)) || decide (x ≥ 2 ^ 63)) = false) :
    Meets (Builtin.«tuple.__mul__» ⟨[.ref l, .int x u], []⟩) (fun _ R s => s.heap.get? l = some { cls := .type "tuple", dict := dd, data := .seq #[] n, slots := sl } ∧ R (.ok (.ret (Value.ref l))) s) :=
  .of_wp fun prog w A R s h => by
    obtain ⟨hp, g, d, tk, os⟩ := s
    obtain ⟨hl, h⟩ := h
    have f1 := AutoSeq1.idx_int
    wp_walk using wpAny_loadPart' hl
    refine wpAny_ite_false (decide_eq_false (by rw [c0]; exact Bool.false_ne_true)) ?_
    wp_walk using wpAny_loadPart' hl
    exact ⟨_, rfl, h⟩
/-- () * n -/
def rRep0 (K : PySem.W.Frag) : R2 := fun x y H Q => ∃ l k, x = .ref l ∧ y = .int k ∧ SqT K H l [] ∧ 2 ≤ k ∧ k ≤ 1000 ∧ Q (.ref l) H
theorem op_rep0 {X : Cx} : OpR X (binaryOp .Mult) (rRep0 X.K) := by
  intro pins s σ H x y v u Q I rx ry h
  obtain ⟨l, k, rfl, rfl, hT, h1, h2, q⟩ := h
  cases rx
  obtain ⟨t, rfl⟩ := ry
  obtain ⟨its, r, ⟨⟨cls, dd, data, sl⟩, ho, hc, n, hd⟩, hs⟩ := I.tuple hT
  cases r
  simp only at hc hd
  subst hc hd
  have c0 : (decide (k < -(2 ^ 63)) || decide (k ≥ 2 ^ 63)) = false := by
    rw [decide_eq_false (by omega), decide_eq_false (by omega)] <;> rfl
  exact wpAny_binaryOp_repeat_ref (T := "tuple") (U := "int") (by decide) ⟨_, ho, rfl⟩ (fun s' => typeIs_int s' k t) noFill_tuple_mul F.fills_int_mul F.slot_int_rmul repeat_tuple F.slot_int_index.lookup
    (call_meets F.slot_int_rmul (typeIs_int s k t) F.entry_int_rmul (F.args_int_rmul_2 _ _) (int_rmul_tuple k t l #[] n dd sl)
      ⟨ho, rfl, ⟨_, ho, rfl⟩, call_meets F.slot_tuple_mul ⟨_, ho, rfl⟩ F.entry_tuple_mul (F.args_tuple_mul_2 _ _) (tuple_mul0 l n dd sl k t c0) ⟨ho, .ref l, H, I, rfl, q⟩⟩)
section
variable {C : DL.Ctx} {Γ : Gm} {L : Lp} {Q : D → Lp → Prop}
theorem j_mulA {ds : List D} {k : Int} (h2 : 2 ≤ k) (h3 : k ≤ 1000) (hz : ds.length ≤ 1000) (q : Q (.tup (List.replicate k.toNat ds).flatten) L) : OpJ C (.bin .Mult) Γ (.tup ds) (.int k) L Q := by
  cases ds with
  | cons d ds => exact j_mulT h2 h3 (fun z => nomatch z) hz q
  | nil =>
    have e : (List.replicate k.toNat ([] : List D)).flatten = [] := by simp
    rw [e] at q
    refine OpJ.of (t := .bin .Mult) op_rep0 fun F vx vy H c rx ry QV go => ?_
    obtain ⟨a, vs, rfl, ha, ra⟩ := rx.tupE
    cases ra
    rw [ry.intE]
    exact ⟨a, k, rfl, rfl, SqT.of ha, h2, h3, go _ _ H L rx c (.refl L H) q⟩
end
end DL
namespace K
open PySem PySem.Spec PyProof.Rows L2 DL
def top (i : Nat) : Stmt := PySem.Challenge.pw_widenedwords_k09_values_that_are_no_text.main.body.getD i (.Pass ⟨0, 0, 0, 0⟩)
def inC (i j : Nat) : Stmt := match top i with | .ClassDef _ _ _ body _ _ _ _ _ _ _ => body.getD j (.Pass ⟨0, 0, 0, 0⟩) | s => s
abbrev s__wall : Stmt := top 0
abbrev s_WideError___init__ : Stmt := inC 2 0
theorem sc_WideError___init__ : FnScope ["self", "value"] ["self", "value"] (defScope s_WideError___init__) := ⟨rfl, rfl, rfl, by decide +kernel, rfl, by decide +kernel, by decide +kernel⟩
abbrev s_Clash___init__ : Stmt := inC 8 0
abbrev s_TooMany___init__ : Stmt := inC 9 0
abbrev s_cells_of : Stmt := top 12
theorem sc_cells_of : FnScope ["words", "word"] ["words"] (defScope s_cells_of) := ⟨rfl, rfl, rfl, by decide +kernel, rfl, by decide +kernel, by decide +kernel⟩
abbrev s_words_at : Stmt := top 13
theorem sc_words_at : FnScope ["cells", "at", "many", "some", "cell"] ["cells", "at", "many"] (defScope s_words_at) := ⟨rfl, rfl, rfl, by decide +kernel, rfl, by decide +kernel, by decide +kernel⟩
abbrev s_key_at : Stmt := top 14
theorem sc_key_at : FnScope ["rules", "cells", "at", "many", "words"] ["rules", "cells", "at"] (defScope s_key_at) := ⟨rfl, rfl, rfl, by decide +kernel, rfl, by decide +kernel, by decide +kernel⟩
abbrev s_is_waiting : Stmt := top 15
theorem sc_is_waiting : FnScope ["rules", "cells", "at", "many", "words", "key"] ["rules", "cells", "at"] (defScope s_is_waiting) := ⟨rfl, rfl, rfl, by decide +kernel, rfl, by decide +kernel, by decide +kernel⟩
abbrev s_rewritten : Stmt := top 16
theorem sc_rewritten : FnScope ["rules", "cells", "is_whole", "found", "at", "key"] ["rules", "cells", "is_whole"] (defScope s_rewritten) := ⟨rfl, rfl, rfl, by decide +kernel, rfl, by decide +kernel, by decide +kernel⟩
abbrev s_steps_by : Stmt := top 17
theorem sc_steps_by : FnScope ["rules", "text", "cells", "found", "at", "many", "key"] ["rules", "text"] (defScope s_steps_by) := ⟨rfl, rfl, rfl, by decide +kernel, rfl, by decide +kernel, by decide +kernel⟩
abbrev s_through : Stmt := top 18
theorem sc_through : FnScope ["stages", "pending", "cells", "is_whole", "held", "rules", "words", "left", "one"] ["stages", "pending", "cells", "is_whole"] (defScope s_through) := ⟨rfl, rfl, rfl, by decide +kernel, rfl, by decide +kernel, by decide +kernel⟩
abbrev s_nothing_pending : Stmt := top 19
theorem sc_nothing_pending : FnScope ["stages", "rules"] ["stages"] (defScope s_nothing_pending) := ⟨rfl, rfl, rfl, by decide +kernel, rfl, by decide +kernel, by decide +kernel⟩
abbrev s_written : Stmt := top 20
theorem sc_written : FnScope ["stages", "text"] ["stages", "text"] (defScope s_written) := ⟨rfl, rfl, rfl, by decide +kernel, rfl, by decide +kernel, by decide +kernel⟩
abbrev s_certain : Stmt := top 21
theorem sc_certain : FnScope ["stages", "text", "pending", "cells"] ["stages", "text"] (defScope s_certain) := ⟨rfl, rfl, rfl, by decide +kernel, rfl, by decide +kernel, by decide +kernel⟩
abbrev s_is_word : Stmt := top 28
theorem sc_is_word : FnScope ["value", "letter"] ["value"] (defScope s_is_word) := ⟨rfl, rfl, rfl, by decide +kernel, rfl, by decide +kernel, by decide +kernel⟩
abbrev s_is_text : Stmt := top 29
theorem sc_is_text : FnScope ["value", "word"] ["value"] (defScope s_is_text) := ⟨rfl, rfl, rfl, by decide +kernel, rfl, by decide +kernel, by decide +kernel⟩
abbrev s_is_key : Stmt := top 30
theorem sc_is_key : FnScope ["value"] ["value"] (defScope s_is_key) := ⟨rfl, rfl, rfl, by decide +kernel, rfl, by decide +kernel, by decide +kernel⟩
abbrev s_is_rising : Stmt := top 31
theorem sc_is_rising : FnScope ["values", "one", "other"] ["values"] (defScope s_is_rising) := ⟨rfl, rfl, rfl, by decide +kernel, rfl, by decide +kernel, by decide +kernel⟩
abbrev s_is_words : Stmt := top 32
theorem sc_is_words : FnScope ["value", "most"] ["value", "most"] (defScope s_is_words) := ⟨rfl, rfl, rfl, by decide +kernel, rfl, by decide +kernel, by decide +kernel⟩
abbrev s_is_cell : Stmt := top 33
theorem sc_is_cell : FnScope ["value"] ["value"] (defScope s_is_cell) := ⟨rfl, rfl, rfl, by decide +kernel, rfl, by decide +kernel, by decide +kernel⟩
abbrev s_is_cells : Stmt := top 34
theorem sc_is_cells : FnScope ["value", "cell"] ["value"] (defScope s_is_cells) := ⟨rfl, rfl, rfl, by decide +kernel, rfl, by decide +kernel, by decide +kernel⟩
abbrev s_Chain___init__ : Stmt := inC 36 1
theorem sc_Chain___init__ : FnScope ["self", "former", "latter"] ["self", "former", "latter"] (defScope s_Chain___init__) := ⟨rfl, rfl, rfl, by decide +kernel, rfl, by decide +kernel, by decide +kernel⟩
abbrev s_Chain_books : Stmt := inC 36 2
theorem sc_Chain_books : FnScope ["self"] ["self"] (defScope s_Chain_books) := ⟨rfl, rfl, rfl, by decide +kernel, rfl, by decide +kernel, by decide +kernel⟩
abbrev s_Chain_words : Stmt := inC 36 3
theorem sc_Chain_words : FnScope ["self"] ["self"] (defScope s_Chain_words) := ⟨rfl, rfl, rfl, by decide +kernel, rfl, by decide +kernel, by decide +kernel⟩
abbrev s_Chain_stages : Stmt := inC 36 4
theorem sc_Chain_stages : FnScope ["self"] ["self"] (defScope s_Chain_stages) := ⟨rfl, rfl, rfl, by decide +kernel, rfl, by decide +kernel, by decide +kernel⟩
abbrev s_Chain_begun : Stmt := inC 36 5
theorem sc_Chain_begun : FnScope ["self", "text"] ["self", "text"] (defScope s_Chain_begun) := ⟨rfl, rfl, rfl, by decide +kernel, rfl, by decide +kernel, by decide +kernel⟩
abbrev s_Chain___call__ : Stmt := inC 36 6
theorem sc_Chain___call__ : FnScope ["self", "text"] ["self", "text"] (defScope s_Chain___call__) := ⟨rfl, rfl, rfl, by decide +kernel, rfl, by decide +kernel, by decide +kernel⟩
abbrev s_Chain___eq__ : Stmt := inC 36 7
theorem sc_Chain___eq__ : FnScope ["self", "other"] ["self", "other"] (defScope s_Chain___eq__) := ⟨rfl, rfl, rfl, by decide +kernel, rfl, by decide +kernel, by decide +kernel⟩
abbrev s_is_rule : Stmt := top 39
theorem sc_is_rule : FnScope ["value"] ["value"] (defScope s_is_rule) := ⟨rfl, rfl, rfl, by decide +kernel, rfl, by decide +kernel, by decide +kernel⟩
abbrev s_is_rules : Stmt := top 40
theorem sc_is_rules : FnScope ["value", "rule", "one", "other"] ["value"] (defScope s_is_rules) := ⟨rfl, rfl, rfl, by decide +kernel, rfl, by decide +kernel, by decide +kernel⟩
abbrev s_in_order : Stmt := top 41
theorem sc_in_order : FnScope ["table", "key"] ["table"] (defScope s_in_order) := ⟨rfl, rfl, rfl, by decide +kernel, rfl, by decide +kernel, by decide +kernel⟩
abbrev s_joined : Stmt := top 42
theorem sc_joined : FnScope ["here", "there", "key", "both"] ["here", "there"] (defScope s_joined) := ⟨rfl, rfl, rfl, by decide +kernel, rfl, by decide +kernel, by decide +kernel⟩
abbrev s_Book___init__ : Stmt := inC 43 1
theorem sc_Book___init__ : FnScope ["self", "rules", "key", "cells"] ["self", "rules"] (defScope s_Book___init__) := ⟨rfl, rfl, rfl, by decide +kernel, rfl, by decide +kernel, by decide +kernel⟩
abbrev s_Book_rules : Stmt := inC 43 2
theorem sc_Book_rules : FnScope ["self"] ["self"] (defScope s_Book_rules) := ⟨rfl, rfl, rfl, by decide +kernel, rfl, by decide +kernel, by decide +kernel⟩
abbrev s_Book_words : Stmt := inC 43 3
theorem sc_Book_words : FnScope ["self", "some", "key", "cells", "words", "word"] ["self"] (defScope s_Book_words) := ⟨rfl, rfl, rfl, by decide +kernel, rfl, by decide +kernel, by decide +kernel⟩
abbrev s_Book_copy : Stmt := inC 43 4
theorem sc_Book_copy : FnScope ["self"] ["self"] (defScope s_Book_copy) := ⟨rfl, rfl, rfl, by decide +kernel, rfl, by decide +kernel, by decide +kernel⟩
abbrev s_Book_drop : Stmt := inC 43 5
abbrev s_Book_stages : Stmt := inC 43 6
theorem sc_Book_stages : FnScope ["self"] ["self"] (defScope s_Book_stages) := ⟨rfl, rfl, rfl, by decide +kernel, rfl, by decide +kernel, by decide +kernel⟩
abbrev s_Book_steps : Stmt := inC 43 7
theorem sc_Book_steps : FnScope ["self", "text"] ["self", "text"] (defScope s_Book_steps) := ⟨rfl, rfl, rfl, by decide +kernel, rfl, by decide +kernel, by decide +kernel⟩
abbrev s_Book_begun : Stmt := inC 43 8
theorem sc_Book_begun : FnScope ["self", "text"] ["self", "text"] (defScope s_Book_begun) := ⟨rfl, rfl, rfl, by decide +kernel, rfl, by decide +kernel, by decide +kernel⟩
abbrev s_Book___call__ : Stmt := inC 43 9
theorem sc_Book___call__ : FnScope ["self", "text"] ["self", "text"] (defScope s_Book___call__) := ⟨rfl, rfl, rfl, by decide +kernel, rfl, by decide +kernel, by decide +kernel⟩
abbrev s_Book___contains__ : Stmt := inC 43 10
theorem sc_Book___contains__ : FnScope ["self", "value"] ["self", "value"] (defScope s_Book___contains__) := ⟨rfl, rfl, rfl, by decide +kernel, rfl, by decide +kernel, by decide +kernel⟩
abbrev s_Book___getitem__ : Stmt := inC 43 11
theorem sc_Book___getitem__ : FnScope ["self", "key"] ["self", "key"] (defScope s_Book___getitem__) := ⟨rfl, rfl, rfl, by decide +kernel, rfl, by decide +kernel, by decide +kernel⟩
abbrev s_Book___setitem__ : Stmt := inC 43 12
theorem sc_Book___setitem__ : FnScope ["self", "key", "cells"] ["self", "key", "cells"] (defScope s_Book___setitem__) := ⟨rfl, rfl, rfl, by decide +kernel, rfl, by decide +kernel, by decide +kernel⟩
abbrev s_Book___iter__ : Stmt := inC 43 13
theorem sc_Book___iter__ : FnScope ["self"] ["self"] (defScope s_Book___iter__) := ⟨rfl, rfl, rfl, by decide +kernel, rfl, by decide +kernel, by decide +kernel⟩
abbrev s_Book___len__ : Stmt := inC 43 14
theorem sc_Book___len__ : FnScope ["self"] ["self"] (defScope s_Book___len__) := ⟨rfl, rfl, rfl, by decide +kernel, rfl, by decide +kernel, by decide +kernel⟩
abbrev s_Book___eq__ : Stmt := inC 43 15
theorem sc_Book___eq__ : FnScope ["self", "other"] ["self", "other"] (defScope s_Book___eq__) := ⟨rfl, rfl, rfl, by decide +kernel, rfl, by decide +kernel, by decide +kernel⟩
abbrev s_Book___or__ : Stmt := inC 43 16
theorem sc_Book___or__ : FnScope ["self", "other"] ["self", "other"] (defScope s_Book___or__) := ⟨rfl, rfl, rfl, by decide +kernel, rfl, by decide +kernel, by decide +kernel⟩
abbrev s_Book___ior__ : Stmt := inC 43 17
theorem sc_Book___ior__ : FnScope ["self", "other"] ["self", "other"] (defScope s_Book___ior__) := ⟨rfl, rfl, rfl, by decide +kernel, rfl, by decide +kernel, by decide +kernel⟩
abbrev s_Book___rshift__ : Stmt := inC 43 18
theorem sc_Book___rshift__ : FnScope ["self", "other"] ["self", "other"] (defScope s_Book___rshift__) := ⟨rfl, rfl, rfl, by decide +kernel, rfl, by decide +kernel, by decide +kernel⟩
abbrev s__law_pot : Stmt := top 45
theorem sc__law_pot : FnScope ["_law_script", "_law_k", "_law_cell_here", "_law_own", "_law_mixed"] ["_law_script", "_law_k"] (defScope s__law_pot) := ⟨rfl, rfl, rfl, by decide +kernel, rfl, by decide +kernel, by decide +kernel⟩
abbrev s__law_take : Stmt := top 46
theorem sc__law_take : FnScope ["_law_pot_here", "_law_upto", "_law_digit", "_law_prime", "_law_mixed"] ["_law_pot_here", "_law_upto"] (defScope s__law_take) := ⟨rfl, rfl, rfl, by decide +kernel, rfl, by decide +kernel, by decide +kernel⟩
abbrev s__law_of : Stmt := top 47
theorem sc__law_of : FnScope ["_law_pot_here", "_law_some"] ["_law_pot_here", "_law_some"] (defScope s__law_of) := ⟨rfl, rfl, rfl, by decide +kernel, rfl, by decide +kernel, by decide +kernel⟩
abbrev s__law_word : Stmt := top 48
theorem sc__law_word : FnScope ["_law_pot_here", "_law_way", "_law_many", "_law_lap"] ["_law_pot_here"] (defScope s__law_word) := ⟨rfl, rfl, rfl, by decide +kernel, rfl, by decide +kernel, by decide +kernel⟩
abbrev s__law_names : Stmt := top 49
theorem sc__law_names : FnScope ["_law_pot_here", "_law_many", "_law_stem", "_law_found", "_law_spot", "_law_lap", "_law_word_here", "_law_one"] ["_law_pot_here", "_law_many"] (defScope s__law_names) := ⟨rfl, rfl, rfl, by decide +kernel, rfl, by decide +kernel, by decide +kernel⟩
abbrev s__law_cell : Stmt := top 50
theorem sc__law_cell : FnScope ["_law_pot_here", "_law_names_here", "_law_some", "_law_lap"] ["_law_pot_here", "_law_names_here"] (defScope s__law_cell) := ⟨rfl, rfl, rfl, by decide +kernel, rfl, by decide +kernel, by decide +kernel⟩
abbrev s__law_cells : Stmt := top 51
theorem sc__law_cells : FnScope ["_law_pot_here", "_law_names_here", "_law_lap"] ["_law_pot_here", "_law_names_here"] (defScope s__law_cells) := ⟨rfl, rfl, rfl, by decide +kernel, rfl, by decide +kernel, by decide +kernel⟩
abbrev s__law_key : Stmt := top 52
theorem sc__law_key : FnScope ["_law_pot_here", "_law_names_here", "_law_lap"] ["_law_pot_here", "_law_names_here"] (defScope s__law_key) := ⟨rfl, rfl, rfl, by decide +kernel, rfl, by decide +kernel, by decide +kernel⟩
abbrev s__law_book : Stmt := top 53
theorem sc__law_book : FnScope ["_law_pot_here", "_law_names_here", "_law_most", "_law_rules", "_law_lap", "_law_key_here"] ["_law_pot_here", "_law_names_here", "_law_most"] (defScope s__law_book) := ⟨rfl, rfl, rfl, by decide +kernel, rfl, by decide +kernel, by decide +kernel⟩
abbrev s__law_text : Stmt := top 54
theorem sc__law_text : FnScope ["_law_pot_here", "_law_names_here", "_law_most", "_law_found", "_law_lap"] ["_law_pot_here", "_law_names_here", "_law_most"] (defScope s__law_text) := ⟨rfl, rfl, rfl, by decide +kernel, rfl, by decide +kernel, by decide +kernel⟩
abbrev s__law_written : Stmt := top 55
theorem sc__law_written : FnScope ["_law_book_here", "_law_cells_here", "_law_rules", "_law_found", "_law_at", "_law_size", "_law_many", "_law_some", "_law_cell_here"] ["_law_book_here", "_law_cells_here"] (defScope s__law_written) := ⟨rfl, rfl, rfl, by decide +kernel, rfl, by decide +kernel, by decide +kernel⟩
abbrev s__law_made : Stmt := top 56
theorem sc__law_made : FnScope ["_law_side_here", "_law_text_here", "_law_cells_here", "_law_word_here", "_law_book_here"] ["_law_side_here", "_law_text_here"] (defScope s__law_made) := ⟨rfl, rfl, rfl, by decide +kernel, rfl, by decide +kernel, by decide +kernel⟩
abbrev s__law_side : Stmt := top 57
theorem sc__law_side : FnScope ["_law_side_here", "_law_first"] ["_law_side_here"] (defScope s__law_side) := ⟨rfl, rfl, rfl, by decide +kernel, rfl, by decide +kernel, by decide +kernel⟩
abbrev s__law_fits_word : Stmt := top 58
theorem sc__law_fits_word : FnScope ["_law_value", "_law_one"] ["_law_value"] (defScope s__law_fits_word) := ⟨rfl, rfl, rfl, by decide +kernel, rfl, by decide +kernel, by decide +kernel⟩
abbrev s__law_fits_words : Stmt := top 59
theorem sc__law_fits_words : FnScope ["_law_value", "_law_least", "_law_most", "_law_one"] ["_law_value", "_law_least", "_law_most"] (defScope s__law_fits_words) := ⟨rfl, rfl, rfl, by decide +kernel, rfl, by decide +kernel, by decide +kernel⟩
abbrev s__law_odd : Stmt := top 60
theorem sc__law_odd : FnScope ["_law_pot_here", "_law_some"] ["_law_pot_here"] (defScope s__law_odd) := ⟨rfl, rfl, rfl, by decide +kernel, rfl, by decide +kernel, by decide +kernel⟩
abbrev s__law_spoilt : Stmt := top 61
theorem sc__law_spoilt : FnScope ["_law_pot_here", "_law_value", "_law_at", "_law_some"] ["_law_pot_here", "_law_value"] (defScope s__law_spoilt) := ⟨rfl, rfl, rfl, by decide +kernel, rfl, by decide +kernel, by decide +kernel⟩
abbrev s__law_asked : Stmt := top 62
theorem sc__law_asked : FnScope ["_law_rewriter", "_law_value", "_law_way", "_law_caught", "_law_told", "error"] ["_law_rewriter", "_law_value", "_law_way"] (defScope s__law_asked) := ⟨rfl, rfl, rfl, by decide +kernel, rfl, by decide +kernel, by decide +kernel⟩
abbrev s__law_thing : Stmt := top 63
theorem sc__law_thing : FnScope ["_law_pot_here", "_law_names_here", "_law_value", "_law_lap"] ["_law_pot_here", "_law_names_here"] (defScope s__law_thing) := ⟨rfl, rfl, rfl, by decide +kernel, rfl, by decide +kernel, by decide +kernel⟩
abbrev s__law_right : Stmt := top 64
theorem sc__law_right : FnScope ["_law_pot_here", "_law_names_here", "_law_side_here", "_law_lap", "_law_rewriter", "_law_twin", "_law_value", "_law_is_good", "_law_way", "_law_told"] ["_law_pot_here"] (defScope s__law_right) := ⟨rfl, rfl, rfl, by decide +kernel, rfl, by decide +kernel, by decide +kernel⟩
abbrev s_law : Stmt := top 65
theorem sc_law : FnScope ["_law_script", "_law_k"] ["_law_script"] (defScope s_law) := ⟨rfl, rfl, rfl, by decide +kernel, rfl, by decide +kernel, by decide +kernel⟩
end K
namespace K
open PySem PySem.Spec PyProof.Rows L2 DL
set_option hygiene false in
local macro_rules | `(tactic| k_get) => `(tactic| first
  | refine ae_name 0 rfl ?_ | refine ae_name 1 rfl ?_ | refine ae_name 2 rfl ?_ | refine ae_name 3 rfl ?_ | refine ae_name 4 rfl ?_ | refine ae_name 5 rfl ?_ | refine ae_name 6 rfl ?_ | refine ae_name 7 rfl ?_ | refine ae_name 8 rfl ?_ | refine ae_name 9 rfl ?_ | refine ae_name 10 rfl ?_ | refine ae_name 11 rfl ?_ | refine ae_name 12 rfl ?_
  | refine ae_int ?_ | refine ae_bl ?_ | refine ae_non ?_ | refine ae_str ?_ | refine ae_tup ?_ | refine ae_lst ?_
  | refine ae_and ?_ | refine ae_or ?_ | refine ae_one ?_ | refine ae_not ?_ | refine ae_neg ?_ | refine ae_ifExp ?_
  | refine ae_eq (u64 hr) ?_ | refine ae_ne (u64 hr) ?_ | refine ae_lt (u64 hr) ?_ | refine ae_le ?_ | refine ae_gt ?_ | refine ae_ge ?_ | refine ae_in (u1 hr) ?_ | refine ae_nin (u1 hr) ?_ | refine ae_is ?_ | refine ae_isn ?_
  | refine ae_lele ?_
  | refine ae_add ?_ | refine ae_sub ?_ | refine ae_mul ?_ | refine ae_mod ?_ | refine ae_div ?_
  | refine ae_slice sl_A ?_ | refine ae_ix (ix_A (u1 hr)) ?_
  | refine ae_c_len B.len ?_ | refine ae_c_int B.int ?_ | refine ae_c_abs B.abs ?_ | refine ae_c_max B.max ?_ | refine ae_c_min B.min ?_ | refine ae_c_isi B.isinstance ?_
  | refine ae_tupL B.tuple (?_ : AL _ (.ListComp _ _ _ _) _ _ _) | refine ae_c_tuple B.tuple ?_ | refine ae_allL B.all ?_ | refine ae_anyL B.any ?_
  | refine ae_call (by assumption) (hr.mono (by omega)) ?_
  | refine ae_append ?_
  | refine ae_bltn (T := "tuple") B.tuple (by decide +kernel) ?_ | refine ae_bltn (T := "str") B.str (by decide +kernel) ?_ | refine ae_bltn (T := "list") B.list (by decide +kernel) ?_ | refine ae_bltn (T := "int") B.int (by decide +kernel) ?_ | refine ae_bltn (T := "bool") B.bool (by decide +kernel) ?_ )
set_option hygiene false in
local macro_rules | `(tactic| k_put) => `(tactic| first
  | refine add_I ?_ | refine add_T ?_ ?_ | refine add_S ?_ ?_ | refine sub_I ?_ | refine eq_I ?_ | refine ne_I ?_ | refine eq_S ?_ | refine ne_S ?_ | refine lt_I ?_ | refine lt_S ?_ | refine le_I ?_ | refine gt_I ?_ | refine ge_I ?_
  | refine isa_N ?_ | refine isnota_N ?_ | refine ixa_T ?_ rfl | refine ixa_N ?_ rfl | refine ixa_R (by assumption) ?_ rfl | refine mod_I ?_ ?_ | refine div_I ?_ ?_ | refine mul_I ?_ ?_ | refine mul_S ?_ ?_ ?_ ?_ | refine in_W (by assumption) ?_ | refine notIn_W (by assumption) ?_ | refine in_sign ?_ | refine in_L (by assumption) ?_ | refine notIn_L (by assumption) ?_ | refine in_T ?_ | refine notIn_T ?_ | refine eq_W0 ?_ | refine eq_W ?_ | refine ne_W ?_ | refine eq_C ?_ | refine ne_C ?_ | refine r_ipI ?_ )
set_option hygiene false in
local macro_rules | `(tactic| k_go) => `(tactic| first
  | (show DL.ASs _ _ _ _ _; first | refine as_one ?_ | refine as_cons ?_ | refine as_nil ?_)
  | (show DL.AS _ _ _ _ _; first | refine as_ret ?_ | refine as_if ?_ | refine as_expr ?_ | refine as_set 0 ?_ | refine as_set 1 ?_ | refine as_set 2 ?_ | refine as_set 3 ?_ | refine as_set 4 ?_ | refine as_set 5 ?_ | refine as_set 6 ?_ | refine as_set 7 ?_ | refine as_set 8 ?_ | refine as_set 9 ?_ | refine as_set 10 ?_ | refine as_set 11 ?_ | refine as_aug 0 ip_add rfl ?_ | refine as_aug 1 ip_add rfl ?_ | refine as_aug 2 ip_add rfl ?_ | refine as_aug 3 ip_add rfl ?_ | refine as_aug 4 ip_add rfl ?_ | refine as_aug 5 ip_add rfl ?_ | refine as_aug 6 ip_add rfl ?_ | refine as_retN ?_ | refine as_pass ?_ | refine as_break ?_ | refine as_continue ?_)
  | (show AE _ _ _ _ _; k_get)
  | (show AT _ _ _ _ _; first | refine at_w (?_ : AW _ (.BoolOp _ _ _) _ _ _) | refine at_not ?_ | refine at_eq (u64 hr) ?_ | refine at_ne (u64 hr) ?_ | refine at_lt (u64 hr) ?_ | refine at_le ?_ | refine at_gt ?_ | refine at_ge ?_ | refine at_in (u1 hr) ?_ | refine at_nin (u1 hr) ?_ | refine at_is ?_ | refine at_isn ?_ | refine at_lele ?_ | refine at_val ?_)
  | (show AW _ _ _ _ _; first | refine aw_and ?_ | refine aw_or ?_ | refine aw_and1 ?_ | refine aw_or1 ?_)
  | (show AA _ _ _ _ _; first | refine aa_cons ?_ | refine aa_nil ?_)
  | (show AO _ _ _ _ _; first | refine ao_some ?_ | refine ao_none ?_)
  | (show L2R _ _ _ _ _ _; k_put)
  | (show LcR _ _ _ _ _; first | refine len_T ?_ | refine len_N ?_ | refine len_S ?_ | refine len_L (by assumption) ?_ | refine len_D (by assumption) ?_ | refine c_intI ?_ | refine c_intB ?_ | refine c_abs ?_ | refine c_max ?_ | refine c_min ?_ | refine c_tupT ?_ | refine lr_tup (by assumption) ?_ | refine isi_tt ?_ | refine isi_ii ?_ | refine isi_ib ?_ | refine isi_ss ?_ | refine isi_is ?_ | refine isi_ts ?_ | refine isi_st ?_ | refine isi_bb ?_)
  | (show LsR _ _ _ _ _ _ _; first | refine sla_T ?_ | refine sla_S ?_)
  | refine ⟨Nat.le_of_ble_eq_true rfl, ?_⟩
  | refine ⟨_, rfl, ?_⟩ | refine ⟨_, _, rfl, ?_⟩ | refine ⟨_, _, _, rfl, ?_⟩ | refine ⟨_, _, _, _, rfl, ?_⟩
  | exact ⟨_, .refl _, q⟩)
set_option hygiene false in
local macro_rules | `(tactic| walk) => `(tactic| repeat k_go)
set_option hygiene false in
local macro_rules | `(tactic| k_few) => `(tactic| first | refine ⟨fun _ => ?_, (fun z => Bool.noConfusion z)⟩ | refine ⟨(fun z => Bool.noConfusion z), fun _ => ?_⟩)
set_option hygiene false in
local macro_rules | `(tactic| k_not) => `(tactic| refine ⟨fun hk => ?_, fun hk => ?_⟩)
structure Bl (mg : Str → Option Value) : Prop where
  tuple : mg "tuple" = none
  list : mg "list" = none
  len : mg "len" = none
  any : mg "any" = none
  all : mg "all" = none
  range : mg "range" = none
  zip : mg "zip" = none
  isinstance : mg "isinstance" = none
  str : mg "str" = none
  sorted : mg "sorted" = none
  set : mg "set" = none
  dict : mg "dict" = none
  max : mg "max" = none
  min : mg "min" = none
  abs : mg "abs" = none
  int : mg "int" = none
  bool : mg "bool" = none
  sum : mg "sum" = none
  reversed : mg "reversed" = none
  repr : mg "repr" = none
def GI (mg : Str → Option Value) (x : Str) (i : Int) : Prop := ∃ t, mg x = some (.int i t)
section
variable {P : Program} {w : World} {K : PySem.W.Frag} {mg : Str → Option Value} {base : Heap} {f : Addr} {fd : FuncData}
def sp_cells_of : SpA := fun ds L Q _ => ∃ ws : List Wd, ds = [dW ws] ∧ Q (dC (ws.map fun w => [w])) L
theorem ok_cells_of (F : Fun K "cells_of" "cells_of" s_cells_of f fd) (hb : Binds K fd ["words"] []) (B : Bl mg) : FnA P w K mg base 1 f sp_cells_of := by
  refine fnA F sc_cells_of hb (fun ds L Q R h => by obtain ⟨ws, rfl, _⟩ := h; rfl) fun cdv A outer s H E ds L Q R hr h => ?_
  obtain ⟨ws, rfl, q⟩ := h
  walk
  refine al_map1 1 (ai_tup ?_)
  walk
  refine fun hz => ⟨_, ws, .str, fun w => dW [w], rfl, trivial, hz, fun y hy s H Cc cl fp Q q => ?_, L, .refl L, ?_⟩
  · walk
    exact q
  · unfold dC at q
    rw [List.map_map] at q
    exact q
def sp_words_at : SpA := fun ds L Q _ => ∃ (cs : List Cell) (a m : Nat), ds = [dC cs, .int a, .int m] ∧ Q (match wAt cs a m with | some ws => dW ws | none => .non) L
theorem ok_words_at (F : Fun K "words_at" "words_at" s_words_at f fd) (hb : Binds K fd ["cells", "at", "many"] []) (B : Bl mg) : FnA P w K mg base 1 f sp_words_at := by
  refine fnA F sc_words_at hb (fun ds L Q R h => by obtain ⟨_, _, _, rfl, _⟩ := h; rfl) fun cdv A outer s H E ds L Q R hr h => ?_
  obtain ⟨cs, a, m, rfl, q⟩ := h
  have e1 : cut (cs.map dW) (some (a : Int)) (some ((a : Int) + (m : Int))) = ((cs.drop a).take m).map dW := by
    rw [show (a : Int) + (m : Int) = ((a + m : Nat) : Int) by omega, cut_nn, Nat.add_sub_cancel_left, ← List.map_drop, ← List.map_take]
  unfold wAt at q
  walk
  rw [e1]
  generalize (cs.drop a).take m = sm at q ⊢
  rw [List.length_map]
  k_not
  · have hk := of_decide_eq_true hk
    rw [if_pos (.inl (by omega))] at q
    k_few
    walk
  · have hk := of_decide_eq_false hk
    walk
    refine al_map1 4 (ai_tup ?_)
    walk
    refine fun hz => ⟨_, sm, dW, fun c => .bl (!decide ((c.length : Int) = 1)), rfl, trivial, hz, fun y hy s H Cc cl fp Q q => ?_, sm.map fun c => !decide ((c.length : Int) = 1), by rw [List.map_map]; rfl, ?_⟩
    · walk
      rw [List.length_map]
      exact q
    · walk
      have ea : (sm.map fun c => !decide ((c.length : Int) = 1)).any id = sm.any fun c => decide (c.length ≠ 1) := by
        rw [List.any_map]
        congr 1
        funext c
        by_cases h : c.length = 1 <;> simp [h]
        omega
      rw [ea]
      k_not
      · rw [if_pos (.inr hk)] at q
        walk
      · rename_i hz2
        rw [if_neg (fun z => z.elim (fun z => hz2 (by omega)) (fun z => by rw [hk] at z; cases z))] at q
        have h1 : ∀ c ∈ sm, c.length = 1 := fun c hc => by simpa using List.any_eq_false.mp hk c hc
        walk
        refine al_map1 4 (ai_tup ?_)
        walk
        refine fun hz => ⟨_, sm, dW, fun c => .str (c.headD Str.empty), rfl, trivial, hz, fun y hy s H Cc cl fp Q q => ?_, L, .refl L, ?_⟩
        · match y, h1 y hy with
          | [x], _ =>
            walk
            exact q
        · rw [show (sm.map fun c => D.str (c.headD Str.empty)) = (sm.map fun c => c.headD Str.empty).map D.str by rw [List.map_map]; rfl]
          exact q
def sp_key_at : SpA := fun ds L Q _ => ∃ (t : D) (rs : Rl) (cs : List Cell) (a : Nat), ds = [t, dC cs, .int a] ∧ DR L t (tbl rs) ∧ Q (dW (kAt rs cs a)) L
theorem ok_key_at (F : Fun K "key_at" "key_at" s_key_at f fd) (hb : Binds K fd ["rules", "cells", "at"] []) (B : Bl mg) (g1 : GI mg "MOST_KEY_rewriting" 3) (d1 : Def P w K mg base "words_at" 1 sp_words_at) : FnA P w K mg base 2 f sp_key_at := by
  refine fnA F sc_key_at hb (fun ds L Q R h => by obtain ⟨_, _, _, _, rfl, _⟩ := h; rfl) fun cdv A outer s H E ds L Q R hr h => ?_
  obtain ⟨t, rs, cs, a, rfl, ht, q⟩ := h
  obtain ⟨tk, g1⟩ := g1
  refine as_cons (as_for (ai_range3 B.range (aa_cons (ae_globI g1 (aa_cons (ae_int (aa_cons (ae_neg (ae_int ⟨1, rfl, aa_nil ⟨3, 0, -1, 3, rfl, RgC.neg (by decide) (by decide) (by decide) (by decide), ?_⟩⟩)))))))))
  refine ⟨fun i Γ2 L2 => L2 = L ∧ (∃ x y, Γ2 = [some t, some (dC cs), some (.int a), x, y]) ∧ (∀ m, 3 - i < m → m ≤ 3 → fits rs cs a m = false), ⟨rfl, ⟨none, none, rfl⟩, fun m h1 h2 => absurd h1 (by omega)⟩, fun _ _ _ _ => trivial, ?_, ?_⟩
  · rintro i d Γ2 L2 hd ⟨rfl, ⟨x, y, rfl⟩, hn⟩
    have hi : i < 3 ∧ d = .int ((3 - i : Nat) : Int) := by
      unfold rangeC at hd
      rw [List.getElem?_map] at hd
      by_cases hi : i < 3
      · rw [List.getElem?_range hi] at hd
        refine ⟨hi, ?_⟩
        have e := (Option.some.inj hd).symm
        rw [e]
        exact congrArg D.int (by omega)
      · rw [List.getElem?_eq_none (by simpa using hi)] at hd
        cases hd
    obtain ⟨hi, rfl⟩ := hi
    have nx : fits rs cs a (3 - i) = false → ∀ m, 3 - (i + 1) < m → m ≤ 3 → fits rs cs a m = false := fun hf m h1 h2 => by
      by_cases e : m = 3 - i
      · rw [e]; exact hf
      · exact hn m (by omega) h2
    refine ⟨_, _, ag_name 3, ?_⟩
    walk
    cases hw : wAt cs a (3 - i) with
    | none =>
      have hf : fits rs cs a (3 - i) = false := by unfold fits; rw [hw]
      walk
      k_few
      k_few
      exact as_nil ⟨rfl, ⟨_, _, rfl⟩, nx hf⟩
    | some ws =>
      walk
      k_few
      walk
      k_not
      · walk
        have hf : fits rs cs a (3 - i) = true := by unfold fits; rw [hw]; exact hk
        have hz : szAt rs cs a = 3 - i := by
          unfold szAt
          match i, hi with
          | 0, _ => rw [if_pos hf]
          | 1, _ => rw [hn 3 (by omega) (by omega), if_neg (by decide), if_pos hf]
          | 2, _ => rw [hn 3 (by omega) (by omega), hn 2 (by omega) (by omega), if_neg (by decide), if_neg (by decide), if_pos hf]
        have hk : kAt rs cs a = ws := by
          unfold kAt
          rw [hz, if_neg (by omega), hw]
          rfl
        rw [hk] at q
        exact ⟨L2, .refl L2, q⟩
      · exact as_nil ⟨rfl, ⟨_, _, rfl⟩, nx (by unfold fits; rw [hw]; exact hk)⟩
  · rintro Γ2 L2 ⟨rfl, ⟨x, y, rfl⟩, hn⟩
    have hz : szAt rs cs a = 0 := by
      unfold szAt
      rw [hn 3 (by unfold rangeC; simp) (by omega), hn 2 (by unfold rangeC; simp) (by omega), hn 1 (by unfold rangeC; simp) (by omega)]
      rfl
    rw [kAt_none hz] at q
    walk
def sp_is_waiting : SpA := fun ds L Q _ => ∃ (t : D) (rs : Rl) (cs : List Cell) (a : Nat), ds = [t, dC cs, .int a] ∧ DR L t (tbl rs) ∧ rs.length ≤ 1000 ∧ a ≤ cs.length ∧ Q (.bl (wait rs cs a)) L
theorem ok_is_waiting (F : Fun K "is_waiting" "is_waiting" s_is_waiting f fd) (hb : Binds K fd ["rules", "cells", "at"] []) (B : Bl mg) (g1 : GI mg "MOST_KEY_rewriting" 3) (d1 : Def P w K mg base "words_at" 1 sp_words_at) : FnA P w K mg base 2 f sp_is_waiting := by
  refine fnA F sc_is_waiting hb (fun ds L Q R h => by obtain ⟨_, _, _, _, rfl, _⟩ := h; rfl) fun cdv A outer s H E ds L Q R hr h => ?_
  obtain ⟨t, rs, cs, a, rfl, ht, hz, ha, q⟩ := h
  obtain ⟨tk, g1⟩ := g1
  have em : ((cs.map dW).length : Int) - (a : Int) = ((cs.length - a : Nat) : Int) := by rw [List.length_map]; omega
  unfold wait at q
  walk
  rw [em]
  generalize cs.length - a = m at q ⊢
  refine ae_globI g1 ?_
  walk
  k_not
  · rw [decide_eq_false (by have := of_decide_eq_true hk; omega : ¬ m < 3)] at q
    walk
  · rw [decide_eq_true (by have := of_decide_eq_false hk; omega : m < 3)] at q
    walk
    cases hw : wAt cs a m with
    | none =>
      rw [hw] at q
      walk
      k_few
      exact ⟨L, .refl L, q⟩
    | some ws =>
      rw [hw] at q
      walk
      k_few
      walk
      refine al_keys1 5 (α := List Wd × List Cell) (xs := rs) (g := fun r => dW r.1) (f := fun r => .bl (decide ((m : Int) < (r.1.length : Int)) && decide (r.1.take m = ws))) ht (fun L' Q q => ?_) (by unfold tbl; rw [List.map_map]; exact List.map_congr_left fun r _ => kD_kS r.1) (by rw [sl_eq]; omega) (fun L' le y hy s H Cc cl fp Q q => ?_) ?_
      · walk
        exact q
      · walk
        rw [List.length_map]
        k_not
        · rw [hk] at q
          walk
          rw [cut_to, ← List.map_take]
          show L2R _ _ (dW _) _ _ _
          walk
          exact q
        · rw [hk] at q
          exact q
      · refine ⟨rs.map fun r => decide ((m : Int) < (r.1.length : Int)) && decide (r.1.take m = ws), by rw [List.map_map]; rfl, L, .refl L, ?_⟩
        rw [List.any_map]
        refine q_bl q ?_
        rw [Bool.true_and]
        show rs.any _ = rs.any _
        congr 1
        funext r
        show _ = (decide ((m : Int) < (r.1.length : Int)) && decide (r.1.take m = ws))
        congr 1
        exact decide_eq_decide.mpr (by omega)
end
end K
namespace K
open PySem PySem.Spec PyProof.Rows L2 DL
set_option hygiene false in
local macro_rules | `(tactic| k_get) => `(tactic| first
  | refine ae_name 0 rfl ?_ | refine ae_name 1 rfl ?_ | refine ae_name 2 rfl ?_ | refine ae_name 3 rfl ?_ | refine ae_name 4 rfl ?_ | refine ae_name 5 rfl ?_ | refine ae_name 6 rfl ?_ | refine ae_name 7 rfl ?_ | refine ae_name 8 rfl ?_ | refine ae_name 9 rfl ?_ | refine ae_name 10 rfl ?_ | refine ae_name 11 rfl ?_ | refine ae_name 12 rfl ?_
  | refine ae_int ?_ | refine ae_bl ?_ | refine ae_non ?_ | refine ae_str ?_ | refine ae_tup ?_ | refine ae_lst ?_
  | refine ae_and ?_ | refine ae_or ?_ | refine ae_one ?_ | refine ae_not ?_ | refine ae_neg ?_ | refine ae_ifExp ?_
  | refine ae_eq (u64 hr) ?_ | refine ae_ne (u64 hr) ?_ | refine ae_lt (u64 hr) ?_ | refine ae_le ?_ | refine ae_gt ?_ | refine ae_ge ?_ | refine ae_in (u1 hr) ?_ | refine ae_nin (u1 hr) ?_ | refine ae_is ?_ | refine ae_isn ?_
  | refine ae_lele ?_
  | refine ae_add ?_ | refine ae_sub ?_ | refine ae_mul ?_ | refine ae_mod ?_ | refine ae_div ?_
  | refine ae_slice sl_A ?_ | refine ae_ix (ix_A (u1 hr)) ?_
  | refine ae_c_len B.len ?_ | refine ae_c_int B.int ?_ | refine ae_c_abs B.abs ?_ | refine ae_c_max B.max ?_ | refine ae_c_min B.min ?_ | refine ae_c_isi B.isinstance ?_
  | refine ae_tupL B.tuple (?_ : AL _ (.ListComp _ _ _ _) _ _ _) | refine ae_c_tuple B.tuple ?_ | refine ae_allL B.all ?_ | refine ae_anyL B.any ?_
  | refine ae_call (by assumption) (hr.mono (by omega)) ?_
  | refine ae_append ?_
  | refine ae_bltn (T := "tuple") B.tuple (by decide +kernel) ?_ | refine ae_bltn (T := "str") B.str (by decide +kernel) ?_ | refine ae_bltn (T := "list") B.list (by decide +kernel) ?_ | refine ae_bltn (T := "int") B.int (by decide +kernel) ?_ | refine ae_bltn (T := "bool") B.bool (by decide +kernel) ?_ )
set_option hygiene false in
local macro_rules | `(tactic| k_put) => `(tactic| first
  | refine add_I ?_ | refine add_T ?_ ?_ | refine add_S ?_ ?_ | refine sub_I ?_ | refine eq_I ?_ | refine ne_I ?_ | refine eq_S ?_ | refine ne_S ?_ | refine lt_I ?_ | refine lt_S ?_ | refine le_I ?_ | refine gt_I ?_ | refine ge_I ?_
  | refine isa_N ?_ | refine isnota_N ?_ | refine ixa_T ?_ rfl | refine ixa_N ?_ rfl | refine ixa_R (by assumption) ?_ rfl | refine mod_I ?_ ?_ | refine div_I ?_ ?_ | refine mul_I ?_ ?_ | refine mul_S ?_ ?_ ?_ ?_ | refine in_W (by assumption) ?_ | refine notIn_W (by assumption) ?_ | refine in_sign ?_ | refine in_L (by assumption) ?_ | refine notIn_L (by assumption) ?_ | refine in_T ?_ | refine notIn_T ?_ | refine eq_W0 ?_ | refine eq_W ?_ | refine ne_W ?_ | refine eq_C ?_ | refine ne_C ?_ | refine r_ipI ?_ )
set_option hygiene false in
local macro_rules | `(tactic| k_go) => `(tactic| first
  | (show DL.ASs _ _ _ _ _; first | refine as_one ?_ | refine as_cons ?_ | refine as_nil ?_)
  | (show DL.AS _ _ _ _ _; first | refine as_ret ?_ | refine as_if ?_ | refine as_expr ?_ | refine as_set 0 ?_ | refine as_set 1 ?_ | refine as_set 2 ?_ | refine as_set 3 ?_ | refine as_set 4 ?_ | refine as_set 5 ?_ | refine as_set 6 ?_ | refine as_set 7 ?_ | refine as_set 8 ?_ | refine as_set 9 ?_ | refine as_set 10 ?_ | refine as_set 11 ?_ | refine as_aug 0 ip_add rfl ?_ | refine as_aug 1 ip_add rfl ?_ | refine as_aug 2 ip_add rfl ?_ | refine as_aug 3 ip_add rfl ?_ | refine as_aug 4 ip_add rfl ?_ | refine as_aug 5 ip_add rfl ?_ | refine as_aug 6 ip_add rfl ?_ | refine as_retN ?_ | refine as_pass ?_ | refine as_break ?_ | refine as_continue ?_)
  | (show AE _ _ _ _ _; k_get)
  | (show AT _ _ _ _ _; first | refine at_w (?_ : AW _ (.BoolOp _ _ _) _ _ _) | refine at_not ?_ | refine at_eq (u64 hr) ?_ | refine at_ne (u64 hr) ?_ | refine at_lt (u64 hr) ?_ | refine at_le ?_ | refine at_gt ?_ | refine at_ge ?_ | refine at_in (u1 hr) ?_ | refine at_nin (u1 hr) ?_ | refine at_is ?_ | refine at_isn ?_ | refine at_lele ?_ | refine at_val ?_)
  | (show AW _ _ _ _ _; first | refine aw_and ?_ | refine aw_or ?_ | refine aw_and1 ?_ | refine aw_or1 ?_)
  | (show AA _ _ _ _ _; first | refine aa_cons ?_ | refine aa_nil ?_)
  | (show AO _ _ _ _ _; first | refine ao_some ?_ | refine ao_none ?_)
  | (show L2R _ _ _ _ _ _; k_put)
  | (show LcR _ _ _ _ _; first | refine len_T ?_ | refine len_N ?_ | refine len_S ?_ | refine len_L (by assumption) ?_ | refine len_D (by assumption) ?_ | refine c_intI ?_ | refine c_intB ?_ | refine c_abs ?_ | refine c_max ?_ | refine c_min ?_ | refine c_tupT ?_ | refine lr_tup (by assumption) ?_ | refine isi_tt ?_ | refine isi_ii ?_ | refine isi_ib ?_ | refine isi_ss ?_ | refine isi_is ?_ | refine isi_ts ?_ | refine isi_st ?_ | refine isi_bb ?_)
  | (show LsR _ _ _ _ _ _ _; first | refine sla_T ?_ | refine sla_S ?_)
  | refine ⟨Nat.le_of_ble_eq_true rfl, ?_⟩
  | refine ⟨_, rfl, ?_⟩ | refine ⟨_, _, rfl, ?_⟩ | refine ⟨_, _, _, rfl, ?_⟩ | refine ⟨_, _, _, _, rfl, ?_⟩
  | exact ⟨_, .refl _, q⟩)
set_option hygiene false in
local macro_rules | `(tactic| walk) => `(tactic| repeat k_go)
set_option hygiene false in
local macro_rules | `(tactic| k_few) => `(tactic| first | refine ⟨fun _ => ?_, (fun z => Bool.noConfusion z)⟩ | refine ⟨(fun z => Bool.noConfusion z), fun _ => ?_⟩)
set_option hygiene false in
local macro_rules | `(tactic| k_not) => `(tactic| refine ⟨fun hk => ?_, fun hk => ?_⟩)
section
variable {P : Program} {w : World} {K : PySem.W.Frag} {mg : Str → Option Value} {base : Heap} {f : Addr} {fd : FuncData}
def sp_rewritten : SpA := fun ds L Q _ => ∃ (t : D) (rs : Rl) (cs : List Cell) (wh : Bool), ds = [t, dC cs, .bl wh] ∧ DR L t (tbl rs) ∧ RL2 rs ∧ rs.length ≤ 1000 ∧ cs.length ≤ 1000000 ∧ Q (.tup [dC (rw2 wh rs cs).1, dC (rw2 wh rs cs).2]) L
theorem ok_rewritten (F : Fun K "rewritten" "rewritten" s_rewritten f fd) (hb : Binds K fd ["rules", "cells", "is_whole"] []) (B : Bl mg) (d1 : Def P w K mg base "key_at" 2 sp_key_at) (d2 : Def P w K mg base "is_waiting" 2 sp_is_waiting) : FnA P w K mg base 3 f sp_rewritten := by
  refine fnA F sc_rewritten hb (fun ds L Q R h => by obtain ⟨_, _, _, _, rfl, _⟩ := h; rfl) fun cdv A outer s H E ds L Q R hr h => ?_
  obtain ⟨t, rs, cs, wh, rfl, ht, hR, hrl, hz, q⟩ := h
  refine as_cons (as_par 3 4 ?_)
  walk
  intro l hl
  walk
  refine as_post (fun Γ' L' => ∃ (fnd : List Cell) (a : Nat) (x : Option D), L' = put L l (.lst (fnd.map dW)) ∧ Γ' = [some t, some (dC cs), some (.bl wh), some (.ptr l), some (.int a), x] ∧ (rwG wh rs cs cs.length 0) = (fnd, a)) ?_ ?_
  · refine as_while (fun m Γ1 L1 => ∃ (fnd : List Cell) (a : Nat) (x : Option D), L1 = put L l (.lst (fnd.map dW)) ∧ Γ1 = [some t, some (dC cs), some (.bl wh), some (.ptr l), some (.int a), x] ∧ (rwG wh rs cs cs.length 0) = (fnd ++ (rwG wh rs cs m a).1, (rwG wh rs cs m a).2) ∧ cs.length ≤ a + m ∧ fnd.length ≤ 2 * a ∧ a ≤ cs.length) cs.length ⟨[], 0, none, rfl, rfl, rfl, by omega, Nat.le_refl _, by omega⟩ ?_
    rintro m Γ1 L1 ⟨fnd, a, x, rfl, rfl, inv, hm, hf, ha⟩
    have ht2 : DR (put L l (.lst (fnd.map dW))) t (tbl rs) := ht.put hl
    have hlen : (cs.map dW).length = cs.length := List.length_map ..
    have out : goes wh rs cs a = false → ∃ (fnd' : List Cell) (a' : Nat) (x' : Option D), put L l (.lst (fnd.map dW)) = put L l (.lst (fnd'.map dW)) ∧ [some t, some (dC cs), some (.bl wh), some (.ptr l), some (.int a), x] = [some t, some (dC cs), some (.bl wh), some (.ptr l), some (.int a'), x'] ∧ (rwG wh rs cs cs.length 0) = (fnd', a') := fun hg => ⟨fnd, a, x, rfl, rfl, by rw [inv, rwG_end hg, List.append_nil]⟩
    refine AT.mono (Q := fun k L2 => k = goes wh rs cs a ∧ L2 = put L l (.lst (fnd.map dW))) ?_ ?_
    · unfold goes
      walk
      rw [hlen]
      k_not
      · rw [decide_eq_true (by have := of_decide_eq_true hk; omega : a < cs.length)]
        walk
        k_not
        · rw [hk]
          exact ⟨rfl, rfl⟩
        · rw [hk]
          walk
          exact ⟨t, rs, cs, a, rfl, ht2, hrl, ha, _, rfl, rfl, rfl⟩
      · rw [decide_eq_false (by have := of_decide_eq_false hk; omega : ¬ a < cs.length)]
        exact ⟨rfl, rfl⟩
    · rintro k L2 ⟨hk, rfl⟩
      refine ⟨fun h => ?_, fun h => out (by rw [← hk]; exact h)⟩
      have hg : goes wh rs cs a = true := by rw [← hk]; exact h
      have hlt := goes_lt hg
      obtain ⟨m, rfl⟩ : ∃ m', m = m' + 1 := ⟨m - 1, by omega⟩
      rw [rwG_step hg] at inv
      have hwl := wrt_len hR cs a
      have hend := kAt_end (rs := rs) hlt
      walk
      refine ⟨t, rs, cs, a, rfl, ht2, ?_⟩
      walk
      walk
      k_not
      · have h0 : szAt rs cs a = 0 := by
          have := kAt_len rs cs a
          cases e : kAt rs cs a with
          | nil => rw [e] at this; exact this.symm
          | cons y ys => rw [e] at hk; cases hk
        have hg : atI (cs.map dW) ((a : Nat) : Int) = some (dW (cs.getD a [])) := by
          refine atI_nat ?_
          rw [List.getElem?_map, List.getElem?_eq_getElem hlt, List.getD_eq_getElem?_getD, List.getElem?_eq_getElem hlt]
          rfl
        have ew : wrt rs cs a = [cs.getD a []] := if_pos h0
        walk
        refine ⟨l, _, rfl, put_same, ?_⟩
        walk
        refine ixa_T ⟨_, put_same, by rw [List.length_map, sl_eq]; omega, ?_⟩ hg
        walk
        refine ⟨m, by omega, fnd ++ [cs.getD a []], a + 1, some (dW (kAt rs cs a)), ?_, rfl, ?_, by omega, by rw [List.length_append, List.length_singleton]; omega, by omega⟩
        · rw [put_put, List.map_append]; rfl
        · rw [inv, ew, h0, List.append_assoc]; rfl
      · have h0 : szAt rs cs a ≠ 0 := fun h0 => by
          rw [kAt_none h0] at hk
          cases hk
        obtain ⟨z, h1, h2, h3⟩ := kAt_some h0
        have h4 := hR.lk h2
        have ew : wrt rs cs a = z := by unfold wrt; rw [if_neg h0, h2]; rfl
        walk
        refine ae_extT ?_
        walk
        refine ⟨l, _, rfl, put_same, ?_⟩
        walk
        refine ixa_W ht2 ⟨_, _, rfl, put_same, by rw [List.length_map, List.length_map, sl_eq]; omega, ?_⟩ h2
        walk
        refine ⟨m, by omega, fnd ++ z, a + szAt rs cs a, some (dW (kAt rs cs a)), ?_, ?_, ?_, by omega, by rw [List.length_append]; omega, by omega⟩
        · rw [put_put, List.map_append]
        · show [some t, some (dC cs), some (.bl wh), some (.ptr l), some (.int ((a : Int) + (((kAt rs cs a).map D.str).length : Int))), some (dW (kAt rs cs a))] = _
          rw [List.length_map, h3]
          rfl
        · rw [inv, ew, Nat.max_eq_right (by omega), List.append_assoc]
  · rintro Γ' L' ⟨fnd, a, x, rfl, rfl, inv⟩
    unfold rw2 at q
    rw [inv] at q
    walk
    have hp : LR (put L l (.lst (fnd.map dW))) (.ptr l) (fnd.map dW) := .st put_same
    walk
    rw [cut_from, ← List.map_drop]
    exact ⟨L, le_put hl, q⟩
end
end K
namespace K
open PySem PySem.Spec PyProof.Rows L2 DL
set_option hygiene false in
local macro_rules | `(tactic| k_get) => `(tactic| first
  | refine ae_name 0 rfl ?_ | refine ae_name 1 rfl ?_ | refine ae_name 2 rfl ?_ | refine ae_name 3 rfl ?_ | refine ae_name 4 rfl ?_ | refine ae_name 5 rfl ?_ | refine ae_name 6 rfl ?_ | refine ae_name 7 rfl ?_ | refine ae_name 8 rfl ?_ | refine ae_name 9 rfl ?_ | refine ae_name 10 rfl ?_ | refine ae_name 11 rfl ?_ | refine ae_name 12 rfl ?_
  | refine ae_int ?_ | refine ae_bl ?_ | refine ae_non ?_ | refine ae_str ?_ | refine ae_tup ?_ | refine ae_lst ?_
  | refine ae_and ?_ | refine ae_or ?_ | refine ae_one ?_ | refine ae_not ?_ | refine ae_neg ?_ | refine ae_ifExp ?_
  | refine ae_eq (u64 hr) ?_ | refine ae_ne (u64 hr) ?_ | refine ae_lt (u64 hr) ?_ | refine ae_le ?_ | refine ae_gt ?_ | refine ae_ge ?_ | refine ae_in (u1 hr) ?_ | refine ae_nin (u1 hr) ?_ | refine ae_is ?_ | refine ae_isn ?_
  | refine ae_lele ?_
  | refine ae_add ?_ | refine ae_sub ?_ | refine ae_mul ?_ | refine ae_mod ?_ | refine ae_div ?_
  | refine ae_slice sl_A ?_ | refine ae_ix (ix_A (u1 hr)) ?_
  | refine ae_c_len B.len ?_ | refine ae_c_int B.int ?_ | refine ae_c_abs B.abs ?_ | refine ae_c_max B.max ?_ | refine ae_c_min B.min ?_ | refine ae_c_isi B.isinstance ?_
  | refine ae_tupL B.tuple (?_ : AL _ (.ListComp _ _ _ _) _ _ _) | refine ae_c_tuple B.tuple ?_ | refine ae_allL B.all ?_ | refine ae_anyL B.any ?_
  | refine ae_call (by assumption) (hr.mono (by omega)) ?_
  | refine ae_append ?_
  | refine ae_bltn (T := "tuple") B.tuple (by decide +kernel) ?_ | refine ae_bltn (T := "str") B.str (by decide +kernel) ?_ | refine ae_bltn (T := "list") B.list (by decide +kernel) ?_ | refine ae_bltn (T := "int") B.int (by decide +kernel) ?_ | refine ae_bltn (T := "bool") B.bool (by decide +kernel) ?_ )
set_option hygiene false in
local macro_rules | `(tactic| k_put) => `(tactic| first
  | refine add_I ?_ | refine add_T ?_ ?_ | refine add_S ?_ ?_ | refine sub_I ?_ | refine eq_I ?_ | refine ne_I ?_ | refine eq_S ?_ | refine ne_S ?_ | refine lt_I ?_ | refine lt_S ?_ | refine le_I ?_ | refine gt_I ?_ | refine ge_I ?_
  | refine isa_N ?_ | refine isnota_N ?_ | refine ixa_T ?_ rfl | refine ixa_N ?_ rfl | refine ixa_R (by assumption) ?_ rfl | refine mod_I ?_ ?_ | refine div_I ?_ ?_ | refine mul_I ?_ ?_ | refine mul_S ?_ ?_ ?_ ?_ | refine in_W (by assumption) ?_ | refine notIn_W (by assumption) ?_ | refine in_sign ?_ | refine in_L (by assumption) ?_ | refine notIn_L (by assumption) ?_ | refine in_T ?_ | refine notIn_T ?_ | refine eq_W0 ?_ | refine eq_W ?_ | refine ne_W ?_ | refine eq_C ?_ | refine ne_C ?_ | refine r_ipI ?_ )
set_option hygiene false in
local macro_rules | `(tactic| k_go) => `(tactic| first
  | (show DL.ASs _ _ _ _ _; first | refine as_one ?_ | refine as_cons ?_ | refine as_nil ?_)
  | (show DL.AS _ _ _ _ _; first | refine as_ret ?_ | refine as_if ?_ | refine as_expr ?_ | refine as_set 0 ?_ | refine as_set 1 ?_ | refine as_set 2 ?_ | refine as_set 3 ?_ | refine as_set 4 ?_ | refine as_set 5 ?_ | refine as_set 6 ?_ | refine as_set 7 ?_ | refine as_set 8 ?_ | refine as_set 9 ?_ | refine as_set 10 ?_ | refine as_set 11 ?_ | refine as_aug 0 ip_add rfl ?_ | refine as_aug 1 ip_add rfl ?_ | refine as_aug 2 ip_add rfl ?_ | refine as_aug 3 ip_add rfl ?_ | refine as_aug 4 ip_add rfl ?_ | refine as_aug 5 ip_add rfl ?_ | refine as_aug 6 ip_add rfl ?_ | refine as_retN ?_ | refine as_pass ?_ | refine as_break ?_ | refine as_continue ?_)
  | (show AE _ _ _ _ _; k_get)
  | (show AT _ _ _ _ _; first | refine at_w (?_ : AW _ (.BoolOp _ _ _) _ _ _) | refine at_not ?_ | refine at_eq (u64 hr) ?_ | refine at_ne (u64 hr) ?_ | refine at_lt (u64 hr) ?_ | refine at_le ?_ | refine at_gt ?_ | refine at_ge ?_ | refine at_in (u1 hr) ?_ | refine at_nin (u1 hr) ?_ | refine at_is ?_ | refine at_isn ?_ | refine at_lele ?_ | refine at_val ?_)
  | (show AW _ _ _ _ _; first | refine aw_and ?_ | refine aw_or ?_ | refine aw_and1 ?_ | refine aw_or1 ?_)
  | (show AA _ _ _ _ _; first | refine aa_cons ?_ | refine aa_nil ?_)
  | (show AO _ _ _ _ _; first | refine ao_some ?_ | refine ao_none ?_)
  | (show L2R _ _ _ _ _ _; k_put)
  | (show LcR _ _ _ _ _; first | refine len_T ?_ | refine len_N ?_ | refine len_S ?_ | refine len_L (by assumption) ?_ | refine len_D (by assumption) ?_ | refine c_intI ?_ | refine c_intB ?_ | refine c_abs ?_ | refine c_max ?_ | refine c_min ?_ | refine c_tupT ?_ | refine lr_tup (by assumption) ?_ | refine isi_tt ?_ | refine isi_ii ?_ | refine isi_ib ?_ | refine isi_ss ?_ | refine isi_is ?_ | refine isi_ts ?_ | refine isi_st ?_ | refine isi_bb ?_)
  | (show LsR _ _ _ _ _ _ _; first | refine sla_T ?_ | refine sla_S ?_)
  | refine ⟨Nat.le_of_ble_eq_true rfl, ?_⟩
  | refine ⟨_, rfl, ?_⟩ | refine ⟨_, _, rfl, ?_⟩ | refine ⟨_, _, _, rfl, ?_⟩ | refine ⟨_, _, _, _, rfl, ?_⟩
  | exact ⟨_, .refl _, q⟩)
set_option hygiene false in
local macro_rules | `(tactic| walk) => `(tactic| repeat k_go)
set_option hygiene false in
local macro_rules | `(tactic| k_few) => `(tactic| first | refine ⟨fun _ => ?_, (fun z => Bool.noConfusion z)⟩ | refine ⟨(fun z => Bool.noConfusion z), fun _ => ?_⟩)
set_option hygiene false in
local macro_rules | `(tactic| k_not) => `(tactic| refine ⟨fun hk => ?_, fun hk => ?_⟩)
section
variable {P : Program} {w : World} {K : PySem.W.Frag} {mg : Str → Option Value} {base : Heap} {f : Addr} {fd : FuncData}
/-- stages: their tables, rules, what is pending -/
abbrev Sg := List (D × Rl × List Wd)
def SgOk (L : Lp) (ts : Sg) : Prop := ts.length ≤ 2 ∧ ∀ t ∈ ts, DR L t.1 (tbl t.2.1) ∧ RL2 t.2.1 ∧ t.2.1.length ≤ 1000 ∧ t.2.2.length ≤ 1000
def dT (ts : Sg) : D := .tup (ts.map (·.1))
def dP (ts : Sg) : D := .tup (ts.map fun t => dW t.2.2)
def dH (hs : List (List Wd)) : D := .tup (hs.map dW)
def sp_through : SpA := fun ds L Q _ => ∃ (ts : Sg) (cs : List Cell) (wh : Bool), ds = [dT ts, dP ts, dC cs, .bl wh] ∧ SgOk L ts ∧ cs.length ≤ 100000 ∧ Q (.tup [dH (thr wh (ts.map (·.2)) cs).1, dC (thr wh (ts.map (·.2)) cs).2]) L
theorem ok_through (F : Fun K "through" "through" s_through f fd) (hb : Binds K fd ["stages", "pending", "cells", "is_whole"] []) (B : Bl mg) (d1 : Def P w K mg base "cells_of" 1 sp_cells_of) (d2 : Def P w K mg base "rewritten" 3 sp_rewritten) : FnA P w K mg base 4 f sp_through := by
  refine fnA F sc_through hb (fun ds L Q R h => by obtain ⟨_, _, _, rfl, _⟩ := h; rfl) fun cdv A outer s H E ds L Q R hr h => ?_
  obtain ⟨ts, cs, wh, rfl, ⟨hl2, hs⟩, hz, q⟩ := h
  walk
  intro l hl
  walk
  refine as_for (ai_zipT B.zip ?_)
  walk
  intro hz2
  have hzl : (zipD (ts.map (·.1)) (ts.map fun t => dW t.2.2)).length = ts.length := by
    unfold zipD
    rw [List.length_zipWith, List.length_map, List.length_map, Nat.min_self]
  refine ⟨fun i Γ2 L2 => L2 = put L l (.lst ((thr wh ((ts.map (·.2)).take i) cs).1.map dW)) ∧ ∃ x y z u, Γ2 = [some (dT ts), some (dP ts), some (dC (thr wh ((ts.map (·.2)).take i) cs).2), some (.bl wh), some (.ptr l), x, y, z, u], ⟨rfl, none, none, none, none, rfl⟩, fun _ _ _ _ => trivial, ?_, ?_⟩
  · rintro i d Γ2 L2 hd ⟨rfl, x, y, z, u, rfl⟩
    have hi : i < ts.length := by
      have := (List.getElem?_eq_some_iff.mp hd).1
      rwa [hzl] at this
    have hd2 : d = .tup [ts[i].1, dW ts[i].2.2] := by
      have e := (List.getElem?_eq_some_iff.mp hd).2
      rw [← e]
      unfold zipD
      simp
    subst hd2
    have hti := hs ts[i] (List.getElem_mem hi)
    have etk : thr wh ((ts.map (·.2)).take (i + 1)) cs = thrS wh (thr wh ((ts.map (·.2)).take i) cs) ts[i].2 := by
      rw [List.take_add_one, List.getElem?_map, List.getElem?_eq_getElem hi]
      exact thr_snoc ..
    have hcl := thr_len2 (wh := wh) (qs := ts.map (·.2)) cs (fun q hq => by
      obtain ⟨t, ht, rfl⟩ := List.mem_map.mp hq
      exact ⟨(hs t ht).2.1, (hs t ht).2.2.2⟩) i (by rw [List.length_map]; omega)
    have hgr : grow cs.length i ≤ 300000 := by
      match i, (show i < 2 by omega) with
      | 0, _ => show cs.length ≤ _; omega
      | 1, _ => show 2 * (cs.length + 1000) ≤ _; omega
    have hln := thr_len1 wh ((ts.map (·.2)).take i) cs
    rw [List.length_take, List.length_map] at hln
    generalize thr wh ((ts.map (·.2)).take i) cs = T at *
    generalize ts[i] = t at *
    obtain ⟨tb, rs, pd⟩ := t
    replace hti : DR L tb (tbl rs) ∧ RL2 rs ∧ rs.length ≤ 1000 ∧ pd.length ≤ 1000 := hti
    have hop : (one pd).length = pd.length := List.length_map ..
    have h1 := rw2_one wh rs (one pd ++ T.2)
    refine ⟨_, _, ag_tup (ags_cons (ag_name 5) (ags_cons (ag_name 6) ags_nil)), ?_⟩
    refine as_cons (as_asg ?_)
    walk
    · show sp_rewritten [tb, .tup ((one pd).map dW ++ T.2.map dW), .bl wh] _ _ _
      rw [← List.map_append]
      refine ⟨tb, rs, one pd ++ T.2, wh, rfl, hti.1.put hl, hti.2.1, hti.2.2.1, by rw [List.length_append]; omega, ?_⟩
      refine ⟨_, _, ag_tup (ags_cons (ag_name 2) (ags_cons (ag_name 7) ags_nil)), ?_⟩
      walk
      refine ⟨l, _, rfl, put_same, ?_⟩
      walk
      refine al_map1 8 (ai_tup ?_)
      walk
      refine fun hz => ⟨_, (rw2 wh rs (one pd ++ T.2)).2, dW, fun c => .str (hd0 c), rfl, trivial, hz, fun y hy s H Cc cl fp Q q => ?_, _, put_same, by rw [List.length_map, sl_eq]; omega, ?_⟩
      · match y, h1 y hy with
        | [x], _ =>
          walk
          exact q
      · walk
        dsimp only
        rw [etk]
        refine ⟨?_, _, _, _, _, rfl⟩
        rw [put_put]
        unfold thrS
        rw [List.map_append, show ((rw2 wh rs (one pd ++ T.2)).2.map fun c => D.str (hd0 c)) = ((rw2 wh rs (one pd ++ T.2)).2.map hd0).map D.str by rw [List.map_map]; rfl]
        rfl
    · show ((one pd).map dW).length + (T.2.map dW).length ≤ _
      rw [List.length_map, List.length_map, sl_eq]
      omega
  · rintro Γ2 L2 ⟨rfl, x, y, z, u, rfl⟩
    rw [hzl, List.take_of_length_le (by rw [List.length_map]; exact Nat.le_refl _)]
    have hp : LR (put L l (.lst ((thr wh (ts.map (·.2)) cs).1.map dW))) (.ptr l) ((thr wh (ts.map (·.2)) cs).1.map dW) := .st put_same
    walk
    exact ⟨L, le_put hl, q⟩
def sp_nothing_pending : SpA := fun ds L Q _ => ∃ (ts : List D), ds = [.tup ts] ∧ Q (.tup (ts.map fun _ => .tup [])) L
theorem ok_nothing_pending (F : Fun K "nothing_pending" "nothing_pending" s_nothing_pending f fd) (hb : Binds K fd ["stages"] []) (B : Bl mg) : FnA P w K mg base 1 f sp_nothing_pending := by
  refine fnA F sc_nothing_pending hb (fun ds L Q R h => by obtain ⟨_, rfl, _⟩ := h; rfl) fun cdv A outer s H E ds L Q R hr h => ?_
  obtain ⟨ts, rfl, q⟩ := h
  walk
  refine al_map1 1 (ai_tup ?_)
  walk
  refine fun hz => ⟨_, ts, id, fun _ => .tup [], by rw [List.map_id], trivial, hz, fun y hy s H Cc cl fp Q q => ?_, L, .refl L, q⟩
  walk
  exact q
/-- stages with nothing pending -/
def sg0 (ts : List (D × Rl)) : Sg := ts.map fun t => (t.1, t.2, [])
def sp_written : SpA := fun ds L Q _ => ∃ (ts : List (D × Rl)) (ws : List Wd), ds = [.tup (ts.map (·.1)), dW ws] ∧ SgOk L (sg0 ts) ∧ ws.length ≤ 100000 ∧ Q (dC (thr true ((sg0 ts).map (·.2)) (one ws)).2) L
theorem ok_written (F : Fun K "written" "written" s_written f fd) (hb : Binds K fd ["stages", "text"] []) (B : Bl mg) (d1 : Def P w K mg base "cells_of" 1 sp_cells_of) (d2 : Def P w K mg base "nothing_pending" 1 sp_nothing_pending) (d3 : Def P w K mg base "through" 4 sp_through) : FnA P w K mg base 5 f sp_written := by
  refine fnA F sc_written hb (fun ds L Q R h => by obtain ⟨_, _, rfl, _⟩ := h; rfl) fun cdv A outer s H E ds L Q R hr h => ?_
  obtain ⟨ts, ws, rfl, hs, hz, q⟩ := h
  have e1 : dT (sg0 ts) = .tup (ts.map (·.1)) := by unfold dT sg0; rw [List.map_map]; rfl
  have e2 : dP (sg0 ts) = .tup ((ts.map (·.1)).map fun _ => .tup []) := by unfold dP sg0; rw [List.map_map, List.map_map]; rfl
  walk
  rw [← e1, ← e2]
  refine ⟨sg0 ts, one ws, true, rfl, hs, by show (ws.map _).length ≤ _; rw [List.length_map]; exact hz, ?_⟩
  walk
end
end K
namespace K
open PySem PySem.Spec PyProof.Rows L2 DL
def GS (mg : Str → Option Value) (x y : Str) : Prop := ∃ t, mg x = some (.str y t)
section
variable {P : Program} {w : World} {K : PySem.W.Frag} {mg : Str → Option Value} {base : Heap} {f : Addr} {fd : FuncData}
def sp_is_word : SpA := fun ds L Q _ => ∃ d : D, ds = [d] ∧ okE d = true ∧ Q (.bl (wdD d)) L
theorem ok_is_word (F : Fun K "is_word" "is_word" s_is_word f fd) (hb : Binds K fd ["value"] []) (B : Bl mg) (g1 : GI mg "MOST_LETTERS" 8) (g2 : GS mg "LETTERS" "abcdefghijklmnopqrstuvwxyz") : FnA P w K mg base 1 f sp_is_word := by
  refine fnA F sc_is_word hb (fun ds L Q R h => ?_) fun cdv A outer s H E ds L Q R hr h => ?_
  · obtain ⟨_, rfl, _⟩ := h; rfl
  · obtain ⟨d, rfl, hd, q⟩ := h
    obtain ⟨t1, g1⟩ := g1
    obtain ⟨t2, g2⟩ := g2
    by_cases hx : ∃ x, d = .str x
    · obtain ⟨x, rfl⟩ := hx
      refine as_cons (as_if (at_w (aw_or (at_not (at_val (ae_callB call_isA B.isinstance (aa_cons (ae_name 0 rfl (aa_cons (ae_bltn (T := "str") B.str (by decide +kernel) (aa_nil (okE_isi hd (kitE_str hd) ⟨true, rfl, (fun z => nomatch z), fun _ => aw_or1 (at_not ?_)⟩))))))))))))
      refine at_chain op_le op_le (ae_int (ae_callB call_len_str B.len (aa_cons (ae_name 0 rfl (aa_nil (c_lenS (r_le ⟨_, rfl, fun h1 => ae_globI g1 (r_le ⟨_, rfl, ?_⟩), fun h1 => ?_⟩)))))) ) (pt_chain op_le op_le pe_we pe_we pe_we)
      · have h1' := of_decide_eq_true h1
        refine ⟨fun h2 => as_one (as_ret (ae_bl ⟨L, .refl L, ?_⟩)), fun h2 => as_nil (as_one (as_ret (ae_allLc [("letter", 1)] B.all (ai_str (ae_name 0 rfl ⟨x, rfl, fun hx => ⟨fun d => match d with | .str z => decide (z.cps.toList.headD 0 ∈ abc) | _ => false, trivial, ?_, each1 (fun j hj => hj) (fun i d hd s H Cc cl fp => ⟨ag_name 1, fun Q q => ?_⟩), L, .refl L, ?_⟩⟩)))))⟩
        · have e : wdD (.str x) = false := by
            show wdS x = false
            unfold wdS
            have : ¬ (x.length : Int) ≤ 8 := by simpa using h2
            rw [decide_eq_false (by omega : ¬ x.length ≤ 8), Bool.and_false]
            rfl
          rw [e] at q
          exact q
        · rw [signs_len]; exact hx.len
        · obtain ⟨k, hk, rfl⟩ := signs_get hd
          exact ae_cmp op_in_sign rfl (ae_name 1 rfl (ae_globS g2 (r_inSign q) (hz := ⟨by decide +kernel, by decide +kernel⟩)))
        · have e : wdD (.str x) = (DL.sgnsOf x).all fun d => match d with | .str z => decide (z.cps.toList.headD 0 ∈ abc) | _ => false := by
            show wdS x = _
            unfold wdS
            have h8 : (x.length : Int) ≤ 8 := by simpa using h2
            rw [decide_eq_true (by omega : 1 ≤ x.length), decide_eq_true (by omega : x.length ≤ 8)]
            unfold DL.sgnsOf
            rw [List.all_map]
            rfl
          rw [e] at q
          exact q
      · refine ⟨fun _ => as_one (as_ret (ae_bl ⟨L, .refl L, ?_⟩)), (fun z => nomatch z)⟩
        have e : wdD (.str x) = false := by
          show wdS x = false
          unfold wdS
          have : ¬ (1 : Int) ≤ (x.length : Int) := of_decide_eq_false h1
          rw [decide_eq_false (by omega : ¬ 1 ≤ x.length)]
          rfl
        rw [e] at q
        exact q
    · have e : wdD d = false := by
        cases d <;> first | rfl | exact absurd ⟨_, rfl⟩ hx
      have hk : kitB (tyD d) "str" = some false := by
        rw [kitE_str hd]
        cases d <;> first | rfl | exact absurd ⟨_, rfl⟩ hx
      rw [e] at q
      exact as_cons (as_if (at_w (aw_or (at_not (at_val (ae_callB call_isA B.isinstance (aa_cons (ae_name 0 rfl (aa_cons (ae_bltn (T := "str") B.str (by decide +kernel) (aa_nil (okE_isi hd hk ⟨false, rfl, fun _ => ⟨fun _ => as_one (as_ret (ae_bl ⟨L, .refl L, q⟩)), (fun z => nomatch z)⟩, (fun z => nomatch z)⟩))))))))))))
end
end K
namespace K
open PySem PySem.Spec PyProof.Rows L2 DL
section
variable {P : Program} {w : World} {K : PySem.W.Frag} {mg : Str → Option Value} {base : Heap} {f : Addr} {fd : FuncData}
def sp_is_text : SpA := fun ds L Q _ => ∃ d : D, ds = [d] ∧ okE d = true ∧ Q (.bl (txD d)) L
theorem ok_is_text (F : Fun K "is_text" "is_text" s_is_text f fd) (hb : Binds K fd ["value"] []) (B : Bl mg) (d1 : Def P w K mg base "is_word" 1 sp_is_word) : FnA P w K mg base 2 f sp_is_text := by
  refine fnA F sc_is_text hb (fun ds L Q R h => ?_) fun cdv A outer s H E ds L Q R hr h => ?_
  · obtain ⟨_, rfl, _⟩ := h; rfl
  · obtain ⟨d, rfl, hd, q⟩ := h
    refine as_one (as_ret (ae_and (ae_callB call_isA B.isinstance (aa_cons (ae_name 0 rfl (aa_cons (ae_bltn (T := "tuple") B.tuple (by decide +kernel) (aa_nil (okE_isi hd (kitE_tup hd) ?_)))))))))
    cases d with
    | tup ds =>
      rw [okE] at hd
      refine ⟨_, rfl, fun _ => ae_one (ae_allLc [("word", 1)] B.all (ai_tup (ae_name 0 rfl ⟨_, rfl, fun hz => ⟨wdD, trivial, hz, each1 (fun j hj => hj) (fun i d hi s H Cc cl fp => ⟨ag_name 1, fun Q q => ae_call d1 (hr.mono (by omega)) (aa_cons (ae_name 1 rfl (aa_nil ⟨d, rfl, okEs_get hd hi, q⟩)))⟩), L, .refl L, q⟩⟩))), (fun z => nomatch z)⟩
    | _ => exact ⟨_, rfl, (fun z => nomatch z), fun _ => ⟨L, .refl L, q⟩⟩
def sp_is_key : SpA := fun ds L Q _ => ∃ d : D, ds = [d] ∧ okE d = true ∧ Q (.bl (kyD d)) L
theorem ok_is_key (F : Fun K "is_key" "is_key" s_is_key f fd) (hb : Binds K fd ["value"] []) (B : Bl mg) (g1 : GI mg "MOST_KEY_words" 3) (d1 : Def P w K mg base "is_text" 2 sp_is_text) : FnA P w K mg base 3 f sp_is_key := by
  refine fnA F sc_is_key hb (fun ds L Q R h => ?_) fun cdv A outer s H E ds L Q R hr h => ?_
  · obtain ⟨_, rfl, _⟩ := h; rfl
  · obtain ⟨d, rfl, hd, q⟩ := h
    obtain ⟨t1, g1⟩ := g1
    refine as_one (as_ret (ae_and (ae_call d1 (hr.mono (by omega)) (aa_cons (ae_name 0 rfl (aa_nil ⟨d, rfl, hd, _, rfl, fun ht => ?_, fun ht => ⟨L, .refl L, ?_⟩⟩))))))
    · obtain ⟨ws, rfl, hw⟩ := txD_dW ht
      have e : kyD (dW ws) = (decide (1 ≤ ws.length) && decide (ws.length ≤ 3)) := by
        show ((ws.map D.str).all wdD && decide (1 ≤ (ws.map D.str).length) && decide ((ws.map D.str).length ≤ 3)) = _
        rw [show (ws.map D.str).all wdD = true from ht, List.length_map]
        rfl
      rw [e] at q
      refine ae_one (ae_chain op_le op_le (ae_int (ae_callB call_len_seq B.len (aa_cons (ae_name 0 rfl (aa_nil (c_lenT (r_le ⟨_, rfl, fun h1 => ae_globI g1 (r_le ⟨L, .refl L, ?_⟩), fun h1 => ⟨L, .refl L, ?_⟩⟩))))))) (pe_chain op_le op_le pe_we pe_we pe_we))
      · have h1 := of_decide_eq_true h1
        rw [List.length_map] at h1 ⊢
        rw [decide_eq_true (by omega : 1 ≤ ws.length), Bool.true_and] at q
        rw [show decide ((ws.length : Int) ≤ 3) = decide (ws.length ≤ 3) from by by_cases h : ws.length ≤ 3 <;> simp [h] <;> omega]
        exact q
      · have h1 := of_decide_eq_false h1
        rw [List.length_map] at h1
        rw [decide_eq_false (by omega : ¬ 1 ≤ ws.length)] at q
        exact q
    · have e : kyD d = false := by
        cases d with
        | tup ds =>
          show (ds.all wdD && _ && _) = false
          rw [show ds.all wdD = false from ht]
          rfl
        | _ => rfl
      rw [e] at q
      exact q
def sp_is_rising : SpA := fun ds L Q _ => ∃ ws : List Wd, ds = [dW ws] ∧ Q (.bl (adj ws)) L
theorem ok_is_rising (F : Fun K "is_rising" "is_rising" s_is_rising f fd) (hb : Binds K fd ["values"] []) (B : Bl mg) : FnA P w K mg base 1 f sp_is_rising := by
  refine fnA F sc_is_rising hb (fun ds L Q R h => ?_) fun cdv A outer s H E ds L Q R hr h => ?_
  · obtain ⟨_, rfl, _⟩ := h; rfl
  · obtain ⟨ws, rfl, q⟩ := h
    refine as_one (as_ret (ae_allLc [("one", 1), ("other", 2)] B.all (ai_zipT B.zip (aa_cons (ae_name 0 rfl (aa_cons (ae_slice sl_tupA (ae_name 0 rfl (ao_some (ae_int ⟨1, rfl, ao_none (s_tup (aa_nil ⟨_, _, rfl, fun hz => ⟨ltP, trivial, ?_, ?_, L, .refl L, ?_⟩⟩))⟩)))))))))) 
    · unfold zipD
      rw [List.length_zipWith]
      exact Nat.le_trans (Nat.min_le_left _ _) hz
    · intro i d hd
      have : ∃ x y, d = .tup [.str x, .str y] := by
        unfold zipD at hd
        rw [List.getElem?_zipWith] at hd
        rw [cut_one, ← List.map_drop, List.getElem?_map, List.getElem?_map] at hd
        cases e1 : ws[i]? with
        | none => rw [e1] at hd; cases hd
        | some x =>
          cases e2 : (ws.drop 1)[i]? with
          | none => rw [e1, e2] at hd; cases hd
          | some y => rw [e1, e2] at hd; cases hd; exact ⟨x, y, rfl⟩
      obtain ⟨x, y, rfl⟩ := this
      refine ⟨_, _, ?_, fun s H Cc cl fp => ⟨ag_tup (ags_cons (ag_name 1) (ags_cons (ag_name 2) ags_nil)), fun Q q => ae_cmp op_lt_str rfl (ae_name 1 rfl (ae_name 2 rfl (r_ltS q)))⟩⟩
      intro j hj
      exact hj
    · rw [cut_one, ← List.map_drop, adj_zip]
      exact q
def sp_is_words : SpA := fun ds L Q _ => ∃ (d : D) (m : Nat), ds = [d, .int m] ∧ okE d = true ∧ Q (.bl (wsD m d)) L
theorem ok_is_words (F : Fun K "is_words" "is_words" s_is_words f fd) (hb : Binds K fd ["value", "most"] []) (B : Bl mg) (d1 : Def P w K mg base "is_text" 2 sp_is_text) (d2 : Def P w K mg base "is_rising" 1 sp_is_rising) : FnA P w K mg base 3 f sp_is_words := by
  refine fnA F sc_is_words hb (fun ds L Q R h => ?_) fun cdv A outer s H E ds L Q R hr h => ?_
  · obtain ⟨_, _, rfl, _⟩ := h; rfl
  · obtain ⟨d, m, rfl, hd, q⟩ := h
    refine as_one (as_ret (ae_and (ae_call d1 (hr.mono (by omega)) (aa_cons (ae_name 0 rfl (aa_nil ⟨d, rfl, hd, _, rfl, fun ht => ?_, fun ht => ⟨L, .refl L, ?_⟩⟩))))))
    · obtain ⟨ws, rfl, hw⟩ := txD_dW ht
      rw [wsD_dW m ws ht] at q
      refine ae_and (ae_cmp op_le rfl (ae_callB call_len_seq B.len (aa_cons (ae_name 0 rfl (aa_nil (c_lenT (ae_name 1 rfl (r_le ⟨_, rfl, fun h1 => ae_one (ae_call d2 (hr.mono (by omega)) (aa_cons (ae_name 0 rfl (aa_nil ⟨ws, rfl, L, .refl L, ?_⟩)))), fun h1 => ⟨L, .refl L, ?_⟩⟩))))))))
      · have h1 := of_decide_eq_true h1
        rw [List.length_map] at h1
        rw [decide_eq_true (by omega : ws.length ≤ m), Bool.true_and] at q
        exact q
      · have h1 := of_decide_eq_false h1
        rw [List.length_map] at h1
        rw [decide_eq_false (by omega : ¬ ws.length ≤ m)] at q
        exact q
    · rw [wsD_no ht] at q
      exact q
def sp_is_cell : SpA := fun ds L Q _ => ∃ (d : D), ds = [d] ∧ okE d = true ∧ Q (.bl (ceD d)) L
theorem ok_is_cell (F : Fun K "is_cell" "is_cell" s_is_cell f fd) (hb : Binds K fd ["value"] []) (g1 : GI mg "MOST_CELL" 3) (d1 : Def P w K mg base "is_words" 3 sp_is_words) : FnA P w K mg base 4 f sp_is_cell := by
  refine fnA F sc_is_cell hb (fun ds L Q R h => ?_) fun cdv A outer s H E ds L Q R hr h => ?_
  · obtain ⟨_, rfl, _⟩ := h; rfl
  · obtain ⟨d, rfl, hd, q⟩ := h
    obtain ⟨t1, g1⟩ := g1
    refine as_one (as_ret (ae_call d1 (hr.mono (by omega)) (aa_cons (ae_name 0 rfl (aa_cons (ae_globI g1 (aa_nil ⟨d, 3, rfl, hd, L, .refl L, ?_⟩)))))))
    rw [ceD_ws] at q
    exact q
def sp_is_cells : SpA := fun ds L Q _ => ∃ (d : D), ds = [d] ∧ okE d = true ∧ Q (.bl (csD d)) L
theorem ok_is_cells (F : Fun K "is_cells" "is_cells" s_is_cells f fd) (hb : Binds K fd ["value"] []) (B : Bl mg) (g1 : GI mg "MOST_CELLS" 2) (d1 : Def P w K mg base "is_cell" 4 sp_is_cell) : FnA P w K mg base 5 f sp_is_cells := by
  refine fnA F sc_is_cells hb (fun ds L Q R h => ?_) fun cdv A outer s H E ds L Q R hr h => ?_
  · obtain ⟨_, rfl, _⟩ := h; rfl
  · obtain ⟨d, rfl, hd, q⟩ := h
    obtain ⟨t1, g1⟩ := g1
    refine as_one (as_ret (ae_and (ae_callB call_isA B.isinstance (aa_cons (ae_name 0 rfl (aa_cons (ae_bltn (T := "tuple") B.tuple (by decide +kernel) (aa_nil (okE_isi hd (kitE_tup hd) ?_)))))))))
    cases d with
    | tup ds =>
      rw [okE] at hd
      refine ⟨_, rfl, fun _ => ?_, (fun z => nomatch z)⟩
      refine ae_and (ae_cmp op_le rfl (ae_callB call_len_seq B.len (aa_cons (ae_name 0 rfl (aa_nil (c_lenT (ae_globI g1 (r_le ⟨_, rfl, fun h1 => ae_one (ae_allLc [("cell", 1)] B.all (ai_tup (ae_name 0 rfl ⟨_, rfl, fun hz => ⟨ceD, trivial, hz, each1 (fun j hj => hj) (fun i d hi s H Cc cl fp => ⟨ag_name 1, fun Q q => ae_call d1 (hr.mono (by omega)) (aa_cons (ae_name 1 rfl (aa_nil ⟨d, rfl, okEs_get hd hi, q⟩)))⟩), L, .refl L, ?_⟩⟩))), fun h1 => ⟨L, .refl L, ?_⟩⟩))))))))
      · have h1 := of_decide_eq_true h1
        rw [show csD (.tup ds) = (decide (ds.length ≤ 2) && ds.all ceD) from rfl, decide_eq_true (by omega : ds.length ≤ 2)] at q
        exact q
      · have h1 := of_decide_eq_false h1
        rw [show csD (.tup ds) = (decide (ds.length ≤ 2) && ds.all ceD) from rfl, decide_eq_false (by omega : ¬ ds.length ≤ 2)] at q
        exact q
    | _ => exact ⟨_, rfl, (fun z => nomatch z), fun _ => ⟨L, .refl L, q⟩⟩
end
end K
namespace K
open PySem PySem.Spec PyProof.Rows L2 DL
section
variable {P : Program} {w : World} {K : PySem.W.Frag} {mg : Str → Option Value} {base : Heap} {f : Addr} {fd : FuncData}
def sp_is_rule : SpA := fun ds L Q _ => ∃ d : D, ds = [d] ∧ okE d = true ∧ Q (.bl (ruD d)) L
theorem ok_is_rule (F : Fun K "is_rule" "is_rule" s_is_rule f fd) (hb : Binds K fd ["value"] []) (B : Bl mg) (d1 : Def P w K mg base "is_key" 3 sp_is_key) (d2 : Def P w K mg base "is_cells" 5 sp_is_cells) : FnA P w K mg base 6 f sp_is_rule := by
  refine fnA F sc_is_rule hb (fun ds L Q R h => ?_) fun cdv A outer s H E ds L Q R hr h => ?_
  · obtain ⟨_, rfl, _⟩ := h; rfl
  · obtain ⟨d, rfl, hd, q⟩ := h
    refine as_one (as_ret (ae_and (ae_callB call_isA B.isinstance (aa_cons (ae_name 0 rfl (aa_cons (ae_bltn (T := "tuple") B.tuple (by decide +kernel) (aa_nil (okE_isi hd (kitE_tup hd) ?_)))))))))
    cases d with
    | tup ds =>
      rw [okE] at hd
      refine ⟨_, rfl, fun _ => ?_, (fun z => nomatch z)⟩
      refine ae_and (ae_cmp op_eq rfl (ae_callB call_len_seq B.len (aa_cons (ae_name 0 rfl (aa_nil (c_lenT (ae_int (r_eqI ⟨_, rfl, fun h1 => ?_, fun h1 => ⟨L, .refl L, ?_⟩⟩))))))))
      · have h1 := of_decide_eq_true h1
        match ds, h1 with
        | [k, c], _ =>
          rw [okEs, okEs, Bool.and_eq_true, Bool.and_eq_true] at hd
          refine ae_and (ae_call d1 (hr.mono (by omega)) (aa_cons (ae_ix ix_tup (ae_name 0 rfl (ae_int (r_ixT rfl (aa_nil ⟨k, rfl, hd.1, _, rfl, fun hk => ae_one (ae_call d2 (hr.mono (by omega)) (aa_cons (ae_ix ix_tup (ae_name 0 rfl (ae_int (r_ixT rfl (aa_nil ⟨c, rfl, hd.2.1, L, .refl L, ?_⟩))))))), fun hk => ⟨L, .refl L, ?_⟩⟩)))))))
          · rw [show ruD (.tup [k, c]) = (kyD k && csD c) from rfl, hk] at q
            exact q
          · rw [show ruD (.tup [k, c]) = (kyD k && csD c) from rfl, hk] at q
            exact q
      · have h1 := of_decide_eq_false h1
        have e : ruD (.tup ds) = false := by
          unfold ruD
          split
          · rename_i k c e
            cases e
            exact absurd rfl h1
          · rfl
        rw [e] at q
        exact q
    | _ => exact ⟨_, rfl, (fun z => nomatch z), fun _ => ⟨L, .refl L, q⟩⟩
def sp_is_rules : SpA := fun ds L Q _ => ∃ d : D, ds = [d] ∧ okE d = true ∧ Q (.bl (rsD d)) L
theorem ok_is_rules (F : Fun K "is_rules" "is_rules" s_is_rules f fd) (hb : Binds K fd ["value"] []) (B : Bl mg) (g1 : GI mg "MOST_RULES" 6) (d1 : Def P w K mg base "is_rule" 6 sp_is_rule) : FnA P w K mg base 7 f sp_is_rules := by
  refine fnA F sc_is_rules hb (fun ds L Q R h => ?_) fun cdv A outer s H E ds L Q R hr h => ?_
  · obtain ⟨_, rfl, _⟩ := h; rfl
  · obtain ⟨d, rfl, hd, q⟩ := h
    obtain ⟨t1, g1⟩ := g1
    refine as_cons (as_if (at_w (aw_or (at_not (at_val (ae_callB call_isA B.isinstance (aa_cons (ae_name 0 rfl (aa_cons (ae_bltn (T := "tuple") B.tuple (by decide +kernel) (aa_nil (okE_isi hd (kitE_tup hd) ?_))))))))))))
    cases d with
    | tup ds =>
      rw [okE] at hd
      refine ⟨_, rfl, (fun z => nomatch z), fun _ => ?_⟩
      refine aw_or (at_cmp op_gt rfl (ae_callB call_len_seq B.len (aa_cons (ae_name 0 rfl (aa_nil (c_lenT (ae_globI g1 (r_gt ⟨_, rfl, fun h1 => ⟨fun _ => as_one (as_ret (ae_bl ⟨L, .refl L, ?_⟩)), (fun z => nomatch z)⟩, fun h1 => aw_or1 (at_not (at_val (ae_allLc [("rule", 1)] B.all (ai_tup (ae_name 0 rfl ⟨_, rfl, fun hz => ⟨ruD, trivial, hz, each1 (fun j hj => hj) (fun i d hi s H Cc cl fp => ⟨ag_name 1, fun Q q => ae_call d1 (hr.mono (by omega)) (aa_cons (ae_name 1 rfl (aa_nil ⟨d, rfl, okEs_get hd hi, q⟩)))⟩), ⟨_, rfl, fun hn => as_one (as_ret (ae_bl ⟨L, .refl L, ?_⟩)), fun hn => as_nil ?_⟩⟩⟩)))))⟩))))))))
      · have h1 := of_decide_eq_true h1
        rw [show rsD (.tup ds) = (decide (ds.length ≤ 6) && ds.all ruD && (zipD ds (ds.drop 1)).all ltR) from rfl, decide_eq_false (by omega : ¬ ds.length ≤ 6)] at q
        exact q
      · have hn : ds.all ruD = false := by simpa using hn
        rw [show rsD (.tup ds) = (decide (ds.length ≤ 6) && ds.all ruD && (zipD ds (ds.drop 1)).all ltR) from rfl, hn, Bool.and_false] at q
        exact q
      · have hn : ds.all ruD = true := by simpa using hn
        have h1 := of_decide_eq_false h1
        obtain ⟨rs, rfl⟩ := rules_dR hn
        rw [show rsD (.tup (rs.map dRu)) = (decide ((rs.map dRu).length ≤ 6) && (rs.map dRu).all ruD && (zipD (rs.map dRu) ((rs.map dRu).drop 1)).all ltR) from rfl, hn, decide_eq_true (by omega : (rs.map dRu).length ≤ 6), Bool.true_and, Bool.true_and] at q
        refine as_one (as_ret (ae_allLc [("one", 2), ("other", 3)] B.all (ai_zipT B.zip (aa_cons (ae_name 0 rfl (aa_cons (ae_slice sl_tupA (ae_name 0 rfl (ao_some (ae_int ⟨1, rfl, ao_none (s_tup (aa_nil ⟨_, _, rfl, fun hz => ⟨ltR, trivial, ?_, ?_, L, .refl L, ?_⟩⟩))⟩))))))))))
        · unfold zipD
          rw [List.length_zipWith]
          exact Nat.le_trans (Nat.min_le_left _ _) hz
        · intro i d hd
          have : ∃ x y, d = .tup [dRu x, dRu y] := by
            unfold zipD at hd
            rw [List.getElem?_zipWith] at hd
            rw [cut_one, ← List.map_drop, List.getElem?_map, List.getElem?_map] at hd
            cases e1 : rs[i]? with
            | none => rw [e1] at hd; cases hd
            | some x =>
              cases e2 : (rs.drop 1)[i]? with
              | none => rw [e1, e2] at hd; cases hd
              | some y => rw [e1, e2] at hd; cases hd; exact ⟨x, y, rfl⟩
          obtain ⟨x, y, rfl⟩ := this
          refine ⟨_, _, ?_, fun s H Cc cl fp => ⟨ag_tup (ags_cons (ag_name 2) (ags_cons (ag_name 3) ags_nil)), fun Q q => ae_cmp (op_ltD (u64 hr)) rfl (ae_ix ix_tup (ae_name 2 rfl (ae_int (r_ixT rfl (ae_ix ix_tup (ae_name 3 rfl (ae_int (r_ixT rfl (r_ltD (okD_dW _) (okD_dW _) (alike_dW _ _) (by rw [py_dW]; exact fun z => nomatch z) (Nat.le_trans (dep_dW _) (by decide)) q)))))))))⟩⟩
          intro j hj
          exact hj
        · rw [cut_one]
          exact q
    | _ => exact ⟨_, rfl, fun _ => ⟨fun _ => as_one (as_ret (ae_bl ⟨L, .refl L, q⟩)), (fun z => nomatch z)⟩, (fun z => nomatch z)⟩
def sp_in_order : SpA := fun ds L Q _ => ∃ (t : D) (rs : Rl), ds = [t] ∧ DR L t (tbl rs) ∧ rs.length ≤ 1000 ∧ (∀ r ∈ rs, r.1 ≠ []) ∧ (rs.map (·.1)).Nodup ∧ Q (dR (srt rs)) L
theorem ok_in_order (F : Fun K "in_order" "in_order" s_in_order f fd) (hb : Binds K fd ["table"] []) (B : Bl mg) : FnA P w K mg base 1 f sp_in_order := by
  refine fnA F sc_in_order hb (fun ds L Q R h => ?_) fun cdv A outer s H E ds L Q R hr h => ?_
  · obtain ⟨_, _, rfl, _⟩ := h; rfl
  · obtain ⟨t, rs, rfl, ht, hz, hk, nd, q⟩ := h
    refine as_one (as_ret (ae_tupLc [("key", 1)] B.tuple (ai_lst (ae_callB (cr_sortDT rfl (u100 hr)) B.sorted (aa_cons (ae_name 0 rfl (aa_nil (c_sortW ht (by rw [sl_eq]; omega) hk fun l hl => ⟨l, _, rfl, put_same, fun hz2 => ⟨fun d => .tup [d, dC ((lk rs (cellOfD d)).getD [])], put_same, hz2, each1 (fun j hj => hj) (fun i d hi s H Cc cl fp => ⟨ag_name 1, fun Q q => ?_⟩), L, le_put hl, ?_⟩⟩))))))))
    · rw [List.getElem?_map] at hi
      cases e : (srt rs)[i]? with
      | none => rw [e] at hi; cases hi
      | some r =>
        rw [e] at hi
        cases hi
        have hm : r ∈ rs := (srt_perm rs).mem_iff.mp (List.mem_of_getElem? e)
        have hl2 := lk_self nd hm
        have ht2 : DR (put L l (.lst ((srt rs).map fun r => dW r.1))) t (tbl rs) := ht.put hl
        refine ae_tup (aa_cons (ae_name 1 rfl (aa_cons (ae_getW (u1 hr) (ae_name 0 rfl (ae_name 1 rfl ⟨rs, r.1, r.2, rfl, ht2, hl2, aa_nil ⟨by show 2 ≤ sizeLine; decide, ?_⟩⟩))))))
        have e3 : cellOfD (dW r.1) = r.1 := by
          show ((r.1.map D.str).map fun d => match d with | .str x => x | _ => Str.empty) = r.1
          rw [List.map_map]
          exact List.map_id _
        rw [e3, hl2] at q
        exact q
    · have e : ((srt rs).map fun r => dW r.1).map (fun d => D.tup [d, dC ((lk rs (cellOfD d)).getD [])]) = (srt rs).map dRu := by
        rw [List.map_map]
        refine List.map_congr_left fun r hr2 => ?_
        have hl2 := lk_self nd ((srt_perm rs).mem_iff.mp hr2)
        have e3 : cellOfD (dW r.1) = r.1 := by
          show ((r.1.map D.str).map fun d => match d with | .str x => x | _ => Str.empty) = r.1
          rw [List.map_map]
          exact List.map_id _
        show D.tup [dW r.1, dC ((lk rs (cellOfD (dW r.1))).getD [])] = dRu r
        rw [e3, hl2]
        rfl
      rw [e]
      exact q
end
end K
namespace K
open PySem PySem.Spec PyProof.Rows L2 DL
set_option hygiene false in
local macro_rules | `(tactic| k_get) => `(tactic| first
  | refine ae_name 0 rfl ?_ | refine ae_name 1 rfl ?_ | refine ae_name 2 rfl ?_ | refine ae_name 3 rfl ?_ | refine ae_name 4 rfl ?_ | refine ae_name 5 rfl ?_ | refine ae_name 6 rfl ?_ | refine ae_name 7 rfl ?_ | refine ae_name 8 rfl ?_ | refine ae_name 9 rfl ?_ | refine ae_name 10 rfl ?_ | refine ae_name 11 rfl ?_ | refine ae_name 12 rfl ?_
  | refine ae_int ?_ | refine ae_bl ?_ | refine ae_non ?_ | refine ae_str ?_ | refine ae_tup ?_ | refine ae_lst ?_
  | refine ae_and ?_ | refine ae_or ?_ | refine ae_one ?_ | refine ae_not ?_ | refine ae_neg ?_ | refine ae_ifExp ?_
  | refine ae_eq (u64 hr) ?_ | refine ae_ne (u64 hr) ?_ | refine ae_lt (u64 hr) ?_ | refine ae_le ?_ | refine ae_gt ?_ | refine ae_ge ?_ | refine ae_in (u1 hr) ?_ | refine ae_nin (u1 hr) ?_ | refine ae_is ?_ | refine ae_isn ?_
  | refine ae_lele ?_
  | refine ae_add ?_ | refine ae_sub ?_ | refine ae_mul ?_ | refine ae_mod ?_ | refine ae_div ?_
  | refine ae_slice sl_A ?_ | refine ae_ix (ix_A (u1 hr)) ?_
  | refine ae_c_len B.len ?_ | refine ae_c_int B.int ?_ | refine ae_c_abs B.abs ?_ | refine ae_c_max B.max ?_ | refine ae_c_min B.min ?_ | refine ae_c_isi B.isinstance ?_
  | refine ae_tupL B.tuple (?_ : AL _ (.ListComp _ _ _ _) _ _ _) | refine ae_c_tuple B.tuple ?_ | refine ae_allL B.all ?_ | refine ae_anyL B.any ?_
  | refine ae_call (by assumption) (hr.mono (by omega)) ?_
  | refine ae_append ?_
  | refine ae_bltn (T := "tuple") B.tuple (by decide +kernel) ?_ | refine ae_bltn (T := "str") B.str (by decide +kernel) ?_ | refine ae_bltn (T := "list") B.list (by decide +kernel) ?_ | refine ae_bltn (T := "int") B.int (by decide +kernel) ?_ | refine ae_bltn (T := "bool") B.bool (by decide +kernel) ?_ )
set_option hygiene false in
local macro_rules | `(tactic| k_put) => `(tactic| first
  | refine add_I ?_ | refine add_T ?_ ?_ | refine add_S ?_ ?_ | refine sub_I ?_ | refine eq_I ?_ | refine ne_I ?_ | refine eq_S ?_ | refine ne_S ?_ | refine lt_I ?_ | refine lt_S ?_ | refine le_I ?_ | refine gt_I ?_ | refine ge_I ?_
  | refine isa_N ?_ | refine isnota_N ?_ | refine ixa_T ?_ rfl | refine ixa_N ?_ rfl | refine ixa_R (by assumption) ?_ rfl | refine mod_I ?_ ?_ | refine div_I ?_ ?_ | refine mul_I ?_ ?_ | refine mul_S ?_ ?_ ?_ ?_ | refine in_W (by assumption) ?_ | refine notIn_W (by assumption) ?_ | refine in_sign ?_ | refine in_L (by assumption) ?_ | refine notIn_L (by assumption) ?_ | refine in_T ?_ | refine notIn_T ?_ | refine eq_W0 ?_ | refine eq_W ?_ | refine ne_W ?_ | refine eq_C ?_ | refine ne_C ?_ | refine r_ipI ?_ )
set_option hygiene false in
local macro_rules | `(tactic| k_go) => `(tactic| first
  | (show DL.ASs _ _ _ _ _; first | refine as_one ?_ | refine as_cons ?_ | refine as_nil ?_)
  | (show DL.AS _ _ _ _ _; first | refine as_ret ?_ | refine as_if ?_ | refine as_expr ?_ | refine as_set 0 ?_ | refine as_set 1 ?_ | refine as_set 2 ?_ | refine as_set 3 ?_ | refine as_set 4 ?_ | refine as_set 5 ?_ | refine as_set 6 ?_ | refine as_set 7 ?_ | refine as_set 8 ?_ | refine as_set 9 ?_ | refine as_set 10 ?_ | refine as_set 11 ?_ | refine as_aug 0 ip_add rfl ?_ | refine as_aug 1 ip_add rfl ?_ | refine as_aug 2 ip_add rfl ?_ | refine as_aug 3 ip_add rfl ?_ | refine as_aug 4 ip_add rfl ?_ | refine as_aug 5 ip_add rfl ?_ | refine as_aug 6 ip_add rfl ?_ | refine as_retN ?_ | refine as_pass ?_ | refine as_break ?_ | refine as_continue ?_)
  | (show AE _ _ _ _ _; k_get)
  | (show AT _ _ _ _ _; first | refine at_w (?_ : AW _ (.BoolOp _ _ _) _ _ _) | refine at_not ?_ | refine at_eq (u64 hr) ?_ | refine at_ne (u64 hr) ?_ | refine at_lt (u64 hr) ?_ | refine at_le ?_ | refine at_gt ?_ | refine at_ge ?_ | refine at_in (u1 hr) ?_ | refine at_nin (u1 hr) ?_ | refine at_is ?_ | refine at_isn ?_ | refine at_lele ?_ | refine at_val ?_)
  | (show AW _ _ _ _ _; first | refine aw_and ?_ | refine aw_or ?_ | refine aw_and1 ?_ | refine aw_or1 ?_)
  | (show AA _ _ _ _ _; first | refine aa_cons ?_ | refine aa_nil ?_)
  | (show AO _ _ _ _ _; first | refine ao_some ?_ | refine ao_none ?_)
  | (show L2R _ _ _ _ _ _; k_put)
  | (show LcR _ _ _ _ _; first | refine len_T ?_ | refine len_N ?_ | refine len_S ?_ | refine len_L (by assumption) ?_ | refine len_D (by assumption) ?_ | refine c_intI ?_ | refine c_intB ?_ | refine c_abs ?_ | refine c_max ?_ | refine c_min ?_ | refine c_tupT ?_ | refine lr_tup (by assumption) ?_ | refine isi_tt ?_ | refine isi_ii ?_ | refine isi_ib ?_ | refine isi_ss ?_ | refine isi_is ?_ | refine isi_ts ?_ | refine isi_st ?_ | refine isi_bb ?_)
  | (show LsR _ _ _ _ _ _ _; first | refine sla_T ?_ | refine sla_S ?_)
  | refine ⟨Nat.le_of_ble_eq_true rfl, ?_⟩
  | refine ⟨_, rfl, ?_⟩ | refine ⟨_, _, rfl, ?_⟩ | refine ⟨_, _, _, rfl, ?_⟩ | refine ⟨_, _, _, _, rfl, ?_⟩
  | exact ⟨_, .refl _, q⟩)
set_option hygiene false in
local macro_rules | `(tactic| walk) => `(tactic| repeat k_go)
set_option hygiene false in
local macro_rules | `(tactic| k_few) => `(tactic| first | refine ⟨fun _ => ?_, (fun z => Bool.noConfusion z)⟩ | refine ⟨(fun z => Bool.noConfusion z), fun _ => ?_⟩)
set_option hygiene false in
local macro_rules | `(tactic| k_not) => `(tactic| refine ⟨fun hk => ?_, fun hk => ?_⟩)
section
variable {P : Program} {w : World} {K : PySem.W.Frag} {mg : Str → Option Value} {base : Heap} {f : Addr} {fd : FuncData} {BK pT : Addr}
/-- the class Book's slot -/
structure BkC (K : PySem.W.Frag) (BK pT : Addr) : Prop where
  sc : SlX.SCls K BK
  sl : SlX.Slot1 K BK "table" pT 0
/-- b is a book with the rules rs, of the store or frozen -/
def Bk (BK : Addr) (L : Lp) (b : D) (rs : Rl) : Prop := ∃ t, HasF L b BK 0 t ∧ DR L t (tbl rs)
theorem Bk.ins {L : Lp} {b : D} {rs : Rl} (h : Bk BK L b rs) : IsIns L b BK := let ⟨_, h, _⟩ := h; h.ins
/-- a frozen one -/
def fBk (BK : Addr) (rs : Rl) : D := .obj BK [.fdct (tbl rs)]
theorem fBk.bk {L : Lp} {rs : Rl} : Bk BK L (fBk BK rs) rs := ⟨_, .fz rfl, .fz⟩
def sp_Book_init (BK : Addr) : SpA := fun ds L Q _ => ∃ (a : Addr) (rs : Rl), ds = [.ptr a, dR rs] ∧ L a = some (.ins BK []) ∧ RuOk rs ∧ ∀ t, L t = none → Q .non (put (put L t (.dct (tbl rs))) a (.ins BK [some (.ptr t)]))
theorem ok_Book_init (F : FunX K "__init__" "Book.__init__" s_Book___init__ f fd) (hb : Binds K fd ["self", "rules"] []) (bc : BkC K BK pT) (d1 : Def P w K mg base "is_rules" 7 sp_is_rules) : FnA P w K mg base 8 f (sp_Book_init BK) := by
  refine fnAX F sc_Book___init__ hb (fun ds L Q R h => by obtain ⟨_, _, rfl, _⟩ := h; rfl) fun cdv A outer s H E ds L Q R hr h => ?_
  obtain ⟨a, rs, rfl, ha, hR, q⟩ := h
  refine as_cons (as_if (at_not (at_val (ae_call d1 (hr.mono (by omega)) (aa_cons (ae_name 1 rfl (aa_nil ⟨_, rfl, okE_dR rs, _, rfl, ?_⟩)))))))
  rw [rsD_dR, rsOk_of hR]
  refine ⟨(fun z => nomatch z), fun _ => as_nil (as_one (as_sl (ae_dcT [("key", 2), ("cells", 3)] (Room.units0 hr) (ai_tup (ae_name 1 rfl ⟨_, rfl, fun hz => ?_⟩))))) ⟩
  refine ⟨fun i acc L2 => L2 = L ∧ acc = tbl (rs.take i), ⟨rfl, rfl⟩, fun _ _ _ _ => trivial, ?_, ?_⟩
  · rintro i d acc L2 hd ⟨rfl, rfl⟩
    rw [List.getElem?_map] at hd
    cases e : rs[i]? with
    | none => rw [e] at hd; cases hd
    | some r =>
      rw [e] at hd
      cases hd
      have hi := (List.getElem?_eq_some_iff.mp e).1
      refine ⟨_, _, fun j hj => hj, fun s H Cc cl fp => ⟨ag_tup (ags_cons (ag_name 2) (ags_cons (ag_name 3) ags_nil)), ae_name 2 rfl ⟨kS r.1, (kD_kS r.1).symm, fun s H Cc cl fp => ae_name 3 rfl ⟨?_, rfl, ?_⟩⟩⟩⟩
      · unfold tbl
        rw [List.length_map, List.length_take, sl_eq]
        have := hR.len
        omega
      · rw [put_tbl]
        congr 1
        unfold putR
        have hn : (rs.take i).any (fun x => decide (x.1 = r.1)) = false := by
          rw [List.any_eq_false]
          intro x hx hxe
          have hxe := of_decide_eq_true hxe
          obtain ⟨j, hj⟩ := List.getElem?_of_mem hx
          rw [List.getElem?_take] at hj
          split at hj
          · rename_i hji
            have hp := List.pairwise_iff_getElem.mp hR.up j i (by omega) hi hji
            have e1 := (List.getElem?_eq_some_iff.mp hj).2
            have e2 := (List.getElem?_eq_some_iff.mp e).2
            rw [e1, e2, hxe, ltK_irr] at hp
            cases hp
          · cases hj
        rw [hn, List.take_add_one, e]
        rfl
  · rintro acc L2 ⟨rfl, rfl⟩ t ht
    rw [List.length_map, List.take_length]
    refine ae_name 0 rfl ⟨a, BK, [], pT, 0, rfl, ?_, bc.sc, bc.sl, _, .refl _, q t ht⟩
    rw [put_ne (ne_of_free ha ht)]
    exact ha
def sp_Book_rules (BK : Addr) : SpA := fun ds L Q _ => ∃ (b : D) (rs : Rl), ds = [b] ∧ Bk BK L b rs ∧ rs.length ≤ 1000 ∧ (∀ r ∈ rs, r.1 ≠ []) ∧ (rs.map (·.1)).Nodup ∧ Q (dR (srt rs)) L
theorem ok_Book_rules (F : Fun K "rules" "Book.rules" s_Book_rules f fd) (hb : Binds K fd ["self"] []) (bc : BkC K BK pT) (d1 : Def P w K mg base "in_order" 1 sp_in_order) : FnA P w K mg base 2 f (sp_Book_rules BK) := by
  refine fnA F sc_Book_rules hb (fun ds L Q R h => by obtain ⟨_, _, rfl, _⟩ := h; rfl) fun cdv A outer s H E ds L Q R hr h => ?_
  obtain ⟨b, rs, rfl, ⟨t, hf, ht⟩, h1, h2, h3, q⟩ := h
  exact as_one (as_ret (ae_call d1 (hr.mono (by omega)) (aa_cons (ae_sl (ae_name 0 rfl ⟨BK, pT, 0, t, hf, bc.sc, bc.sl, aa_nil ⟨t, rs, rfl, ht, h1, h2, h3, L, .refl L, q⟩⟩)))))
theorem _root_.DL.HasF.le {L L' : Lp} {x d : D} {Cl : Addr} {i : Nat} (h : HasF L x Cl i d) (le : Le L L') : HasF L' x Cl i d := by
  rcases h with ⟨b, fs, e, h1, h2⟩ | ⟨fs, e, h2⟩
  · exact .inl ⟨b, fs, e, le _ _ h1, h2⟩
  · exact .inr ⟨fs, e, h2⟩
theorem Bk.le {L L' : Lp} {b : D} {rs : Rl} (h : Bk BK L b rs) (le : Le L L') : Bk BK L' b rs := by
  obtain ⟨t, h1, h2⟩ := h
  exact ⟨t, h1.le le, h2.le le⟩
/-- a new book, of the store -/
def nb (BK : Addr) (L : Lp) (t x : Addr) (rs : Rl) : Lp := put (put L t (.dct (tbl rs))) x (.ins BK [some (.ptr t)])
structure Nw (L : Lp) (t x : Addr) : Prop where
  t0 : L t = none
  x0 : L x = none
  ne : t ≠ x
theorem Nw.le {L : Lp} {t x : Addr} {rs : Rl} (h : Nw L t x) : Le L (nb BK L t x rs) := (le_put h.t0).trans (le_put (by rw [put_ne (Ne.symm h.ne)]; exact h.x0))
theorem Nw.bk {L : Lp} {t x : Addr} {rs : Rl} (h : Nw L t x) : Bk BK (nb BK L t x rs) (.ptr x) rs :=
  ⟨.ptr t, .st (fs := [some (.ptr t)]) put_same rfl, .inl ⟨t, rfl, by unfold nb; rw [put_ne h.ne]; exact put_same⟩⟩
theorem Nw.frz {C : DL.Ctx} {L : Lp} {t x : Addr} {rs : Rl} (h : Nw L t x) : Frz C (nb BK L t x rs) (.ptr x) L (fBk BK rs) := by
  generalize hL3 : nb BK L t x rs = L3
  have h3x : L3 x = some (.ins BK [some (.ptr t)]) := by rw [← hL3]; exact put_same
  have h3t : L3 t = some (.dct (tbl rs)) := by rw [← hL3]; unfold nb; rw [put_ne h.ne]; exact put_same
  have z1 := frz_fld (C := C) (Cl := BK) (i := 0) (x' := .fdct (tbl rs)) (L' := DL.del L3 t) h3x rfl (frz_dct h3t) (by rw [DL.del_ne (Ne.symm h.ne)]; exact h3x)
  have z2 := frz_ins (C := C) (Cl := BK) (gs := [.fdct (tbl rs)]) (L := put (DL.del L3 t) x (.ins BK [some (.fdct (tbl rs))])) (a := x) put_same (by simp)
  have z3 := z1.trans z2
  have e : DL.del (put (DL.del L3 t) x (.ins BK [some (.fdct (tbl rs))])) x = L := by
    funext b
    unfold DL.del put
    by_cases h1 : b = x
    · rw [if_pos h1, h1, h.x0]
    · rw [if_neg h1, if_neg h1]
      show (if b = t then none else L3 b) = _
      by_cases h2 : b = t
      · rw [if_pos h2, h2, h.t0]
      · rw [if_neg h2, ← hL3]
        unfold nb
        rw [put_ne h1, put_ne h2]
  rw [e] at z3
  exact z3
end
/-- Book(e) -/
theorem ae_book {BK gI : Addr} {C : DL.Ctx} {Γ : Gm} {L : Lp} {e : Expr} {p pos : Pos} {Q : D → Lp → Prop} (M : Mk C.X.K BK gI) (Fi : FnA C.X.prog C.X.w C.X.K C.X.mg C.X.base 8 gI (sp_Book_init BK)) (hm : C.X.mg "Book" = some (.ref BK)) (hr : Room 9 C.X.A)
    (h : AE C e Γ L fun d L1 => ∃ rs, d = dR rs ∧ RuOk rs ∧ ∀ t x, Nw L1 t x → Q (.ptr x) (nb BK L1 t x rs)) (hg : Gl C.X "Book" := by rfl) (he : starEach [e] C.X.env = [(false, eval e C.X.env)] := by rfl) : AE C (.Call (.Name "Book" p) [e] [] pos) Γ L Q :=
  ae_make M Fi hm hr (aa_cons (h.mono fun d L1 ⟨rs, ed, hR, q⟩ => aa_nil fun x hx => by
    subst ed
    refine ⟨x, rs, rfl, put_same, hR, fun t ht => ⟨rfl, ?_⟩⟩
    have htx : t ≠ x := fun e => by rw [e, put_same] at ht; cases ht
    have ht0 : L1 t = none := by rw [put_ne htx] at ht; exact ht
    have e : put (put (put L1 x (.ins BK [])) t (.dct (tbl rs))) x (.ins BK [some (.ptr t)]) = nb BK L1 t x rs := by
      funext b
      unfold nb
      by_cases h1 : b = x
      · rw [h1, put_same, put_same]
      · rw [put_ne h1, put_ne h1]
        by_cases h2 : b = t
        · rw [h2, put_same, put_same]
        · rw [put_ne h2, put_ne h2, put_ne h1]
    rw [e]
    exact q t x ⟨ht0, hx, htx⟩) he) (hg := hg) (he := he)
section
variable {P : Program} {w : World} {K : PySem.W.Frag} {mg : Str → Option Value} {base : Heap} {f : Addr} {fd : FuncData} {BK CH pT pF pL gI gC gS gY gJ : Addr}
def sp_Book_copy (BK : Addr) : SpA := fun ds L Q _ => ∃ (b : D) (rs : Rl), ds = [b] ∧ Bk BK L b rs ∧ RuOk rs ∧ ∀ t x, Nw L t x → Q (.ptr x) (nb BK L t x rs)
theorem ok_Book_copy (F : Fun K "copy" "Book.copy" s_Book_copy f fd) (hb : Binds K fd ["self"] []) (bc : BkC K BK pT) (mkk : Mk K BK gI) (fi : FnA P w K mg base 8 gI (sp_Book_init BK)) (nm : mg "Book" = some (.ref BK)) (d1 : Def P w K mg base "in_order" 1 sp_in_order) : FnA P w K mg base 10 f (sp_Book_copy BK) := by
  refine fnA F sc_Book_copy hb (fun ds L Q R h => by obtain ⟨_, _, rfl, _⟩ := h; rfl) fun cdv A outer s H E ds L Q R hr h => ?_
  obtain ⟨b, rs, rfl, ⟨t, hf, ht⟩, hR, q⟩ := h
  refine as_one (as_ret (ae_book mkk fi nm (hr.mono (by omega)) (ae_call d1 (hr.mono (by omega)) (aa_cons (ae_sl (ae_name 0 rfl ⟨BK, pT, 0, t, hf, bc.sc, bc.sl, aa_nil ⟨t, rs, rfl, ht, by have := hR.len; omega, hR.ne, hR.nd, srt rs, rfl, ?_, ?_⟩⟩))))))
  · rw [srt_self hR.up]; exact hR
  · rw [srt_self hR.up]; exact fun t x h => ⟨_, .refl _, q t x h⟩
/-! the words of a book -/
def tx1 (rs : Rl) : List (List Wd) := rs.flatMap fun r => r.1 :: r.2
abbrev iyD : D → List D := fun d => match d with | .tup [k, .tup cs] => k :: cs | _ => []
theorem iy_tbl : ∀ rs : Rl, (((tbl rs).map itD).flatMap iyD) = (tx1 rs).map dW
  | [] => rfl
  | r :: rs => by
    have ih := iy_tbl rs
    unfold tbl tx1 at ih ⊢
    rw [List.map_cons, List.map_cons, List.flatMap_cons, List.flatMap_cons, ih, List.map_append]
    have e : itD (kS r.1, dC r.2) = .tup [dW r.1, .tup (r.2.map dW)] := by unfold itD; rw [kD_kS]; rfl
    rw [e]
    rfl
theorem tx1_len : ∀ {rs : Rl}, (∀ r ∈ rs, r.2.length ≤ 2) → (tx1 rs).length ≤ 3 * rs.length
  | [], _ => Nat.zero_le _
  | r :: rs, h => by
    have ih := tx1_len (rs := rs) fun x hx => h x (List.mem_cons_of_mem _ hx)
    have h0 := h r List.mem_cons_self
    unfold tx1 at ih ⊢
    rw [List.flatMap_cons, List.length_append, List.length_cons, List.length_cons]
    omega
theorem flat_len : ∀ {xss : List (List Wd)}, (∀ x ∈ xss, x.length ≤ 3) → xss.flatten.length ≤ 3 * xss.length
  | [], _ => Nat.zero_le _
  | x :: xss, h => by
    have ih := flat_len (xss := xss) fun y hy => h y (List.mem_cons_of_mem _ hy)
    have h0 := h x List.mem_cons_self
    rw [List.flatten_cons, List.length_append, List.length_cons]
    omega
theorem tx1_le {rs : Rl} (h : RuOk rs) : (tx1 rs).length ≤ 18 ∧ (tx1 rs).flatten.length ≤ 54 := by
  have h1 := tx1_len (rs := rs) h.r2
  have h2 := h.len
  have h3 := flat_len (xss := tx1 rs) fun x hx => by
    obtain ⟨r, hr, hx⟩ := List.mem_flatMap.mp hx
    rcases List.mem_cons.mp hx with rfl | hx
    · exact (kyD_iff (h.key r hr)).2.2
    · have := (csD_iff (h.cel r hr)).2 x hx
      rw [ceD_dW, Bool.and_eq_true, Bool.and_eq_true] at this
      exact of_decide_eq_true this.1.2
  omega
/-- texts in order, which are exactly those -/
structure Wds (ks ys : List Wd) : Prop where
  up : Rise ys
  mem : ∀ k, k ∈ ys ↔ k ∈ ks
  len : ys.length ≤ ks.length
theorem rise_same : ∀ {xs ys : List Wd}, Rise xs → Rise ys → (∀ k, k ∈ xs ↔ k ∈ ys) → xs = ys
  | [], [], _, _, _ => rfl
  | [], y :: ys, _, _, h => absurd ((h y).2 List.mem_cons_self) (by simp)
  | x :: xs, [], _, _, h => absurd ((h x).1 List.mem_cons_self) (by simp)
  | x :: xs, y :: ys, hx, hy, h => by
    obtain ⟨a1, a2⟩ := List.pairwise_cons.mp hx
    obtain ⟨b1, b2⟩ := List.pairwise_cons.mp hy
    have e : x = y := by
      rcases List.mem_cons.mp ((h x).1 List.mem_cons_self) with e | e
      · exact e
      · rcases List.mem_cons.mp ((h y).2 List.mem_cons_self) with e2 | e2
        · exact e2.symm
        · exact absurd (List.lt_trans (b1 x e) (a1 y e2)) (List.lt_irrefl _)
    subst e
    have := rise_same a2 b2 fun k => by
      constructor
      · intro hk
        rcases List.mem_cons.mp ((h k).1 (List.mem_cons_of_mem _ hk)) with e | e
        · subst e; exact absurd (a1 k hk) (List.lt_irrefl _)
        · exact e
      · intro hk
        rcases List.mem_cons.mp ((h k).2 (List.mem_cons_of_mem _ hk)) with e | e
        · subst e; exact absurd (b1 k hk) (List.lt_irrefl _)
        · exact e
    rw [this]
def sp_Book_words (BK : Addr) : SpA := fun ds L Q _ => ∃ (b : D) (rs : Rl), ds = [b] ∧ Bk BK L b rs ∧ RuOk rs ∧ ∀ ys, Wds (tx1 rs).flatten ys → Q (dW ys) L
theorem ok_Book_words (F : Fun K "words" "Book.words" s_Book_words f fd) (hb : Binds K fd ["self"] []) (B : Bl mg) (bc : BkC K BK pT) : FnA P w K mg base 1 f (sp_Book_words BK) := by
  refine fnA F sc_Book_words hb (fun ds L Q R h => by obtain ⟨_, _, rfl, _⟩ := h; rfl) fun cdv A outer s H E ds L Q R hr h => ?_
  obtain ⟨b, rs, rfl, ⟨t, hf, ht⟩, hR, q⟩ := h
  obtain ⟨n1, n2⟩ := tx1_le hR
  have e1 : (((tbl rs).map itD).flatMap iyD).length ≤ sizeLine := by rw [iy_tbl, List.length_map, sl_eq]; omega
  refine as_cons (as_items2 1 [("key", 2), ("cells", 3), ("words", 4)] [4] ht (fun L' hL Q' q' => ?_) iyD e1 (fun L' le x hx => ?_) fun p hp => ?_)
  · refine ae_sl (ae_name 0 rfl ⟨BK, pT, 0, t, ?_, bc.sc, bc.sl, q'⟩)
    rcases hL with rfl | ⟨t', e, rfl⟩
    · exact hf
    · rcases hf with ⟨a, fs, e', h1, h2⟩ | ⟨fs, e', h2⟩
      · refine .inl ⟨a, fs, e', ?_, h2⟩
        rw [DL.del_ne]
        · exact h1
        · rintro rfl
          rcases ht with ⟨t2, e2, h3⟩ | e2
          · rw [e] at e2
            cases e2
            rw [h1] at h3
            cases h3
          · rw [e] at e2; cases e2
      · exact .inr ⟨fs, e', h2⟩
  · obtain ⟨r, hr2, rfl⟩ := List.mem_map.mp hx
    have e : itD (kS r.1, dC r.2) = .tup [dW r.1, .tup (r.2.map dW)] := by unfold itD; rw [kD_kS]; rfl
    rw [e]
    have hl := hR.r2 r hr2
    refine ⟨_, [2, 3], by decide, fun s H Cc cl fp => ⟨ag_tup (ags_cons (ag_name 2) (ags_cons (ag_name 3) ags_nil)), fun Q' q' => ?_, fun y hy => ⟨_, [4], by decide, fun s H Cc cl fp => ⟨ag_name 4, fun Q' q' => ae_name 4 rfl q'⟩⟩⟩⟩
    refine ae_add (ae_tup (aa_cons (ae_name 2 rfl (aa_nil ⟨Nat.le_of_ble_eq_true rfl, ae_name 3 rfl (add_T (xs := [dW r.1]) (ys := r.2.map dW) q' ?_)⟩))))
    rw [List.length_map, sl_eq]
    show 1 + _ ≤ _
    omega
  · rw [iy_tbl]
    refine as_one (as_ret (ae_callT call_tuple_of B.tuple (aa_cons (ae_callB (cr_sortX rfl (u100 hr)) B.sorted (aa_cons (ae_sx [("words", 4), ("word", 5)] [5] (ai_lst (ae_name 1 rfl ⟨p, _, rfl, put_same, fun hz => ⟨put_same, tx1 rs, rfl, by unfold scanBound; omega, fun xs hxs => ?_, fun l1 m1 hl1 hm1 => aa_nil (c_sortX put_same (by rw [sl_eq]; omega) fun l2 zs hl2 hrise hmem hlen => aa_nil (c_tupL put_same ⟨L, (le_put hp).trans ((le_put hl1).trans (le_put hl2)), q zs ⟨hrise, fun k => (hmem k).trans decide_eq_true_iff, by omega⟩⟩))⟩⟩))))))))
    exact ⟨_, [4], by decide, fun s H Cc cl fp => ⟨ag_name 4, fun Q' q' => ae_name 4 rfl q', fun y hy => ⟨_, [5], by decide, fun s H Cc cl fp => ⟨ag_name 5, fun Q' q' => ae_name 5 rfl q'⟩⟩⟩⟩
end
end K
namespace K
open PySem PySem.Spec PyProof.Rows L2 DL
set_option hygiene false in
local macro_rules | `(tactic| k_get) => `(tactic| first
  | refine ae_name 0 rfl ?_ | refine ae_name 1 rfl ?_ | refine ae_name 2 rfl ?_ | refine ae_name 3 rfl ?_ | refine ae_name 4 rfl ?_ | refine ae_name 5 rfl ?_ | refine ae_name 6 rfl ?_ | refine ae_name 7 rfl ?_ | refine ae_name 8 rfl ?_ | refine ae_name 9 rfl ?_ | refine ae_name 10 rfl ?_ | refine ae_name 11 rfl ?_ | refine ae_name 12 rfl ?_
  | refine ae_int ?_ | refine ae_bl ?_ | refine ae_non ?_ | refine ae_str ?_ | refine ae_tup ?_ | refine ae_lst ?_
  | refine ae_and ?_ | refine ae_or ?_ | refine ae_one ?_ | refine ae_not ?_ | refine ae_neg ?_ | refine ae_ifExp ?_
  | refine ae_eq (u64 hr) ?_ | refine ae_ne (u64 hr) ?_ | refine ae_lt (u64 hr) ?_ | refine ae_le ?_ | refine ae_gt ?_ | refine ae_ge ?_ | refine ae_in (u1 hr) ?_ | refine ae_nin (u1 hr) ?_ | refine ae_is ?_ | refine ae_isn ?_
  | refine ae_lele ?_
  | refine ae_add ?_ | refine ae_sub ?_ | refine ae_mul ?_ | refine ae_mod ?_ | refine ae_div ?_
  | refine ae_slice sl_A ?_ | refine ae_ix (ix_A (u1 hr)) ?_
  | refine ae_c_len B.len ?_ | refine ae_c_int B.int ?_ | refine ae_c_abs B.abs ?_ | refine ae_c_max B.max ?_ | refine ae_c_min B.min ?_ | refine ae_c_isi B.isinstance ?_
  | refine ae_tupL B.tuple (?_ : AL _ (.ListComp _ _ _ _) _ _ _) | refine ae_c_tuple B.tuple ?_ | refine ae_allL B.all ?_ | refine ae_anyL B.any ?_
  | refine ae_call (by assumption) (hr.mono (by omega)) ?_
  | refine ae_append ?_
  | refine ae_bltn (T := "tuple") B.tuple (by decide +kernel) ?_ | refine ae_bltn (T := "str") B.str (by decide +kernel) ?_ | refine ae_bltn (T := "list") B.list (by decide +kernel) ?_ | refine ae_bltn (T := "int") B.int (by decide +kernel) ?_ | refine ae_bltn (T := "bool") B.bool (by decide +kernel) ?_ )
set_option hygiene false in
local macro_rules | `(tactic| k_put) => `(tactic| first
  | refine add_I ?_ | refine add_T ?_ ?_ | refine add_S ?_ ?_ | refine sub_I ?_ | refine eq_I ?_ | refine ne_I ?_ | refine eq_S ?_ | refine ne_S ?_ | refine lt_I ?_ | refine lt_S ?_ | refine le_I ?_ | refine gt_I ?_ | refine ge_I ?_
  | refine isa_N ?_ | refine isnota_N ?_ | refine ixa_T ?_ rfl | refine ixa_N ?_ rfl | refine ixa_R (by assumption) ?_ rfl | refine mod_I ?_ ?_ | refine div_I ?_ ?_ | refine mul_I ?_ ?_ | refine mul_S ?_ ?_ ?_ ?_ | refine in_W (by assumption) ?_ | refine notIn_W (by assumption) ?_ | refine in_sign ?_ | refine in_L (by assumption) ?_ | refine notIn_L (by assumption) ?_ | refine in_T ?_ | refine notIn_T ?_ | refine eq_W0 ?_ | refine eq_W ?_ | refine ne_W ?_ | refine eq_C ?_ | refine ne_C ?_ | refine r_ipI ?_ )
set_option hygiene false in
local macro_rules | `(tactic| k_go) => `(tactic| first
  | (show DL.ASs _ _ _ _ _; first | refine as_one ?_ | refine as_cons ?_ | refine as_nil ?_)
  | (show DL.AS _ _ _ _ _; first | refine as_ret ?_ | refine as_if ?_ | refine as_expr ?_ | refine as_set 0 ?_ | refine as_set 1 ?_ | refine as_set 2 ?_ | refine as_set 3 ?_ | refine as_set 4 ?_ | refine as_set 5 ?_ | refine as_set 6 ?_ | refine as_set 7 ?_ | refine as_set 8 ?_ | refine as_set 9 ?_ | refine as_set 10 ?_ | refine as_set 11 ?_ | refine as_aug 0 ip_add rfl ?_ | refine as_aug 1 ip_add rfl ?_ | refine as_aug 2 ip_add rfl ?_ | refine as_aug 3 ip_add rfl ?_ | refine as_aug 4 ip_add rfl ?_ | refine as_aug 5 ip_add rfl ?_ | refine as_aug 6 ip_add rfl ?_ | refine as_retN ?_ | refine as_pass ?_ | refine as_break ?_ | refine as_continue ?_)
  | (show AE _ _ _ _ _; k_get)
  | (show AT _ _ _ _ _; first | refine at_w (?_ : AW _ (.BoolOp _ _ _) _ _ _) | refine at_not ?_ | refine at_eq (u64 hr) ?_ | refine at_ne (u64 hr) ?_ | refine at_lt (u64 hr) ?_ | refine at_le ?_ | refine at_gt ?_ | refine at_ge ?_ | refine at_in (u1 hr) ?_ | refine at_nin (u1 hr) ?_ | refine at_is ?_ | refine at_isn ?_ | refine at_lele ?_ | refine at_val ?_)
  | (show AW _ _ _ _ _; first | refine aw_and ?_ | refine aw_or ?_ | refine aw_and1 ?_ | refine aw_or1 ?_)
  | (show AA _ _ _ _ _; first | refine aa_cons ?_ | refine aa_nil ?_)
  | (show AO _ _ _ _ _; first | refine ao_some ?_ | refine ao_none ?_)
  | (show L2R _ _ _ _ _ _; k_put)
  | (show LcR _ _ _ _ _; first | refine len_T ?_ | refine len_N ?_ | refine len_S ?_ | refine len_L (by assumption) ?_ | refine len_D (by assumption) ?_ | refine c_intI ?_ | refine c_intB ?_ | refine c_abs ?_ | refine c_max ?_ | refine c_min ?_ | refine c_tupT ?_ | refine lr_tup (by assumption) ?_ | refine isi_tt ?_ | refine isi_ii ?_ | refine isi_ib ?_ | refine isi_ss ?_ | refine isi_is ?_ | refine isi_ts ?_ | refine isi_st ?_ | refine isi_bb ?_)
  | (show LsR _ _ _ _ _ _ _; first | refine sla_T ?_ | refine sla_S ?_)
  | refine ⟨Nat.le_of_ble_eq_true rfl, ?_⟩
  | refine ⟨_, rfl, ?_⟩ | refine ⟨_, _, rfl, ?_⟩ | refine ⟨_, _, _, rfl, ?_⟩ | refine ⟨_, _, _, _, rfl, ?_⟩
  | exact ⟨_, .refl _, q⟩)
set_option hygiene false in
local macro_rules | `(tactic| walk) => `(tactic| repeat k_go)
set_option hygiene false in
local macro_rules | `(tactic| k_few) => `(tactic| first | refine ⟨fun _ => ?_, (fun z => Bool.noConfusion z)⟩ | refine ⟨(fun z => Bool.noConfusion z), fun _ => ?_⟩)
set_option hygiene false in
local macro_rules | `(tactic| k_not) => `(tactic| refine ⟨fun hk => ?_, fun hk => ?_⟩)
section
variable {P : Program} {w : World} {K : PySem.W.Frag} {mg : Str → Option Value} {base : Heap} {f : Addr} {fd : FuncData} {BK CH pT pF pL pR pB pW gI gC gS gY gJ gR gB gW gT : Addr}
def sp_Book_stages (BK : Addr) : SpA := fun ds L Q _ => ∃ (b t : D), ds = [b] ∧ HasF L b BK 0 t ∧ Q (.tup [t]) L
theorem ok_Book_stages (F : Fun K "stages" "Book.stages" s_Book_stages f fd) (hb : Binds K fd ["self"] []) (bc : BkC K BK pT) : FnA P w K mg base 1 f (sp_Book_stages BK) := by
  refine fnA F sc_Book_stages hb (fun ds L Q R h => by obtain ⟨_, _, rfl, _⟩ := h; rfl) fun cdv A outer s H E ds L Q R hr h => ?_
  obtain ⟨b, t, rfl, hf, q⟩ := h
  walk
  refine ae_sl ?_
  walk
  refine ⟨BK, pT, 0, t, hf, bc.sc, bc.sl, ?_⟩
  walk
/-- the class Chain's slots -/
structure ChC (K : PySem.W.Frag) (CH pF pL : Addr) : Prop where
  sc : SlX.SCls K CH
  s1 : SlX.Slot1 K CH "former" pF 0
  s2 : SlX.Slot1 K CH "latter" pL 1
/-- a chain of two frozen books -/
def fCh (CH BK : Addr) (r1 r2 : Rl) : D := .obj CH [fBk BK r1, fBk BK r2]
def sp_Chain_init (CH BK : Addr) : SpA := fun ds L Q _ => ∃ (a : Addr) (r1 r2 : Rl) (b1 b2 : D), ds = [.ptr a, b1, b2] ∧ L a = some (.ins CH []) ∧ Bk BK L b1 r1 ∧ Bk BK L b2 r2 ∧ (∀ mo, Bk BK (put L a mo) b2 r2) ∧ RuOk r1 ∧ RuOk r2 ∧ Q .non (put L a (.ins CH [some (fBk BK r1), some (fBk BK r2)]))
theorem ok_Chain_init (F : Fun K "__init__" "Chain.__init__" s_Chain___init__ f fd) (hb : Binds K fd ["self", "former", "latter"] []) (bc : BkC K BK pT) (cc : ChC K CH pF pL) (m1 : Meth K BK "copy" gY) (f1 : FnA P w K mg base 10 gY (sp_Book_copy BK)) : FnA P w K mg base 11 f (sp_Chain_init CH BK) := by
  refine fnA F sc_Chain___init__ hb (fun ds L Q R h => by obtain ⟨_, _, _, _, _, rfl, _⟩ := h; rfl) fun cdv A outer s H E ds L Q R hr h => ?_
  obtain ⟨a, r1, r2, b1, b2, rfl, ha, h1, h2, h3, k1, k2, q⟩ := h
  refine as_cons (as_sl (AE.frz (ae_meth0 bc.sc m1 f1 (hr.mono (by omega)) (ae_name 1 rfl ⟨h1.ins, b1, r1, rfl, h1, k1, fun t x n => ⟨fBk BK r1, _, n.frz, ae_name 0 rfl ⟨a, CH, [], pF, 0, rfl, ha, cc.sc, cc.s1, ?_⟩⟩⟩))))
  refine as_one (as_sl (AE.frz (ae_meth0 bc.sc m1 f1 (hr.mono (by omega)) (ae_name 2 rfl ⟨(h3 _).ins, b2, r2, rfl, h3 _, k2, fun t x n => ⟨fBk BK r2, _, n.frz, ae_name 0 rfl ⟨a, CH, _, pL, 1, rfl, put_same, cc.sc, cc.s2, ?_⟩⟩⟩))))
  rw [put_put]
  exact ⟨_, .refl _, q⟩
end
theorem Bk.put {BK a : Addr} {L : Lp} {b : D} {rs : Rl} {mo : MO} (h : Bk BK L b rs) (ha : L a = none) : Bk BK (DL.put L a mo) b rs := h.le (le_put ha)
/-- Chain(a, b), never written again -/
theorem ae_fchain {BK CH gJ : Addr} {C : DL.Ctx} {Γ : Gm} {L : Lp} {e1 e2 : Expr} {p pos : Pos} {Q : D → Lp → Prop} (M : Mk C.X.K CH gJ) (Fi : FnA C.X.prog C.X.w C.X.K C.X.mg C.X.base 11 gJ (sp_Chain_init CH BK)) (hm : C.X.mg "Chain" = some (.ref CH)) (hr : Room 12 C.X.A)
    (h : AE C e1 Γ L fun b1 L1 => AE C e2 Γ L1 fun b2 L2 => ∃ r1 r2, Bk BK L2 b1 r1 ∧ Bk BK L2 b2 r2 ∧ RuOk r1 ∧ RuOk r2 ∧ Q (fCh CH BK r1 r2) L2) (hg : Gl C.X "Chain" := by rfl) (he : starEach [e1, e2] C.X.env = (false, eval e1 C.X.env) :: starEach [e2] C.X.env := by rfl) (he2 : starEach [e2] C.X.env = [(false, eval e2 C.X.env)] := by rfl) (hpl : (backTo pos (starEach [e2] C.X.env)).any (·.1) = false := by rfl) : AE C (.Call (.Name "Chain" p) [e1, e2] [] pos) Γ L Q :=
  AE.frz (ae_make M Fi hm hr (aa_cons (h.mono fun b1 L1 h2 => aa_cons (h2.mono fun b2 L2 ⟨r1, r2, k1, k2, o1, o2, q⟩ => aa_nil fun x hx => by
    refine ⟨x, r1, r2, b1, b2, rfl, put_same, k1.put hx, k2.put hx, fun mo => by rw [put_put]; exact k2.put hx, o1, o2, ⟨rfl, fCh CH BK r1 r2, L2, ?_, q⟩⟩
    rw [put_put]
    have z2 := frz_ins (C := C) (Cl := CH) (gs := [fBk BK r1, fBk BK r2]) (L := put L2 x (.ins CH [some (fBk BK r1), some (fBk BK r2)])) (a := x) put_same (by simp)
    rw [del_put hx] at z2
    exact z2) he2) he) (hg := hg) (he := he) (hpl := hpl))
section
variable {P : Program} {w : World} {K : PySem.W.Frag} {mg : Str → Option Value} {base : Heap} {f : Addr} {fd : FuncData} {BK CH pT pF pL pR pB pW gI gC gS gY gJ gR gB gW gT : Addr}
def sp_Book_rshift (BK CH : Addr) : SpA := fun ds L Q _ => ∃ (b1 b2 : D) (r1 r2 : Rl), ds = [b1, b2] ∧ Bk BK L b1 r1 ∧ Bk BK L b2 r2 ∧ RuOk r1 ∧ RuOk r2 ∧ Q (fCh CH BK r1 r2) L
theorem ok_Book_rshift (F : Fun K "__rshift__" "Book.__rshift__" s_Book___rshift__ f fd) (hb : Binds K fd ["self", "other"] []) (B : Bl mg) (bc : BkC K BK pT) (si : SlX.SIsi K BK) (nb : mg "Book" = some (.ref BK)) (nm : mg "Chain" = some (.ref CH)) (mkj : Mk K CH gJ) (fj : FnA P w K mg base 11 gJ (sp_Chain_init CH BK)) : FnA P w K mg base 13 f (sp_Book_rshift BK CH) := by
  refine fnA F sc_Book___rshift__ hb (fun ds L Q R h => by obtain ⟨_, _, _, _, rfl, _⟩ := h; rfl) fun cdv A outer s H E ds L Q R hr h => ?_
  obtain ⟨b1, b2, r1, r2, rfl, h1, h2, k1, k2, q⟩ := h
  refine as_cons (as_if (at_not (at_val (ae_isiJ B.isinstance (ae_name 1 rfl (ae_glob (v := .ref BK) (d := .ptr BK) nb rfl (fun _ => .ptr BK) (isa_O (b := true) (.ins bc.sc si h2.ins) (by unfold PySem.W.kitOne; rw [if_pos (beq_self_eq_true _)]) ⟨_, rfl, ?_⟩)))))))
  k_few
  walk
  refine ae_fchain mkj fj nm (hr.mono (by omega)) ?_
  walk
  exact ⟨r1, r2, h1, h2, k1, k2, L, .refl L, q⟩
/-- a chain of frozen books -/
structure Ch (CH BK : Addr) (L : Lp) (x : D) (r1 r2 : Rl) : Prop where
  h1 : HasF L x CH 0 (fBk BK r1)
  h2 : HasF L x CH 1 (fBk BK r2)
theorem fCh.ch {L : Lp} {r1 r2 : Rl} : Ch CH BK L (fCh CH BK r1 r2) r1 r2 := ⟨.fz rfl, .fz rfl⟩
def sp_Chain_stages (CH BK : Addr) : SpA := fun ds L Q _ => ∃ (x : D) (r1 r2 : Rl), ds = [x] ∧ Ch CH BK L x r1 r2 ∧ Q (.tup [.fdct (tbl r1), .fdct (tbl r2)]) L
theorem ok_Chain_stages (F : Fun K "stages" "Chain.stages" s_Chain_stages f fd) (hb : Binds K fd ["self"] []) (bc : BkC K BK pT) (cc : ChC K CH pF pL) (m1 : Meth K BK "stages" gT) (f1 : FnA P w K mg base 1 gT (sp_Book_stages BK)) : FnA P w K mg base 3 f (sp_Chain_stages CH BK) := by
  refine fnA F sc_Chain_stages hb (fun ds L Q R h => by obtain ⟨_, _, _, rfl, _⟩ := h; rfl) fun cdv A outer s H E ds L Q R hr h => ?_
  obtain ⟨x, r1, r2, rfl, ⟨h1, h2⟩, q⟩ := h
  refine as_one (as_ret (ae_add (ae_meth0 bc.sc m1 f1 (hr.mono (by omega)) (ae_sl (ae_name 0 rfl ⟨CH, pF, 0, _, h1, cc.sc, cc.s1, fBk.bk.ins, _, _, rfl, .fz rfl, ae_meth0 bc.sc m1 f1 (hr.mono (by omega)) (ae_sl (ae_name 0 rfl ⟨CH, pL, 1, _, h2, cc.sc, cc.s2, fBk.bk.ins, _, _, rfl, .fz rfl, ?_⟩))⟩)))))
  refine add_T ⟨L, .refl L, q⟩ (by show 2 ≤ sizeLine; rw [sl_eq]; decide)
theorem sg0_two {L : Lp} {r1 r2 : Rl} (k1 : RuOk r1) (k2 : RuOk r2) : SgOk L (sg0 [(.fdct (tbl r1), r1), (.fdct (tbl r2), r2)]) := by
  refine ⟨Nat.le_refl 2, fun t ht => ?_⟩
  have e1 := k1.len
  have e2 := k2.len
  rcases List.mem_cons.mp ht with rfl | ht
  · exact ⟨.fz, k1.r2, by show r1.length ≤ 1000; omega, Nat.zero_le _⟩
  · rw [List.mem_singleton.mp ht]
    exact ⟨.fz, k2.r2, by show r2.length ≤ 1000; omega, Nat.zero_le _⟩
/-- .. its two books, new -/
def sp_Chain_books (CH BK : Addr) : SpA := fun ds L Q _ => ∃ (x : D) (r1 r2 : Rl), ds = [x] ∧ Ch CH BK L x r1 r2 ∧ RuOk r1 ∧ RuOk r2 ∧ ∀ t1 x1 t2 x2, Nw L t1 x1 → Nw (nb BK L t1 x1 r1) t2 x2 → Q (.tup [.ptr x1, .ptr x2]) (nb BK (nb BK L t1 x1 r1) t2 x2 r2)
theorem ok_Chain_books (F : Fun K "books" "Chain.books" s_Chain_books f fd) (hb : Binds K fd ["self"] []) (bc : BkC K BK pT) (cc : ChC K CH pF pL) (m1 : Meth K BK "copy" gY) (f1 : FnA P w K mg base 10 gY (sp_Book_copy BK)) : FnA P w K mg base 11 f (sp_Chain_books CH BK) := by
  refine fnA F sc_Chain_books hb (fun ds L Q R h => by obtain ⟨_, _, _, rfl, _⟩ := h; rfl) fun cdv A outer s H E ds L Q R hr h => ?_
  obtain ⟨x, r1, r2, rfl, ⟨h1, h2⟩, k1, k2, q⟩ := h
  refine as_one (as_ret (ae_tup (aa_cons (ae_meth0 bc.sc m1 f1 (hr.mono (by omega)) (ae_sl (ae_name 0 rfl ⟨CH, pF, 0, _, h1, cc.sc, cc.s1, fBk.bk.ins, _, r1, rfl, fBk.bk, k1, fun t1 x1 n1 => aa_cons (ae_meth0 bc.sc m1 f1 (hr.mono (by omega)) (ae_sl (ae_name 0 rfl ⟨CH, pL, 1, _, h2.le n1.le, cc.sc, cc.s2, fBk.bk.ins, _, r2, rfl, fBk.bk, k2, fun t2 x2 n2 => aa_nil ?_⟩)))⟩))))))
  exact ⟨Nat.le_of_ble_eq_true rfl, _, .refl _, q t1 x1 t2 x2 n1 n2⟩
/-- the words of both -/
def Wd2 (r1 r2 : Rl) (ys : List Wd) : Prop := ∃ y1 y2, Wds (tx1 r1).flatten y1 ∧ Wds (tx1 r2).flatten y2 ∧ Wds (y1 ++ y2) ys
theorem wds_one {ks ys zs : List Wd} (h1 : Wds ks ys) (h2 : Wds ks zs) : ys = zs := rise_same h1.up h2.up fun k => (h1.mem k).trans (h2.mem k).symm
theorem wd2_one {r1 r2 : Rl} {ys zs : List Wd} (h1 : Wd2 r1 r2 ys) (h2 : Wd2 r1 r2 zs) : ys = zs := by
  obtain ⟨a1, a2, e1, e2, e3⟩ := h1
  obtain ⟨b1, b2, g1, g2, g3⟩ := h2
  rw [wds_one e1 g1, wds_one e2 g2] at e3
  exact wds_one e3 g3
def sp_Chain_words (CH BK : Addr) : SpA := fun ds L Q _ => ∃ (x : D) (r1 r2 : Rl), ds = [x] ∧ Ch CH BK L x r1 r2 ∧ RuOk r1 ∧ RuOk r2 ∧ ∀ ys, Wd2 r1 r2 ys → Q (dW ys) L
end
/-- tuple(sorted(set(a + b))), a and b texts in order -/
theorem ae_both {C : DL.Ctx} {Γ : Gm} {L : Lp} {a b : Expr} {p1 p2 p3 p4 p5 p6 p7 : Pos} {Q : D → Lp → Prop} (B : Bl C.X.mg) (hu : C.X.A.units + 100 < cLine) (h : AE C a Γ L fun x L1 => AE C b Γ L1 fun y L2 => ∃ ys zs, x = dW ys ∧ y = dW zs ∧ ys.length ≤ 1000 ∧ zs.length ≤ 1000 ∧ ∀ vs, Wds (ys ++ zs) vs → Q (dW vs) L2)
    (g1 : Gl C.X "tuple" := by rfl) (g2 : Gl C.X "sorted" := by rfl) (g3 : Gl C.X "set" := by rfl) : AE C (.Call (.Name "tuple" p1) [.Call (.Name "sorted" p2) [.Call (.Name "set" p3) [.BinOp a .Add b p4] [] p5] [] p6] [] p7) Γ L Q := by
  have h3 : AE C (.Call (.Name "set" p3) [.BinOp a .Add b p4] [] p5) Γ L fun d L2 => ∃ (ks : List Wd) (L1 : Lp) (l1 : Addr) (m1 : Nat), d = .ptr l1 ∧ L1 l1 = none ∧ L2 = put L1 l1 (.txs (fun k => decide (k ∈ ks)) m1) ∧ m1 ≤ ks.length ∧ ks.length ≤ 2000 ∧ ∀ vs, Wds ks vs → Q (dW vs) L1 :=
    ae_callT (hg := g3) (cr_setT C.calm) B.set (aa_cons (ae_add (h.mono fun x L1 h1 => h1.mono fun y L2 ⟨ys, zs, ex, ey, l1, l2, q⟩ => by
      subst ex ey
      refine add_T (xs := ys.map D.str) (ys := zs.map D.str) ?_ (by rw [List.length_map, List.length_map, sl_eq]; omega)
      rw [← List.map_append]
      have hl : (ys ++ zs).length ≤ 2000 := by rw [List.length_append]; omega
      exact aa_nil (c_setT (by unfold scanBound; omega) fun l1 m1 hl1 hm1 => ⟨ys ++ zs, L2, l1, m1, rfl, hl1, rfl, hm1, hl, q⟩))))
  refine AE.drop (ae_callT (hg := g1) call_tuple_of B.tuple (aa_cons (ae_callB (hg := g2) (cr_sortX C.calm hu) B.sorted (aa_cons (h3.mono fun d L2 ⟨ks, L1, l1, m1, ed, hl1, eL, hm1, hk, q⟩ => ?_)))))
  subst ed eL
  exact aa_nil (c_sortX put_same (by rw [sl_eq]; omega) fun l2 vs hl2 hrise hmem hlen => aa_nil (c_tupL put_same ⟨L1, (le_put hl1).trans (le_put hl2), q vs ⟨hrise, fun k => (hmem k).trans decide_eq_true_iff, by omega⟩⟩))
section
variable {P : Program} {w : World} {K : PySem.W.Frag} {mg : Str → Option Value} {base : Heap} {f : Addr} {fd : FuncData} {BK CH pT pF pL pR pB pW gI gC gS gY gJ gR gB gW gT : Addr}
theorem ok_Chain_words (F : Fun K "words" "Chain.words" s_Chain_words f fd) (hb : Binds K fd ["self"] []) (B : Bl mg) (bc : BkC K BK pT) (cc : ChC K CH pF pL) (m1 : Prop1 K BK "words" pW gW) (f1 : FnA P w K mg base 1 gW (sp_Book_words BK)) : FnA P w K mg base 3 f (sp_Chain_words CH BK) := by
  refine fnA F sc_Chain_words hb (fun ds L Q R h => by obtain ⟨_, _, _, rfl, _⟩ := h; rfl) fun cdv A outer s H E ds L Q R hr h => ?_
  obtain ⟨x, r1, r2, rfl, ⟨h1, h2⟩, k1, k2, q⟩ := h
  refine as_one (as_ret (ae_both B (u100 hr) ?_))
  refine ae_prop bc.sc m1 f1 (hr.mono (by omega)) (ae_sl (ae_name 0 rfl ⟨CH, pF, 0, _, h1, cc.sc, cc.s1, fBk.bk.ins, _, r1, rfl, fBk.bk, k1, fun y1 w1 => ae_prop bc.sc m1 f1 (hr.mono (by omega)) (ae_sl (ae_name 0 rfl ⟨CH, pL, 1, _, h2, cc.sc, cc.s2, fBk.bk.ins, _, r2, rfl, fBk.bk, k2, fun y2 w2 => ?_⟩))⟩))
  have n1 := (tx1_le k1).2
  have n2 := (tx1_le k2).2
  exact ⟨y1, y2, rfl, rfl, by have := w1.len; omega, by have := w2.len; omega, fun vs wv => ⟨_, .refl _, q vs ⟨y1, y2, w1, w2, wv⟩⟩⟩
/-! == -/
def sp_Book_eq (K : PySem.W.Frag) (BK : Addr) : SpA := fun ds L Q _ => (∃ (b1 b2 : D) (r1 r2 : Rl), ds = [b1, b2] ∧ Bk BK L b1 r1 ∧ Bk BK L b2 r2 ∧ RuOk r1 ∧ RuOk r2 ∧ Q (.bl (decide (r1 = r2))) L) ∨ ∃ (b1 b2 : D) (t : Value), ds = [b1, b2] ∧ TyL K L b2 t ∧ PySem.W.kitOne K t (.ref BK) = some false ∧ Q (.bl false) L
theorem ok_Book_eq (F : Fun K "__eq__" "Book.__eq__" s_Book___eq__ f fd) (hb : Binds K fd ["self", "other"] []) (B : Bl mg) (bc : BkC K BK pT) (si : SlX.SIsi K BK) (nb : mg "Book" = some (.ref BK)) (m1 : Prop1 K BK "rules" pR gR) (f1 : FnA P w K mg base 2 gR (sp_Book_rules BK)) : FnA P w K mg base 4 f (sp_Book_eq K BK) := by
  refine fnA F sc_Book___eq__ hb (fun ds L Q R h => by rcases h with ⟨_, _, _, _, rfl, _⟩ | ⟨_, _, _, rfl, _⟩ <;> rfl) fun cdv A outer s H E ds L Q R hr h => ?_
  rcases h with ⟨b1, b2, r1, r2, rfl, h1, h2, k1, k2, q⟩ | ⟨b1, b2, t, rfl, ty, hk, q⟩
  · have e1 := srt_self k1.up
    have e2 := srt_self k2.up
    have l1 := k1.len
    have l2 := k2.len
    refine as_one (as_ret (ae_and (ae_isiJ B.isinstance (ae_name 1 rfl (ae_glob (v := .ref BK) (d := .ptr BK) nb rfl (fun _ => .ptr BK) (isa_O (b := true) (.ins bc.sc si h2.ins) (by unfold PySem.W.kitOne; rw [if_pos (beq_self_eq_true _)]) ⟨_, rfl, fun _ => ?_, fun z => nomatch z⟩))))))
    refine ae_one (ae_cmpJ (ae_prop bc.sc m1 f1 (hr.mono (by omega)) (ae_name 0 rfl ⟨h1.ins, b1, r1, rfl, h1, by omega, k1.ne, k1.nd, ae_prop bc.sc m1 f1 (hr.mono (by omega)) (ae_name 1 rfl ⟨h2.ins, b2, r2, rfl, h2, by omega, k2.ne, k2.nd, ?_⟩)⟩)))
    rw [e1, e2]
    exact j_eqR (u64 hr) ⟨_, .refl _, q⟩
  · refine as_one (as_ret (ae_and (ae_isiJ B.isinstance (ae_name 1 rfl (ae_glob (v := .ref BK) (d := .ptr BK) nb rfl (fun _ => .ptr BK) (isa_O (b := false) ty hk ⟨_, rfl, (fun z => nomatch z), fun _ => ⟨_, .refl _, q⟩⟩))))))
def sp_Chain_eq (K : PySem.W.Frag) (CH BK : Addr) : SpA := fun ds L Q _ => (∃ r1 r2 s1 s2 : Rl, ds = [fCh CH BK r1 r2, fCh CH BK s1 s2] ∧ RuOk r1 ∧ RuOk r2 ∧ RuOk s1 ∧ RuOk s2 ∧ Q (.bl (decide (r1 = s1) && decide (r2 = s2))) L) ∨ ∃ (b1 b2 : D) (t : Value), ds = [b1, b2] ∧ TyL K L b2 t ∧ PySem.W.kitOne K t (.ref CH) = some false ∧ Q (.bl false) L
theorem Bk.ne {L : Lp} {x x2 : Addr} {rs : Rl} (h : Bk BK L (.ptr x) rs) (h0 : L x2 = none) : x ≠ x2 := fun e => by
  subst e
  obtain ⟨_, h1, _⟩ := h
  rcases h1 with ⟨a, fs, ea, h1, _⟩ | ⟨_, ea, _⟩
  · cases ea
    rw [h0] at h1
    cases h1
  · cases ea
theorem ok_Chain_eq (F : Fun K "__eq__" "Chain.__eq__" s_Chain___eq__ f fd) (hb : Binds K fd ["self", "other"] []) (B : Bl mg) (cc : ChC K CH pF pL) (si : SlX.SIsi K CH) (nbc : mg "Chain" = some (.ref CH)) (m1 : Prop1 K CH "books" pB gB) (f1 : FnA P w K mg base 11 gB (sp_Chain_books CH BK))
    (he : PySem.W.findIn K (.ref BK) "__eq__" = some (some (.ref gS))) (hf : PySem.W.isFn K (.ref gS) = true) (f2 : FnA P w K mg base 4 gS (sp_Book_eq K BK)) : FnA P w K mg base 13 f (sp_Chain_eq K CH BK) := by
  refine fnA F sc_Chain___eq__ hb (fun ds L Q R h => by rcases h with ⟨_, _, _, _, rfl, _⟩ | ⟨_, _, _, rfl, _⟩ <;> rfl) fun cdv A outer s H E ds L Q R hr h => ?_
  rcases h with ⟨r1, r2, s1, s2, rfl, k1, k2, k3, k4, q⟩ | ⟨b1, b2, t, rfl, ty, hk, q⟩
  · refine as_one (as_ret (ae_and (ae_isiJ B.isinstance (ae_name 1 rfl (ae_glob (v := .ref CH) (d := .ptr CH) nbc rfl (fun _ => .ptr CH) (isa_O (b := true) (.ins cc.sc si (fCh.ch (L := L)).h1.ins) (by unfold PySem.W.kitOne; rw [if_pos (beq_self_eq_true _)]) ⟨_, rfl, fun _ => ?_, fun z => nomatch z⟩))))))
    refine ae_one (ae_cmpJ (ae_prop cc.sc m1 f1 (hr.mono (by omega)) (ae_name 0 rfl ⟨(fCh.ch (L := L)).h1.ins, _, r1, r2, rfl, fCh.ch, k1, k2, fun t1 x1 t2 x2 n1 n2 => ae_prop cc.sc m1 f1 (hr.mono (by omega)) (ae_name 1 rfl ⟨fCh.ch.h1.ins, _, s1, s2, rfl, fCh.ch, k3, k4, fun t3 x3 t4 x4 n3 n4 => ?_⟩)⟩)))
    have i1 : Bk BK (nb BK (nb BK (nb BK (nb BK L t1 x1 r1) t2 x2 r2) t3 x3 s1) t4 x4 s2) (.ptr x1) r1 := ((n1.bk.le n2.le).le n3.le).le n4.le
    have i2 : Bk BK (nb BK (nb BK (nb BK (nb BK L t1 x1 r1) t2 x2 r2) t3 x3 s1) t4 x4 s2) (.ptr x2) r2 := (n2.bk.le n3.le).le n4.le
    have i3 : Bk BK (nb BK (nb BK (nb BK (nb BK L t1 x1 r1) t2 x2 r2) t3 x3 s1) t4 x4 s2) (.ptr x3) s1 := n3.bk.le n4.le
    have i4 : Bk BK (nb BK (nb BK (nb BK (nb BK L t1 x1 r1) t2 x2 r2) t3 x3 s1) t4 x4 s2) (.ptr x4) s2 := n4.bk
    have le : Le L (nb BK (nb BK (nb BK (nb BK L t1 x1 r1) t2 x2 r2) t3 x3 s1) t4 x4 s2) := ((n1.le.trans n2.le).trans n3.le).trans n4.le
    have ne1 : x1 ≠ x3 := Bk.ne ((n1.bk (BK := BK) (rs := r1)).le (n2.le (BK := BK) (rs := r2))) n3.x0
    have ne2 : x2 ≠ x4 := Bk.ne ((n2.bk (BK := BK) (rs := r2)).le (n3.le (BK := BK) (rs := s1))) n4.x0
    generalize nb BK (nb BK (nb BK (nb BK L t1 x1 r1) t2 x2 r2) t3 x3 s1) t4 x4 s2 = L4 at i1 i2 i3 i4 le ⊢
    have same : ∀ {Z : Fz} {H : Hp} {v : V} {a b : Addr}, a ≠ b → Rep K Z H v (.ptr a) → Rep K Z H v (.ptr b) → False := fun hne p1 p2 => by
      have e1 := p1.ptrE
      have e2 := p2.ptrE
      rw [e1] at e2
      cases e2
      exact hne rfl
    refine j_eqTup (k := 4) (hr.mono (by omega)) rfl (eqi_O he hf f2 i1.ins i3.ins (fun _ p1 p2 => (same ne1 p1 p2).elim) (.inl ⟨_, _, r1, s1, rfl, i1, i3, k1, k3, _, rfl, fun e => eqi_O he hf f2 i2.ins i4.ins (fun _ p1 p2 => (same ne2 p1 p2).elim) (.inl ⟨_, _, r2, s2, rfl, i2, i4, k2, k4, _, rfl, fun e' => ?_, fun e' => ?_⟩), fun e => ?_⟩))
    · rw [e, e'] at q
      exact ⟨L, le, q⟩
    · rw [e, e'] at q
      exact ⟨L, le, q⟩
    · rw [e] at q
      exact ⟨L, le, q⟩
  · refine as_one (as_ret (ae_and (ae_isiJ B.isinstance (ae_name 1 rfl (ae_glob (v := .ref CH) (d := .ptr CH) nbc rfl (fun _ => .ptr CH) (isa_O (b := false) ty hk ⟨_, rfl, (fun z => nomatch z), fun _ => ⟨_, .refl _, q⟩⟩))))))
/-! b[key] = cells -/
def sp_Book_set (BK : Addr) : SpA := fun ds L Q _ => ∃ (x t : Addr) (rs : Rl) (k : List Wd) (z : List Cell), ds = [.ptr x, dW k, dC z] ∧ L x = some (.ins BK [some (.ptr t)]) ∧ L t = some (.dct (tbl rs)) ∧ rs.length ≤ 5 ∧ kyD (dW k) = true ∧ csD (dC z) = true ∧ Q .non (put L t (.dct (tbl (putR rs k z))))
theorem ok_Book_set (F : Fun K "__setitem__" "Book.__setitem__" s_Book___setitem__ f fd) (hb : Binds K fd ["self", "key", "cells"] []) (B : Bl mg) (bc : BkC K BK pT) (g1 : GI mg "MOST_RULES" 6) (d1 : Def P w K mg base "is_key" 3 sp_is_key) (d2 : Def P w K mg base "is_cells" 5 sp_is_cells) : FnA P w K mg base 6 f (sp_Book_set BK) := by
  refine fnA F sc_Book___setitem__ hb (fun ds L Q R h => by obtain ⟨_, _, _, _, _, rfl, _⟩ := h; rfl) fun cdv A outer s H E ds L Q R hr h => ?_
  obtain ⟨x, t, rs, k, z, rfl, hx, ht, hl, hk, hz, q⟩ := h
  have hf : HasF L (.ptr x) BK 0 (.ptr t) := .st hx rfl
  have hd : DR L (.ptr t) (tbl rs) := .inl ⟨t, rfl, ht⟩
  walk
  refine ⟨okE_dW k, _, rfl, ?_⟩
  rw [hk]
  k_few
  walk
  refine ⟨okE_dC z, _, rfl, ?_⟩
  rw [hz]
  k_few
  walk
  refine ae_sl ?_
  walk
  refine ⟨BK, pT, 0, .ptr t, hf, bc.sc, bc.sl, ?_⟩
  walk
  obtain ⟨tm, g1⟩ := g1
  refine ⟨fun _ => ?_, fun _ => ?_⟩
  · walk
    refine ae_sl ?_
    walk
    refine ⟨BK, pT, 0, .ptr t, hf, bc.sc, bc.sl, ?_⟩
    walk
    refine ae_globI g1 ?_
    walk
    rw [tbl_len, decide_eq_false (by omega : ¬ ((rs.length : Nat) : Int) = 6)]
    k_few
    walk
    refine as_sub (set_DT (u1 hr)) (ae_name 2 rfl (ae_sl (ae_name 0 rfl ⟨BK, pT, 0, .ptr t, hf, bc.sc, bc.sl, ae_name 1 rfl (w_W ht (by rw [sl_eq]; omega) ?_)⟩)))
    exact ⟨_, .refl _, q⟩
  · k_few
    walk
    refine as_sub (set_DT (u1 hr)) (ae_name 2 rfl (ae_sl (ae_name 0 rfl ⟨BK, pT, 0, .ptr t, hf, bc.sc, bc.sl, ae_name 1 rfl (w_W ht (by rw [sl_eq]; omega) ?_)⟩)))
    exact ⟨_, .refl _, q⟩
end
end K
namespace K
open PySem PySem.Spec PyProof.Rows L2 DL
set_option hygiene false in
local macro_rules | `(tactic| k_get) => `(tactic| first
  | refine ae_name 0 rfl ?_ | refine ae_name 1 rfl ?_ | refine ae_name 2 rfl ?_ | refine ae_name 3 rfl ?_ | refine ae_name 4 rfl ?_ | refine ae_name 5 rfl ?_ | refine ae_name 6 rfl ?_ | refine ae_name 7 rfl ?_ | refine ae_name 8 rfl ?_ | refine ae_name 9 rfl ?_ | refine ae_name 10 rfl ?_ | refine ae_name 11 rfl ?_ | refine ae_name 12 rfl ?_
  | refine ae_int ?_ | refine ae_bl ?_ | refine ae_non ?_ | refine ae_str ?_ | refine ae_tup ?_ | refine ae_lst ?_
  | refine ae_and ?_ | refine ae_or ?_ | refine ae_one ?_ | refine ae_not ?_ | refine ae_neg ?_ | refine ae_ifExp ?_
  | refine ae_eq (u64 hr) ?_ | refine ae_ne (u64 hr) ?_ | refine ae_lt (u64 hr) ?_ | refine ae_le ?_ | refine ae_gt ?_ | refine ae_ge ?_ | refine ae_in (u1 hr) ?_ | refine ae_nin (u1 hr) ?_ | refine ae_is ?_ | refine ae_isn ?_
  | refine ae_lele ?_
  | refine ae_add ?_ | refine ae_sub ?_ | refine ae_mul ?_ | refine ae_mod ?_ | refine ae_div ?_
  | refine ae_slice sl_A ?_ | refine ae_ix (ix_A (u1 hr)) ?_
  | refine ae_c_len B.len ?_ | refine ae_c_int B.int ?_ | refine ae_c_abs B.abs ?_ | refine ae_c_max B.max ?_ | refine ae_c_min B.min ?_ | refine ae_c_isi B.isinstance ?_
  | refine ae_tupL B.tuple (?_ : AL _ (.ListComp _ _ _ _) _ _ _) | refine ae_c_tuple B.tuple ?_ | refine ae_allL B.all ?_ | refine ae_anyL B.any ?_
  | refine ae_call (by assumption) (hr.mono (by omega)) ?_
  | refine ae_append ?_
  | refine ae_bltn (T := "tuple") B.tuple (by decide +kernel) ?_ | refine ae_bltn (T := "str") B.str (by decide +kernel) ?_ | refine ae_bltn (T := "list") B.list (by decide +kernel) ?_ | refine ae_bltn (T := "int") B.int (by decide +kernel) ?_ | refine ae_bltn (T := "bool") B.bool (by decide +kernel) ?_ )
set_option hygiene false in
local macro_rules | `(tactic| k_put) => `(tactic| first
  | refine add_I ?_ | refine add_T ?_ ?_ | refine add_S ?_ ?_ | refine sub_I ?_ | refine eq_I ?_ | refine ne_I ?_ | refine eq_S ?_ | refine ne_S ?_ | refine lt_I ?_ | refine lt_S ?_ | refine le_I ?_ | refine gt_I ?_ | refine ge_I ?_
  | refine isa_N ?_ | refine isnota_N ?_ | refine ixa_T ?_ rfl | refine ixa_N ?_ rfl | refine ixa_R (by assumption) ?_ rfl | refine mod_I ?_ ?_ | refine div_I ?_ ?_ | refine mul_I ?_ ?_ | refine mul_S ?_ ?_ ?_ ?_ | refine in_W (by assumption) ?_ | refine notIn_W (by assumption) ?_ | refine in_sign ?_ | refine in_L (by assumption) ?_ | refine notIn_L (by assumption) ?_ | refine in_T ?_ | refine notIn_T ?_ | refine eq_W0 ?_ | refine eq_W ?_ | refine ne_W ?_ | refine eq_C ?_ | refine ne_C ?_ | refine r_ipI ?_ )
set_option hygiene false in
local macro_rules | `(tactic| k_go) => `(tactic| first
  | (show DL.ASs _ _ _ _ _; first | refine as_one ?_ | refine as_cons ?_ | refine as_nil ?_)
  | (show DL.AS _ _ _ _ _; first | refine as_ret ?_ | refine as_if ?_ | refine as_expr ?_ | refine as_set 0 ?_ | refine as_set 1 ?_ | refine as_set 2 ?_ | refine as_set 3 ?_ | refine as_set 4 ?_ | refine as_set 5 ?_ | refine as_set 6 ?_ | refine as_set 7 ?_ | refine as_set 8 ?_ | refine as_set 9 ?_ | refine as_set 10 ?_ | refine as_set 11 ?_ | refine as_aug 0 ip_add rfl ?_ | refine as_aug 1 ip_add rfl ?_ | refine as_aug 2 ip_add rfl ?_ | refine as_aug 3 ip_add rfl ?_ | refine as_aug 4 ip_add rfl ?_ | refine as_aug 5 ip_add rfl ?_ | refine as_aug 6 ip_add rfl ?_ | refine as_retN ?_ | refine as_pass ?_ | refine as_break ?_ | refine as_continue ?_)
  | (show AE _ _ _ _ _; k_get)
  | (show AT _ _ _ _ _; first | refine at_w (?_ : AW _ (.BoolOp _ _ _) _ _ _) | refine at_not ?_ | refine at_eq (u64 hr) ?_ | refine at_ne (u64 hr) ?_ | refine at_lt (u64 hr) ?_ | refine at_le ?_ | refine at_gt ?_ | refine at_ge ?_ | refine at_in (u1 hr) ?_ | refine at_nin (u1 hr) ?_ | refine at_is ?_ | refine at_isn ?_ | refine at_lele ?_ | refine at_val ?_)
  | (show AW _ _ _ _ _; first | refine aw_and ?_ | refine aw_or ?_ | refine aw_and1 ?_ | refine aw_or1 ?_)
  | (show AA _ _ _ _ _; first | refine aa_cons ?_ | refine aa_nil ?_)
  | (show AO _ _ _ _ _; first | refine ao_some ?_ | refine ao_none ?_)
  | (show L2R _ _ _ _ _ _; k_put)
  | (show LcR _ _ _ _ _; first | refine len_T ?_ | refine len_N ?_ | refine len_S ?_ | refine len_L (by assumption) ?_ | refine len_D (by assumption) ?_ | refine c_intI ?_ | refine c_intB ?_ | refine c_abs ?_ | refine c_max ?_ | refine c_min ?_ | refine c_tupT ?_ | refine lr_tup (by assumption) ?_ | refine isi_tt ?_ | refine isi_ii ?_ | refine isi_ib ?_ | refine isi_ss ?_ | refine isi_is ?_ | refine isi_ts ?_ | refine isi_st ?_ | refine isi_bb ?_)
  | (show LsR _ _ _ _ _ _ _; first | refine sla_T ?_ | refine sla_S ?_)
  | refine ⟨Nat.le_of_ble_eq_true rfl, ?_⟩
  | refine ⟨_, rfl, ?_⟩ | refine ⟨_, _, rfl, ?_⟩ | refine ⟨_, _, _, rfl, ?_⟩ | refine ⟨_, _, _, _, rfl, ?_⟩
  | exact ⟨_, .refl _, q⟩)
set_option hygiene false in
local macro_rules | `(tactic| walk) => `(tactic| repeat k_go)
set_option hygiene false in
local macro_rules | `(tactic| k_few) => `(tactic| first | refine ⟨fun _ => ?_, (fun z => Bool.noConfusion z)⟩ | refine ⟨(fun z => Bool.noConfusion z), fun _ => ?_⟩)
set_option hygiene false in
local macro_rules | `(tactic| k_not) => `(tactic| refine ⟨fun hk => ?_, fun hk => ?_⟩)
section
variable {P : Program} {w : World} {K : PySem.W.Frag} {mg : Str → Option Value} {base : Heap} {f : Addr} {fd : FuncData} {BK CH BT pT pF pL gT : Addr}
def sp_steps_by : SpA := fun ds L Q _ => ∃ (t : D) (rs : Rl) (ws : List Wd), ds = [t, dW ws] ∧ DR L t (tbl rs) ∧ RL2 rs ∧ ws.length ≤ 100000 ∧ Q (.tup ((st1 rs (one ws)).map dSt)) L
theorem ok_steps_by (F : Fun K "steps_by" "steps_by" s_steps_by f fd) (hb : Binds K fd ["rules", "text"] []) (B : Bl mg) (d1 : Def P w K mg base "cells_of" 1 sp_cells_of) (d2 : Def P w K mg base "key_at" 2 sp_key_at) : FnA P w K mg base 3 f sp_steps_by := by
  refine fnA F sc_steps_by hb (fun ds L Q R h => by obtain ⟨_, _, _, rfl, _⟩ := h; rfl) fun cdv A outer s H E ds L Q R hr h => ?_
  obtain ⟨t, rs, ws, rfl, ht, hR, hz, q⟩ := h
  unfold st1 at q
  have hol : (one ws).length = ws.length := List.length_map ..
  generalize hcs : one ws = cs at q hol
  refine as_cons (as_asg ?_)
  walk
  intro l hl
  walk
  refine ⟨_, _, ag_tup (ags_cons (ag_name 2) (ags_cons (ag_name 3) (ags_cons (ag_name 4) (ags_cons (ag_name 5) ags_nil)))), ?_⟩
  refine as_cons (as_while (fun m Γ1 L1 => ∃ (fnd : List (Nat × List Wd × Nat)) (a n : Nat) (x : Option D), L1 = put L l (.lst (fnd.map dSt)) ∧ Γ1 = [some t, some (dW ws), some (dC cs), some (.ptr l), some (.int a), some (.int n), x] ∧ fnd ++ stF rs cs m a n = stF rs cs cs.length 0 0 ∧ cs.length ≤ a + m ∧ fnd.length ≤ a ∧ a ≤ cs.length) cs.length ⟨[], 0, 0, none, rfl, by rw [← hcs]; rfl, rfl, by omega, Nat.le_refl _, by omega⟩ ?_)
  rintro m Γ1 L1 ⟨fnd, a, n, x, rfl, rfl, inv, hm, hf, ha⟩
  have ht2 : DR (put L l (.lst (fnd.map dSt))) t (tbl rs) := ht.put hl
  have ht3 : ∀ xs, DR (put L l (.lst xs)) t (tbl rs) := fun xs => ht.put hl
  have hlen : (cs.map dW).length = cs.length := List.length_map ..
  walk
  rw [hlen]
  k_not
  · have hlt : a < cs.length := by have := of_decide_eq_true hk; omega
    obtain ⟨m, rfl⟩ : ∃ m', m = m' + 1 := ⟨m - 1, by omega⟩
    have hend := kAt_end (rs := rs) hlt
    have hkl := kAt_len rs cs a
    rw [stF_step hlt] at inv
    walk
    refine ⟨t, rs, cs, a, rfl, ht2, ?_⟩
    walk
    refine ⟨l, _, rfl, put_same, ?_⟩
    walk
    refine ⟨_, put_same, by rw [List.length_map, sl_eq]; omega, ?_⟩
    rw [put_put]
    have e5 : fnd.map dSt ++ [D.tup [D.int a, dW (kAt rs cs a), D.int n]] = (fnd ++ [(a, kAt rs cs a, n)]).map dSt := by rw [List.map_append]; rfl
    rw [e5]
    refine as_cons (as_aug 5 ip_add rfl (AE.mono (Q := fun d L' => d = .int ((wrt rs cs a).length : Nat) ∧ L' = put L l (.lst ((fnd ++ [(a, kAt rs cs a, n)]).map dSt))) ?_ ?_))
    · walk
      k_not
      · have h0 : szAt rs cs a = 0 := by
          cases e : kAt rs cs a with
          | nil => rw [e] at hkl; exact hkl.symm
          | cons y ys => rw [e] at hk; cases hk
        walk
        exact ⟨by unfold wrt; rw [if_pos h0]; rfl, rfl⟩
      · have h0 : szAt rs cs a ≠ 0 := fun h0 => by
          rw [kAt_none h0] at hk
          cases hk
        obtain ⟨z, h1, h2, h3⟩ := kAt_some h0
        walk
        refine ixa_W (ht3 _) ?_ h2
        walk
        exact ⟨by unfold wrt; rw [if_neg h0, h2, List.length_map]; rfl, rfl⟩
    · rintro d L' ⟨rfl, rfl⟩
      walk
      rw [List.length_map, hkl]
      have emax : (if ((szAt rs cs a : Nat) : Int) > 1 then ((szAt rs cs a : Nat) : Int) else 1) = ((max 1 (szAt rs cs a) : Nat) : Int) := by
        split <;> omega
      rw [emax]
      refine ⟨m, by omega, fnd ++ [(a, kAt rs cs a, n)], a + max 1 (szAt rs cs a), n + (wrt rs cs a).length, some (dW (kAt rs cs a)), rfl, rfl, ?_, by omega, by rw [List.length_append, List.length_singleton]; omega, hend⟩
      rw [List.append_assoc]
      exact inv
  · have hge : cs.length ≤ a := by have := of_decide_eq_false hk; omega
    rw [stF_end hge, List.append_nil] at inv
    have hp : LR (put L l (.lst (fnd.map dSt))) (.ptr l) (fnd.map dSt) := .st put_same
    walk
    rw [inv]
    exact ⟨L, le_put hl, q⟩
def sp_certain : SpA := fun ds L Q _ => ∃ (ts : List (D × Rl)) (ws : List Wd), ds = [.tup (ts.map (·.1)), dW ws] ∧ SgOk L (sg0 ts) ∧ ws.length ≤ 100000 ∧ Q (.tup [dC (thr false ((sg0 ts).map (·.2)) (one ws)).2, dH (thr false ((sg0 ts).map (·.2)) (one ws)).1]) L
theorem ok_certain (F : Fun K "certain" "certain" s_certain f fd) (hb : Binds K fd ["stages", "text"] []) (B : Bl mg) (d1 : Def P w K mg base "cells_of" 1 sp_cells_of) (d2 : Def P w K mg base "nothing_pending" 1 sp_nothing_pending) (d3 : Def P w K mg base "through" 4 sp_through) : FnA P w K mg base 5 f sp_certain := by
  refine fnA F sc_certain hb (fun ds L Q R h => by obtain ⟨_, _, rfl, _⟩ := h; rfl) fun cdv A outer s H E ds L Q R hr h => ?_
  obtain ⟨ts, ws, rfl, hs, hz, q⟩ := h
  have e1 : dT (sg0 ts) = .tup (ts.map (·.1)) := by unfold dT sg0; rw [List.map_map]; rfl
  have e2 : dP (sg0 ts) = .tup ((ts.map (·.1)).map fun _ => .tup []) := by unfold dP sg0; rw [List.map_map, List.map_map]; rfl
  refine as_cons (as_asg ?_)
  walk
  rw [← e1, ← e2]
  refine ⟨sg0 ts, one ws, false, rfl, hs, by show (ws.map _).length ≤ _; rw [List.length_map]; exact hz, ?_⟩
  refine ⟨_, _, ag_tup (ags_cons (ag_name 2) (ags_cons (ag_name 3) ags_nil)), ?_⟩
  walk
/-- what is certain, what is pending -/
abbrev Bg := List Cell × List (List Wd)
def dBg (x : Bg) : D := .tup [dC x.1, dH x.2]
def pend (rs : Rl) (ws : List Wd) : List Wd := (rw2 false rs (one ws)).2.map hd0
def cert (rs : Rl) (ws : List Wd) : List Cell := (rw2 false rs (one ws)).1
/-- .. of a chain -/
def cert2 (r1 r2 : Rl) (ws : List Wd) : List Cell := (rw2 false r2 (cert r1 ws)).1
def pend2 (r1 r2 : Rl) (ws : List Wd) : List Wd := (rw2 false r2 (cert r1 ws)).2.map hd0
theorem thr_one (wh : Bool) (rs : Rl) (cs : List Cell) : thr wh [(rs, [])] cs = ([(rw2 wh rs cs).2.map hd0], (rw2 wh rs cs).1) := rfl
/-- a text, or what is none and is refused -/
def Tx (BT : Addr) (L : Lp) (R : Value → List (Str × D) → Lp → Prop) (d : D) (good : List Wd → Prop) : Prop := (∃ ws, d = dW ws ∧ (∀ x ∈ ws, wdS x = true) ∧ ws.length ≤ 100000 ∧ good ws) ∨ (okE d = true ∧ txD d = false ∧ R (.ref BT) [("value", d)] L)
abbrev BtC (P : Program) (w : World) (K : PySem.W.Frag) (mg : Str → Option Value) (base : Heap) (BT : Addr) : Prop := Err1 P w K mg base "BadText" BT 1 ["value"]
def sp_Book_call (BK BT : Addr) : SpA := fun ds L Q R => ∃ (b : D) (rs : Rl) (d : D), ds = [b, d] ∧ Bk BK L b rs ∧ RuOk rs ∧ Tx BT L R d fun ws => Q (dC (rw1 rs (one ws))) L
theorem ok_Book_call (F : Fun K "__call__" "Book.__call__" s_Book___call__ f fd) (hb : Binds K fd ["self", "text"] []) (bc : BkC K BK pT) (bt : BtC P w K mg base BT) (d1 : Def P w K mg base "is_text" 2 sp_is_text) (d2 : Def P w K mg base "written" 5 sp_written) : FnA P w K mg base 6 f (sp_Book_call BK BT) := by
  refine fnA F sc_Book___call__ hb (fun ds L Q R h => by obtain ⟨_, _, _, rfl, _⟩ := h; rfl) fun cdv A outer s H E ds L Q R hr h => ?_
  obtain ⟨b, rs, d, rfl, ⟨t, hf, ht⟩, hR, ⟨ws, rfl, hw, hz, q⟩ | ⟨hd, htx, q⟩⟩ := h
  · have hl := hR.len
    walk
    refine ⟨okE_dW ws, _, rfl, ?_⟩
    rw [txD_of hw]
    k_few
    walk
    refine ae_sl ?_
    walk
    refine ⟨BK, pT, 0, t, hf, bc.sc, bc.sl, ?_⟩
    walk
    refine ⟨[(t, rs)], ws, rfl, ⟨by show 1 ≤ 2; decide, fun p hp => ?_⟩, hz, L, .refl L, ?_⟩
    · rw [show p = (t, rs, []) from List.mem_singleton.mp hp]
      exact ⟨ht, hR.r2, by show rs.length ≤ 1000; omega, Nat.zero_le _⟩
    · show Q (dC (thr true [(rs, [])] (one ws)).2) L
      rw [thr_one, rw2_whole]
      exact q
  · walk
    refine ⟨hd, _, rfl, ?_⟩
    rw [htx]
    k_few
    exact as_one (as_raise (am_err bt (hr.mono (by omega)) (ae_name 1 rfl q)))
def sp_Book_begun (BK BT : Addr) : SpA := fun ds L Q R => ∃ (b : D) (rs : Rl) (d : D), ds = [b, d] ∧ Bk BK L b rs ∧ RuOk rs ∧ Tx BT L R d fun ws => Q (dBg (cert rs ws, [pend rs ws])) L
theorem ok_Book_begun (F : Fun K "begun" "Book.begun" s_Book_begun f fd) (hb : Binds K fd ["self", "text"] []) (bc : BkC K BK pT) (bt : BtC P w K mg base BT) (d1 : Def P w K mg base "is_text" 2 sp_is_text) (d2 : Def P w K mg base "certain" 5 sp_certain) : FnA P w K mg base 6 f (sp_Book_begun BK BT) := by
  refine fnA F sc_Book_begun hb (fun ds L Q R h => by obtain ⟨_, _, _, rfl, _⟩ := h; rfl) fun cdv A outer s H E ds L Q R hr h => ?_
  obtain ⟨b, rs, d, rfl, ⟨t, hf, ht⟩, hR, ⟨ws, rfl, hw, hz, q⟩ | ⟨hd, htx, q⟩⟩ := h
  · have hl := hR.len
    walk
    refine ⟨okE_dW ws, _, rfl, ?_⟩
    rw [txD_of hw]
    k_few
    walk
    refine ae_sl ?_
    walk
    refine ⟨BK, pT, 0, t, hf, bc.sc, bc.sl, ?_⟩
    walk
    refine ⟨[(t, rs)], ws, rfl, ⟨by show 1 ≤ 2; decide, fun p hp => ?_⟩, hz, L, .refl L, q⟩
    rw [show p = (t, rs, []) from List.mem_singleton.mp hp]
    exact ⟨ht, hR.r2, by show rs.length ≤ 1000; omega, Nat.zero_le _⟩
  · walk
    refine ⟨hd, _, rfl, ?_⟩
    rw [htx]
    k_few
    exact as_one (as_raise (am_err bt (hr.mono (by omega)) (ae_name 1 rfl q)))
def sp_Book_steps (BK BT : Addr) : SpA := fun ds L Q R => ∃ (b : D) (rs : Rl) (d : D), ds = [b, d] ∧ Bk BK L b rs ∧ RuOk rs ∧ Tx BT L R d fun ws => Q (.tup ((st1 rs (one ws)).map dSt)) L
theorem ok_Book_steps (F : Fun K "steps" "Book.steps" s_Book_steps f fd) (hb : Binds K fd ["self", "text"] []) (bc : BkC K BK pT) (bt : BtC P w K mg base BT) (d1 : Def P w K mg base "is_text" 2 sp_is_text) (d2 : Def P w K mg base "steps_by" 3 sp_steps_by) : FnA P w K mg base 4 f (sp_Book_steps BK BT) := by
  refine fnA F sc_Book_steps hb (fun ds L Q R h => by obtain ⟨_, _, _, rfl, _⟩ := h; rfl) fun cdv A outer s H E ds L Q R hr h => ?_
  obtain ⟨b, rs, d, rfl, ⟨t, hf, ht⟩, hR, ⟨ws, rfl, hw, hz, q⟩ | ⟨hd, htx, q⟩⟩ := h
  · walk
    refine ⟨okE_dW ws, _, rfl, ?_⟩
    rw [txD_of hw]
    k_few
    walk
    refine ae_sl ?_
    walk
    refine ⟨BK, pT, 0, t, hf, bc.sc, bc.sl, ?_⟩
    walk
    exact ⟨t, rs, ws, rfl, ht, hR.r2, hz, L, .refl L, q⟩
  · walk
    refine ⟨hd, _, rfl, ?_⟩
    rw [htx]
    k_few
    exact as_one (as_raise (am_err bt (hr.mono (by omega)) (ae_name 1 rfl q)))
def sp_Chain_begun (CH BK BT : Addr) : SpA := fun ds L Q R => ∃ (x : D) (r1 r2 : Rl) (d : D), ds = [x, d] ∧ Ch CH BK L x r1 r2 ∧ RuOk r1 ∧ RuOk r2 ∧ Tx BT L R d fun ws => Q (dBg (cert2 r1 r2 ws, [pend r1 ws, pend2 r1 r2 ws])) L
theorem ok_Chain_begun (F : Fun K "begun" "Chain.begun" s_Chain_begun f fd) (hb : Binds K fd ["self", "text"] []) (cc : ChC K CH pF pL) (bt : BtC P w K mg base BT) (m1 : Meth K CH "stages" gT) (f1 : FnA P w K mg base 3 gT (sp_Chain_stages CH BK)) (d1 : Def P w K mg base "is_text" 2 sp_is_text) (d2 : Def P w K mg base "certain" 5 sp_certain) : FnA P w K mg base 6 f (sp_Chain_begun CH BK BT) := by
  refine fnA F sc_Chain_begun hb (fun ds L Q R h => by obtain ⟨_, _, _, _, rfl, _⟩ := h; rfl) fun cdv A outer s H E ds L Q R hr h => ?_
  obtain ⟨x, r1, r2, d, rfl, hc, k1, k2, ⟨ws, rfl, hw, hz, q⟩ | ⟨hd, htx, q⟩⟩ := h
  · walk
    refine ⟨okE_dW ws, _, rfl, ?_⟩
    rw [txD_of hw]
    k_few
    walk
    refine ae_meth0 cc.sc m1 f1 (hr.mono (by omega)) ?_
    walk
    refine ⟨hc.h1.ins, x, r1, r2, rfl, hc, ?_⟩
    walk
    exact ⟨[(.fdct (tbl r1), r1), (.fdct (tbl r2), r2)], ws, rfl, sg0_two k1 k2, hz, L, .refl L, q⟩
  · walk
    refine ⟨hd, _, rfl, ?_⟩
    rw [htx]
    k_few
    exact as_one (as_raise (am_err bt (hr.mono (by omega)) (ae_name 1 rfl q)))
def sp_Chain_call (CH BK BT : Addr) : SpA := fun ds L Q R => ∃ (x : D) (r1 r2 : Rl) (d : D), ds = [x, d] ∧ Ch CH BK L x r1 r2 ∧ RuOk r1 ∧ RuOk r2 ∧ Tx BT L R d fun ws => Q (dC (rw1 r2 (rw1 r1 (one ws)))) L
theorem ok_Chain_call (F : Fun K "__call__" "Chain.__call__" s_Chain___call__ f fd) (hb : Binds K fd ["self", "text"] []) (cc : ChC K CH pF pL) (bt : BtC P w K mg base BT) (m1 : Meth K CH "stages" gT) (f1 : FnA P w K mg base 3 gT (sp_Chain_stages CH BK)) (d1 : Def P w K mg base "is_text" 2 sp_is_text) (d2 : Def P w K mg base "written" 5 sp_written) : FnA P w K mg base 6 f (sp_Chain_call CH BK BT) := by
  refine fnA F sc_Chain___call__ hb (fun ds L Q R h => by obtain ⟨_, _, _, _, rfl, _⟩ := h; rfl) fun cdv A outer s H E ds L Q R hr h => ?_
  obtain ⟨x, r1, r2, d, rfl, hc, k1, k2, ⟨ws, rfl, hw, hz, q⟩ | ⟨hd, htx, q⟩⟩ := h
  · walk
    refine ⟨okE_dW ws, _, rfl, ?_⟩
    rw [txD_of hw]
    k_few
    walk
    refine ae_meth0 cc.sc m1 f1 (hr.mono (by omega)) ?_
    walk
    refine ⟨hc.h1.ins, x, r1, r2, rfl, hc, ?_⟩
    walk
    refine ⟨[(.fdct (tbl r1), r1), (.fdct (tbl r2), r2)], ws, rfl, sg0_two k1 k2, hz, L, .refl L, ?_⟩
    show Q (dC (rw2 true r2 (rw2 true r1 (one ws)).1).1) L
    rw [rw2_whole, rw2_whole]
    exact q
  · walk
    refine ⟨hd, _, rfl, ?_⟩
    rw [htx]
    k_few
    exact as_one (as_raise (am_err bt (hr.mono (by omega)) (ae_name 1 rfl q)))
end
end K
namespace K
open PySem PySem.Spec PyProof.Rows L2 DL
set_option hygiene false in
local macro_rules | `(tactic| k_get) => `(tactic| first
  | refine ae_name 0 rfl ?_ | refine ae_name 1 rfl ?_ | refine ae_name 2 rfl ?_ | refine ae_name 3 rfl ?_ | refine ae_name 4 rfl ?_ | refine ae_name 5 rfl ?_ | refine ae_name 6 rfl ?_ | refine ae_name 7 rfl ?_ | refine ae_name 8 rfl ?_ | refine ae_name 9 rfl ?_ | refine ae_name 10 rfl ?_ | refine ae_name 11 rfl ?_ | refine ae_name 12 rfl ?_
  | refine ae_int ?_ | refine ae_bl ?_ | refine ae_non ?_ | refine ae_str ?_ | refine ae_tup ?_ | refine ae_lst ?_
  | refine ae_and ?_ | refine ae_or ?_ | refine ae_one ?_ | refine ae_not ?_ | refine ae_neg ?_ | refine ae_ifExp ?_
  | refine ae_eq (u64 hr) ?_ | refine ae_ne (u64 hr) ?_ | refine ae_lt (u64 hr) ?_ | refine ae_le ?_ | refine ae_gt ?_ | refine ae_ge ?_ | refine ae_in (u1 hr) ?_ | refine ae_nin (u1 hr) ?_ | refine ae_is ?_ | refine ae_isn ?_
  | refine ae_lele ?_
  | refine ae_add ?_ | refine ae_sub ?_ | refine ae_mul ?_ | refine ae_mod ?_ | refine ae_div ?_
  | refine ae_slice sl_A ?_ | refine ae_ix (ix_A (u1 hr)) ?_
  | refine ae_c_len B.len ?_ | refine ae_c_int B.int ?_ | refine ae_c_abs B.abs ?_ | refine ae_c_max B.max ?_ | refine ae_c_min B.min ?_ | refine ae_c_isi B.isinstance ?_
  | refine ae_tupL B.tuple (?_ : AL _ (.ListComp _ _ _ _) _ _ _) | refine ae_c_tuple B.tuple ?_ | refine ae_allL B.all ?_ | refine ae_anyL B.any ?_
  | refine ae_call (by assumption) (hr.mono (by omega)) ?_
  | refine ae_append ?_
  | refine ae_bltn (T := "tuple") B.tuple (by decide +kernel) ?_ | refine ae_bltn (T := "str") B.str (by decide +kernel) ?_ | refine ae_bltn (T := "list") B.list (by decide +kernel) ?_ | refine ae_bltn (T := "int") B.int (by decide +kernel) ?_ | refine ae_bltn (T := "bool") B.bool (by decide +kernel) ?_ )
set_option hygiene false in
local macro_rules | `(tactic| k_put) => `(tactic| first
  | refine add_I ?_ | refine add_T ?_ ?_ | refine add_S ?_ ?_ | refine sub_I ?_ | refine eq_I ?_ | refine ne_I ?_ | refine eq_S ?_ | refine ne_S ?_ | refine lt_I ?_ | refine lt_S ?_ | refine le_I ?_ | refine gt_I ?_ | refine ge_I ?_
  | refine isa_N ?_ | refine isnota_N ?_ | refine ixa_T ?_ rfl | refine ixa_N ?_ rfl | refine ixa_R (by assumption) ?_ rfl | refine mod_I ?_ ?_ | refine div_I ?_ ?_ | refine mul_I ?_ ?_ | refine mul_S ?_ ?_ ?_ ?_ | refine in_W (by assumption) ?_ | refine notIn_W (by assumption) ?_ | refine in_sign ?_ | refine in_L (by assumption) ?_ | refine notIn_L (by assumption) ?_ | refine in_T ?_ | refine notIn_T ?_ | refine eq_W0 ?_ | refine eq_W ?_ | refine ne_W ?_ | refine eq_C ?_ | refine ne_C ?_ | refine r_ipI ?_ )
set_option hygiene false in
local macro_rules | `(tactic| k_go) => `(tactic| first
  | (show DL.ASs _ _ _ _ _; first | refine as_one ?_ | refine as_cons ?_ | refine as_nil ?_)
  | (show DL.AS _ _ _ _ _; first | refine as_ret ?_ | refine as_if ?_ | refine as_expr ?_ | refine as_set 0 ?_ | refine as_set 1 ?_ | refine as_set 2 ?_ | refine as_set 3 ?_ | refine as_set 4 ?_ | refine as_set 5 ?_ | refine as_set 6 ?_ | refine as_set 7 ?_ | refine as_set 8 ?_ | refine as_set 9 ?_ | refine as_set 10 ?_ | refine as_set 11 ?_ | refine as_aug 0 ip_add rfl ?_ | refine as_aug 1 ip_add rfl ?_ | refine as_aug 2 ip_add rfl ?_ | refine as_aug 3 ip_add rfl ?_ | refine as_aug 4 ip_add rfl ?_ | refine as_aug 5 ip_add rfl ?_ | refine as_aug 6 ip_add rfl ?_ | refine as_retN ?_ | refine as_pass ?_ | refine as_break ?_ | refine as_continue ?_)
  | (show AE _ _ _ _ _; k_get)
  | (show AT _ _ _ _ _; first | refine at_w (?_ : AW _ (.BoolOp _ _ _) _ _ _) | refine at_not ?_ | refine at_eq (u64 hr) ?_ | refine at_ne (u64 hr) ?_ | refine at_lt (u64 hr) ?_ | refine at_le ?_ | refine at_gt ?_ | refine at_ge ?_ | refine at_in (u1 hr) ?_ | refine at_nin (u1 hr) ?_ | refine at_is ?_ | refine at_isn ?_ | refine at_lele ?_ | refine at_val ?_)
  | (show AW _ _ _ _ _; first | refine aw_and ?_ | refine aw_or ?_ | refine aw_and1 ?_ | refine aw_or1 ?_)
  | (show AA _ _ _ _ _; first | refine aa_cons ?_ | refine aa_nil ?_)
  | (show AO _ _ _ _ _; first | refine ao_some ?_ | refine ao_none ?_)
  | (show L2R _ _ _ _ _ _; k_put)
  | (show LcR _ _ _ _ _; first | refine len_T ?_ | refine len_N ?_ | refine len_S ?_ | refine len_L (by assumption) ?_ | refine len_D (by assumption) ?_ | refine c_intI ?_ | refine c_intB ?_ | refine c_abs ?_ | refine c_max ?_ | refine c_min ?_ | refine c_tupT ?_ | refine lr_tup (by assumption) ?_ | refine isi_tt ?_ | refine isi_ii ?_ | refine isi_ib ?_ | refine isi_ss ?_ | refine isi_is ?_ | refine isi_ts ?_ | refine isi_st ?_ | refine isi_bb ?_)
  | (show LsR _ _ _ _ _ _ _; first | refine sla_T ?_ | refine sla_S ?_)
  | refine ⟨Nat.le_of_ble_eq_true rfl, ?_⟩
  | refine ⟨_, rfl, ?_⟩ | refine ⟨_, _, rfl, ?_⟩ | refine ⟨_, _, _, rfl, ?_⟩ | refine ⟨_, _, _, _, rfl, ?_⟩
  | exact ⟨_, .refl _, q⟩)
set_option hygiene false in
local macro_rules | `(tactic| walk) => `(tactic| repeat k_go)
set_option hygiene false in
local macro_rules | `(tactic| k_few) => `(tactic| first | refine ⟨fun _ => ?_, (fun z => Bool.noConfusion z)⟩ | refine ⟨(fun z => Bool.noConfusion z), fun _ => ?_⟩)
set_option hygiene false in
local macro_rules | `(tactic| k_not) => `(tactic| refine ⟨fun hk => ?_, fun hk => ?_⟩)
def IsRw (CH BK : Addr) (x : D) (rss : List Rl) : Prop := (∃ r, rss = [r] ∧ x = fBk BK r) ∨ ∃ r1 r2, rss = [r1, r2] ∧ x = fCh CH BK r1 r2
theorem IsRw.len {CH BK : Addr} {x : D} {rss : List Rl} (h : IsRw CH BK x rss) : 1 ≤ rss.length ∧ rss.length ≤ 2 := by
  rcases h with ⟨r, rfl, _⟩ | ⟨r1, r2, rfl, _⟩
  · exact ⟨Nat.le_refl _, by show 1 ≤ 2; decide⟩
  · exact ⟨by show 1 ≤ 2; decide, Nat.le_refl _⟩
/-- the error BadText, made and caught -/
structure BtX (P : Program) (w : World) (K : PySem.W.Frag) (mg : Str → Option Value) (base : Heap) (BT : Addr) : Prop where
  e : BtC P w K mg base BT
  xf : XfC K BT
  no : PySem.W.findIn K (.ref BT) "value" = some none
  xm : PySem.W.exmOne K (.ref BT) (.ref BT) = some true
/-- the classes Book and Chain, as rewriters that refuse -/
structure RwD (P : Program) (w : World) (K : PySem.W.Frag) (mg : Str → Option Value) (base : Heap) (BK CH BT pT pF pL gI gR gB gD gC gE gS : Addr) : Prop where
  bc : BkC K BK pT
  cc : ChC K CH pF pL
  bt : BtX P w K mg base BT
  nm : mg "Book" = some (.ref BK)
  mkk : Mk K BK gI
  fi : FnA P w K mg base 8 gI (sp_Book_init BK)
  sf : PySem.W.selfFirst K BK = true
  rs : PySem.W.findIn K (.ref BK) "__rshift__" = some (some (.ref gR))
  rf : PySem.W.isFn K (.ref gR) = true
  fr : FnA P w K mg base 13 gR (sp_Book_rshift BK CH)
  mb : Meth K BK "begun" gB
  fb : FnA P w K mg base 6 gB (sp_Book_begun BK BT)
  md : Meth K CH "begun" gD
  fd : FnA P w K mg base 6 gD (sp_Chain_begun CH BK BT)
  cb : StX.CallO K BK gC
  fcb : FnA P w K mg base 6 gC (sp_Book_call BK BT)
  ch : StX.CallO K CH gE
  fch : FnA P w K mg base 6 gE (sp_Chain_call CH BK BT)
  ms : Meth K BK "steps" gS
  fs : FnA P w K mg base 4 gS (sp_Book_steps BK BT)
section
variable {C : DL.Ctx} {Γ : Gm} {L : Lp} {a b o e : Expr} {p pos apos : Pos} {Q : D → Lp → Prop} {BK CH BT pT pF pL gI gR gB gD gC gE gS : Addr} {x d : D} {rss : List Rl}
/-- Book(e), never written again -/
theorem ae_fbook (M : Mk C.X.K BK gI) (Fi : FnA C.X.prog C.X.w C.X.K C.X.mg C.X.base 8 gI (sp_Book_init BK)) (hm : C.X.mg "Book" = some (.ref BK)) (hr : Room 9 C.X.A)
    (h : AE C e Γ L fun d L1 => ∃ rs, d = dR rs ∧ RuOk rs ∧ Q (fBk BK rs) L1) (hg : Gl C.X "Book" := by rfl) (he : starEach [e] C.X.env = [(false, eval e C.X.env)] := by rfl) : AE C (.Call (.Name "Book" p) [e] [] pos) Γ L Q :=
  AE.frz (ae_book M Fi hm hr (h.mono fun d L1 ⟨rs, ed, hR, q⟩ => ⟨rs, ed, hR, fun t x n => ⟨_, _, n.frz, q⟩⟩) hg he)
variable (W : RwD C.X.prog C.X.w C.X.K C.X.mg C.X.base BK CH BT pT pF pL gI gR gB gD gC gE gS)
include W
theorem ae_rwCall (hr : Room 6 C.X.A) (hx : IsRw CH BK x rss) (hR : ∀ rs ∈ rss, RuOk rs) (ho : AV C o Γ L x)
    (h : AE C e Γ L fun d L2 => Tx BT L2 (C.R Γ) d fun ws => Q (dC (rwAll rss (one ws))) L2)
    (hst : starEach [e] C.X.env = [(false, eval e C.X.env)] := by rfl)
    (ht : eval (.Call o [e] [] pos) C.X.env = (do callWith pos (← eval o C.X.env) [] (backTo pos (starEach [e] C.X.env)) (backToKw pos (keywordEach [] C.X.env))) := by rfl) : AE C (.Call o [e] [] pos) Γ L Q := by
  rcases hx with ⟨r, rfl, rfl⟩ | ⟨r1, r2, rfl, rfl⟩
  · exact ae_callO W.cb W.fcb hr (ho _ ⟨⟨BK, .inr ⟨_, rfl⟩⟩, aa_cons (h.mono fun d L2 q => aa_nil ⟨fBk.bk.ins, _, r, d, rfl, fBk.bk, hR r List.mem_cons_self, q⟩) hst⟩) ht hst rfl
  · exact ae_callO W.ch W.fch hr (ho _ ⟨⟨CH, .inr ⟨_, rfl⟩⟩, aa_cons (h.mono fun d L2 q => aa_nil ⟨fCh.ch.h1.ins, _, r1, r2, d, rfl, fCh.ch, hR r1 List.mem_cons_self, hR r2 (List.mem_cons_of_mem _ List.mem_cons_self), q⟩) hst⟩) ht hst rfl
theorem ae_rwBegun {pl : Sem Bool} (hr : Room 6 C.X.A) (hx : IsRw CH BK x rss) (hR : ∀ rs ∈ rss, RuOk rs) (ho : AV C o Γ L x)
    (h : AE C e Γ L fun d L2 => Tx BT L2 (C.R Γ) d fun ws => Q (dBg ((bg rss (one ws)).2, (bg rss (one ws)).1)) L2)
    (hst : starEach [e] C.X.env = [(false, eval e C.X.env)] := by rfl)
    (ht : eval (.Call (.Attribute o "begun" apos) [e] [] pos) C.X.env = (do
      let ov ← eval o C.X.env
      standAt apos.atName
      let (f, first) ← holding [ov] (getMethod ov "begun" pl)
      callWith pos f first (backTo pos (starEach [e] C.X.env)) (backToKw pos (keywordEach [] C.X.env))) := by rfl) : AE C (.Call (.Attribute o "begun" apos) [e] [] pos) Γ L Q := by
  rcases hx with ⟨r, rfl, rfl⟩ | ⟨r1, r2, rfl, rfl⟩
  · exact ae_meth W.bc.sc W.mb W.fb hr (ho _ ⟨fBk.bk.ins, aa_cons (h.mono fun d L2 q => aa_nil ⟨_, r, d, rfl, fBk.bk, hR r List.mem_cons_self, q⟩) hst⟩) hst rfl ht
  · exact ae_meth W.cc.sc W.md W.fd hr (ho _ ⟨fCh.ch.h1.ins, aa_cons (h.mono fun d L2 q => aa_nil ⟨_, r1, r2, d, rfl, fCh.ch, hR r1 List.mem_cons_self, hR r2 (List.mem_cons_of_mem _ List.mem_cons_self), q⟩) hst⟩) hst rfl ht
theorem ae_rwSteps {pl : Sem Bool} {r : Rl} (hr : Room 4 C.X.A) (hR : RuOk r) (ho : AV C o Γ L (fBk BK r))
    (h : AE C e Γ L fun d L2 => Tx BT L2 (C.R Γ) d fun ws => Q (.tup ((st1 r (one ws)).map dSt)) L2)
    (hst : starEach [e] C.X.env = [(false, eval e C.X.env)] := by rfl)
    (ht : eval (.Call (.Attribute o "steps" apos) [e] [] pos) C.X.env = (do
      let ov ← eval o C.X.env
      standAt apos.atName
      let (f, first) ← holding [ov] (getMethod ov "steps" pl)
      callWith pos f first (backTo pos (starEach [e] C.X.env)) (backToKw pos (keywordEach [] C.X.env))) := by rfl) : AE C (.Call (.Attribute o "steps" apos) [e] [] pos) Γ L Q :=
  ae_meth W.bc.sc W.ms W.fs hr (ho _ ⟨fBk.bk.ins, aa_cons (h.mono fun d L2 q => aa_nil ⟨_, r, d, rfl, fBk.bk, hR, q⟩) hst⟩) hst rfl ht
end
section
variable {P : Program} {w : World} {K : PySem.W.Frag} {mg : Str → Option Value} {base : Heap} {f : Addr} {fd : FuncData} {BK CH BT pT pF pL gI gR gB gD gC gE gS : Addr}
def sp_side (CH BK : Addr) : SpA := fun ds L Q _ => ∃ (rss : List Rl), ds = [.tup (rss.map dR)] ∧ 1 ≤ rss.length ∧ rss.length ≤ 2 ∧ (∀ rs ∈ rss, RuOk rs) ∧ ∀ x, IsRw CH BK x rss → Q x L
theorem ok_side (F : Fun K "_law_side" "_law_side" s__law_side f fd) (hb : Binds K fd ["_law_side_here"] []) (B : Bl mg) (C1 : RwD P w K mg base BK CH BT pT pF pL gI gR gB gD gC gE gS) : FnA P w K mg base 14 f (sp_side CH BK) := by
  refine fnA F sc__law_side hb (fun ds L Q R h => by obtain ⟨_, rfl, _⟩ := h; rfl) fun cdv A outer s H E ds L Q R hr h => ?_
  obtain ⟨rss, rfl, h1, h2, hR, q⟩ := h
  match rss, h1, h2, hR, q with
  | [r], _, _, hR, q =>
    have k1 := hR r List.mem_cons_self
    refine as_cons (as_set 1 (ae_fbook C1.mkk C1.fi C1.nm (hr.mono (by omega)) ?_))
    walk
    refine ⟨k1, ?_⟩
    walk
    rw [show decide (((List.length (List.map dR [r]) : Nat) : Int) = 1) = true from rfl]
    k_few
    walk
    exact ⟨L, .refl L, q _ (.inl ⟨r, rfl, rfl⟩)⟩
  | [r1, r2], _, _, hR, q =>
    have k1 := hR r1 List.mem_cons_self
    have k2 := hR r2 (List.mem_cons_of_mem _ List.mem_cons_self)
    refine as_cons (as_set 1 (ae_fbook C1.mkk C1.fi C1.nm (hr.mono (by omega)) ?_))
    walk
    refine ⟨k1, ?_⟩
    walk
    rw [show decide (((List.length (List.map dR [r1, r2]) : Nat) : Int) = 1) = false from rfl]
    k_few
    refine ae_binJ ?_
    walk
    refine ae_fbook C1.mkk C1.fi C1.nm (hr.mono (by omega)) ?_
    walk
    refine ⟨k2, ?_⟩
    refine j_binO C1.sf C1.rs C1.rf C1.fr (hr.mono (by omega)) fBk.bk.ins fBk.bk.ins ⟨_, _, r1, r2, rfl, fBk.bk, fBk.bk, k1, k2, ?_⟩
    exact ⟨L, .refl L, q _ (.inr ⟨r1, r2, rfl, rfl⟩)⟩
/-- what a rewriter tells, asked in the way k -/
def outK (rss : List Rl) (ws : List Wd) : Nat → D
  | 0 => dC (rwAll rss (one ws))
  | 1 => dBg ((bg rss (one ws)).2, (bg rss (one ws)).1)
  | _ => .tup ((st1 (rss.headD []) (one ws)).map dSt)
theorem outK_n (rss : List Rl) (ws : List Wd) (k : Nat) : isN (outK rss ws k) = false := by
  match k with
  | 0 => rfl
  | 1 => rfl
  | _ + 2 => rfl
def sp_asked (CH BK : Addr) : SpA := fun ds L Q _ => ∃ (x d : D) (rss : List Rl) (k : Nat), ds = [x, d, .int k] ∧ IsRw CH BK x rss ∧ (∀ rs ∈ rss, RuOk rs) ∧ (2 ≤ k → rss.length = 1) ∧
  ((∃ ws, d = dW ws ∧ (∀ x ∈ ws, wdS x = true) ∧ ws.length ≤ 100000 ∧ Q (outK rss ws k) L) ∨ (okE d = true ∧ txD d = false ∧ Q (.tup [.str "refused", d]) L))
theorem ok_asked (F : Fun K "_law_asked" "_law_asked" s__law_asked f fd) (hb : Binds K fd ["_law_rewriter", "_law_value", "_law_way"] []) (B : Bl mg) (C1 : RwD P w K mg base BK CH BT pT pF pL gI gR gB gD gC gE gS) : FnA P w K mg base 8 f (sp_asked CH BK) := by
  refine fnA F sc__law_asked hb (fun ds L Q R h => by obtain ⟨_, _, _, _, rfl, _⟩ := h; rfl) fun cdv A outer s H E ds L Q R hr h => ?_
  obtain ⟨x, d, rss, k, rfl, hx, hR, hk, hq⟩ := h
  walk
  have fin : ∀ (c t : D) (y : D), (isN c = true ∧ y = t ∨ isN c = false ∧ y = c) → Q y L → ASs (fctx P w K mg base ["_law_rewriter", "_law_value", "_law_way", "_law_caught", "_law_told", "error"] "_law_asked" (defScope s__law_asked) f cdv A outer s H E sc__law_asked.nd R) ((defBody s__law_asked).drop 2) [some x, some d, some (.int k), some c, some t, none] L (endsOf Q) := fun c t y hy q => by
    refine as_one (as_ret ?_)
    walk
    rcases hy with ⟨h, rfl⟩ | ⟨h, rfl⟩
    · rw [h]
      k_few
      walk
    · rw [h]
      k_few
      walk
  first
    | refine as_par 3 4 (aa_cons (ae_non (aa_cons (ae_non (aa_nil ⟨_, _, rfl, ?_⟩)))))
    | refine as_asg (ae_tup (aa_cons (ae_non (aa_cons (ae_non (aa_nil ⟨Nat.le_of_ble_eq_true rfl, _, _, ag_tup (ags_cons (ag_name 3) (ags_cons (ag_name 4) ags_nil)), ?_⟩))))))
  refine as_cons ?_
  refine as_tryA (l := [(.ref BT, 5, 3, _)]) (.cons ⟨rfl, by decide, .inl C1.bt.e.nm⟩ rfl rfl rfl rfl (by decide) rfl .nil) fun pn xe W tk po => ?_
  walk
  refine ⟨fun h0 => as_one (as_set 4 ?_), fun h0 => ?_⟩
  · have e : k = 0 := by have := of_decide_eq_true h0; omega
    subst e
    refine ae_rwCall C1 (hr.mono (by omega)) hx hR (fun Q q => ae_name 0 rfl q) (ae_name 1 rfl ?_)
    rcases hq with ⟨ws, rfl, hw, hz, q⟩ | ⟨hd, ht, q⟩
    · exact .inl ⟨ws, rfl, hw, hz, fin _ _ _ (.inl ⟨rfl, rfl⟩) q⟩
    · exact .inr ⟨hd, ht, true, C1.bt.xm, fun _ => ⟨.tup [.str "refused", d], fun a oe dd pn hz hf => az_tup (azs_cons az_str (azs_cons (az_fld 5 C1.bt.xf C1.bt.no hz hf rfl rfl rfl) azs_nil)), fin _ _ _ (.inr ⟨rfl, rfl⟩) q⟩, fun z => nomatch z⟩
  · have e0 : k ≠ 0 := by have := of_decide_eq_false h0; omega
    walk
    refine ⟨fun h1 => as_one (as_set 4 ?_), fun h1 => as_one (as_set 4 ?_)⟩
    · have e : k = 1 := by have := of_decide_eq_true h1; omega
      subst e
      refine ae_rwBegun C1 (hr.mono (by omega)) hx hR (fun Q q => ae_name 0 rfl q) (ae_name 1 rfl ?_)
      rcases hq with ⟨ws, rfl, hw, hz, q⟩ | ⟨hd, ht, q⟩
      · exact .inl ⟨ws, rfl, hw, hz, fin _ _ _ (.inl ⟨rfl, rfl⟩) q⟩
      · exact .inr ⟨hd, ht, true, C1.bt.xm, fun _ => ⟨.tup [.str "refused", d], fun a oe dd pn hz hf => az_tup (azs_cons az_str (azs_cons (az_fld 5 C1.bt.xf C1.bt.no hz hf rfl rfl rfl) azs_nil)), fin _ _ _ (.inr ⟨rfl, rfl⟩) q⟩, fun z => nomatch z⟩
    · have e1 : k ≠ 1 := by have := of_decide_eq_false h1; omega
      have h2 := hk (by omega)
      rcases hx with ⟨r, rfl, rfl⟩ | ⟨r1, r2, rfl, rfl⟩
      · obtain ⟨m, rfl⟩ : ∃ m, k = m + 2 := ⟨k - 2, by omega⟩
        refine ae_rwSteps C1 (hr.mono (by omega)) (hR r List.mem_cons_self) (fun Q q => ae_name 0 rfl q) (ae_name 1 rfl ?_)
        rcases hq with ⟨ws, rfl, hw, hz, q⟩ | ⟨hd, ht, q⟩
        · exact .inl ⟨ws, rfl, hw, hz, fin _ _ _ (.inl ⟨rfl, rfl⟩) q⟩
        · exact .inr ⟨hd, ht, true, C1.bt.xm, fun _ => ⟨.tup [.str "refused", d], fun a oe dd pn hz hf => az_tup (azs_cons az_str (azs_cons (az_fld 5 C1.bt.xf C1.bt.no hz hf rfl rfl rfl) azs_nil)), fin _ _ _ (.inr ⟨rfl, rfl⟩) q⟩, fun z => nomatch z⟩
      · cases h2
end
end K
namespace K
open PySem PySem.Spec PyProof.Rows L2 DL
def isPot (k : Nat) (mo : MO) : Prop := ∃ a b c : Int, mo = .lst [.int a, .int b, .int c] ∧ 0 ≤ a ∧ 0 ≤ b ∧ b < 2305843009213693952 ∧ 0 ≤ c ∧ c ≤ k
theorem isPot.mono {j k : Nat} {mo : MO} (h : isPot j mo) (hk : j ≤ k) : isPot k mo := by
  obtain ⟨a, b, c, e, h1, h2, h3, h4, h5⟩ := h
  exact ⟨a, b, c, e, h1, h2, h3, h4, by omega⟩
theorem le_put2 {A B : Lp} (h : Le A B) (p : Addr) (o : MO) : Le (put A p o) (put B p o) := fun a u e => by
  by_cases ea : a = p
  · subst ea
    rw [put_same] at e ⊢
    exact e
  · rw [put_ne ea] at e ⊢
    exact h a u e
theorem cp60 : CPow 10 60 := ⟨by decide, by decide, by decide⟩
theorem cp18 : CPow 10 18 := ⟨by decide, by decide, by decide⟩
theorem b01 (b : Bool) : -(2 ^ 64) < (if b = true then (1 : Int) else 0) ∧ (if b = true then (1 : Int) else 0) < 2 ^ 64 := by cases b <;> decide
theorem b0 (b : Bool) : 0 ≤ (if b = true then (1 : Int) else 0) := by cases b <;> decide
section
variable {P : Program} {w : World} {K : PySem.W.Frag} {mg : Str → Option Value} {base : Heap} {f : Addr} {fd : FuncData}
def sp_pot : SpA := fun ds L Q _ => ∃ (ns : List Int) (k : Nat), ds = [.ilst ns, .int k] ∧ k < 1000 ∧ ∀ p mo, L p = none → isPot 0 mo → Q (.ptr p) (put L p mo)
theorem ok_pot (F : Fun K "_law_pot" "_law_pot" s__law_pot f fd) (hb : Binds K fd ["_law_script", "_law_k"] []) (B : Bl mg) : FnA P w K mg base 1 f sp_pot := by
  refine fnA F sc__law_pot hb (fun ds L Q R h => ?_) fun cdv A outer s H E ds L Q R hr h => ?_
  · obtain ⟨_, _, rfl, _⟩ := h; rfl
  · obtain ⟨ns, k, rfl, hk, q⟩ := h
    have key : ∀ v : Int, ASs (fctx P w K mg base ["_law_script", "_law_k", "_law_cell_here", "_law_own", "_law_mixed"] "_law_pot" (defScope s__law_pot) f cdv A outer s H E sc__law_pot.nd R) (defBody s__law_pot).tail [some (.ilst ns), some (.int k), some (.int v), none, none] L (endsOf Q) := fun v => by
      have a0 : 0 ≤ (if v < 0 then -v else v) := by split <;> omega
      refine as_cons (as_set 3 (ae_bin op_mul (ae_bin op_mod (ae_callT call_int1 B.int (aa_cons (ae_callB call_abs B.abs (aa_cons (ae_name 2 rfl (aa_nil (c_abs (aa_nil (c_intI (ae_bin op_powX (ae_bin op_pow (ae_int (ae_int (r_pow cp60 (ae_int (r_powX big_ok (r_mod (by decide) ?_))))))))))))))))))))
      generalize hO : (if v < 0 then -v else v) % _ = O
      have o0 : 0 ≤ O := by rw [← hO]; exact Int.emod_nonneg _ (by decide)
      refine ae_callT call_int1 B.int (aa_cons (ae_cmp op_ge rfl (ae_callB call_abs B.abs (aa_cons (ae_name 2 rfl (aa_nil (c_abs (ae_bin op_pow (ae_int (ae_int (r_pow cp18 (r_ge (aa_nil (c_intB (r_mul (.inr (b01 _)) ?_)))))))))))))))
      generalize hO2 : O * _ = O2
      have o2 : 0 ≤ O2 := by rw [← hO2]; exact Int.mul_nonneg o0 (b0 _)
      refine as_cons (as_set 4 (ae_bin op_add (ae_bin op_add (ae_bin op_mul (ae_bin op_mod (ae_callT call_int1 B.int (aa_cons (ae_name 2 rfl (aa_nil (c_intI (ae_int (r_mod (by decide) (ae_int (r_mul (.inr (by decide)) (ae_bin op_mul (ae_bin op_mul (ae_int (ae_name 1 rfl (r_mul (.inl (by decide)) (ae_name 1 rfl (r_mul (.inr (by omega)) (r_add (ae_int (r_add ?_))))))))))))))))))))))))
      generalize hM : (v % 2305843009213693951 * 70991 + 5323 * (k : Int) * (k : Int) + 71) = M
      refine as_one (as_ret (ae_lst (aa_cons (ae_name 3 rfl (aa_cons (ae_bin op_mod (ae_callT call_int1 B.int (aa_cons (ae_name 4 rfl (aa_nil (c_intI (ae_int (r_mod (by decide) (aa_cons (ae_int (aa_nil ⟨by show 3 ≤ sizeLine; decide, fun p hp => ⟨_, .refl _, q p _ hp ⟨O2, _, 0, rfl, o2, Int.emod_nonneg _ (by decide), ?_, by decide, by decide⟩⟩⟩))))))))))))))))
      have := Int.emod_lt_of_pos M (show (0 : Int) < 2305843009213693921 by decide)
      omega
    refine as_cons (as_set 2 (ae_ifExp (at_cmp op_lt rfl (ae_name 1 rfl (ae_callB call_len_seq B.len (aa_cons (ae_name 0 rfl (aa_nil (c_lenN (r_lt ⟨_, rfl, fun h1 => ae_ix ix_list (ae_name 0 rfl (ae_name 1 rfl (r_ixN (k := ns.getD k 0) ?_ (key _)))), fun h1 => ae_bin op_add (ae_bin op_mul (ae_int (ae_name 1 rfl (r_mul (.inl (by decide)) (ae_int (r_add (key _)))))))⟩))))))))))
    have h1 := of_decide_eq_true h1
    have hlt : k < ns.length := by omega
    refine atI_nat ?_
    rw [List.getD_eq_getElem?_getD, List.getElem?_eq_getElem hlt]
    rfl
def sp_take : SpA := fun ds L Q _ => ∃ (p : Addr) (mo : MO) (k n : Nat), ds = [.ptr p, .int n] ∧ L p = some mo ∧ isPot k mo ∧ k ≤ 100000 ∧ 0 < n ∧ n ≤ 1000000 ∧ ∀ (j : Nat) mo', j < n → isPot (k + 1) mo' → Q (.int j) (put L p mo')
theorem ok_take (F : Fun K "_law_take" "_law_take" s__law_take f fd) (hb : Binds K fd ["_law_pot_here", "_law_upto"] []) (B : Bl mg) : FnA P w K mg base 1 f sp_take := by
  refine fnA F sc__law_take hb (fun ds L Q R h => ?_) fun cdv A outer s H E ds L Q R hr h => ?_
  · obtain ⟨_, _, _, _, rfl, _⟩ := h; rfl
  · obtain ⟨p, mo, k, n, rfl, hp, ⟨a, b, c, rfl, ha, hb0, hb1, hc0, hc1⟩, hk, hn, hn2, q⟩ := h
    have cd : CDiv a n := ⟨by omega, by omega⟩
    have fin : ∀ (x : Int) (mo' : MO), isPot (k + 1) mo' → Q (.int (x % (n : Int))) (put L p mo') := fun x mo' h' => by
      have h1 := Int.emod_nonneg x (show (n : Int) ≠ 0 by omega)
      have h2 := Int.emod_lt_of_pos x (show (0 : Int) < n by omega)
      have := q (x % n).toNat mo' (by omega) h'
      rwa [Int.toNat_of_nonneg h1] at this
    refine as_cons (as_if (at_cmp op_gt rfl (ae_ix ix_list (ae_name 0 rfl (ae_int (r_ixL hp rfl (ae_int (r_gt ⟨_, rfl, fun h1 => ?_, fun h1 => ?_⟩))))))))
    · refine as_cons (as_set 2 (ae_bin op_mod (ae_callT call_int1 B.int (aa_cons (ae_ix ix_list (ae_name 0 rfl (ae_int (r_ixL hp rfl (aa_nil (c_intI (ae_name 1 rfl (r_mod (by omega) ?_))))))))))))
      refine as_cons (as_sub set_list (ae_bin op_fdiv (ae_ix ix_list (ae_name 0 rfl (ae_int (r_ixL hp rfl (ae_name 1 rfl (r_fdiv cd (ae_name 0 rfl (ae_int (w_list (j := 0) hp rfl ?_)))))))))))
      refine as_one (as_ret (ae_name 2 rfl ⟨_, .refl _, fin a _ ⟨a / n, b, c, rfl, Int.ediv_nonneg ha (by omega), hb0, hb1, hc0, by omega⟩⟩))
    · refine as_nil (as_cons (as_sub set_list (ae_bin op_add (ae_ix ix_list (ae_name 0 rfl (ae_int (r_ixL hp rfl (ae_int (r_add (ae_name 0 rfl (ae_int (w_list (j := 2) hp rfl ?_))))))))))))
      have hp1 : put L p (.lst ([.int a, .int b, .int c].set 2 (.int (c + 1)))) p = some (.lst [.int a, .int b, .int (c + 1)]) := put_same
      have pot' : isPot (k + 1) (.lst [.int a, .int b, .int (c + 1)]) := ⟨a, b, c + 1, rfl, ha, hb0, hb1, by omega, by omega⟩
      refine as_cons (as_set 3 (AE.drop (ae_ix ix_list (ae_lst (aa_cons (ae_int (aa_cons (ae_int (aa_cons (ae_int (aa_cons (ae_int (aa_cons (ae_int (aa_nil ⟨by show 5 ≤ sizeLine; decide, fun l hl => ?_⟩)))))))))))))))
      have hpl : p ≠ l := ne_of_free hp1 hl
      have hp2 : ∀ o, put (put L p (.lst ([.int a, .int b, .int c].set 2 (.int (c + 1))))) l o p = some (.lst [.int a, .int b, .int (c + 1)]) := fun o => by rw [put_ne hpl]; exact hp1
      have m0 := Int.emod_nonneg (c + 1) (show (5 : Int) ≠ 0 by decide)
      have m1 := Int.emod_lt_of_pos (c + 1) (show (0 : Int) < 5 by decide)
      have hprime : ∃ pr : Int, 0 < pr ∧ pr < 2147483648 ∧ atI [D.int 2147483647, .int 2147483629, .int 2147483587, .int 2147483579, .int 2147483563] ((c + 1) % 5) = some (.int pr) := by
        have : (c + 1) % 5 = 0 ∨ (c + 1) % 5 = 1 ∨ (c + 1) % 5 = 2 ∨ (c + 1) % 5 = 3 ∨ (c + 1) % 5 = 4 := by omega
        rcases this with h | h | h | h | h <;> rw [h] <;> exact ⟨_, by decide, by decide, rfl⟩
      obtain ⟨pr, pr0, pr1, hpr⟩ := hprime
      refine ae_bin op_mod (ae_callT call_int1 B.int (aa_cons (ae_ix ix_list (ae_name 0 rfl (ae_int (r_ixL (hp2 _) rfl (aa_nil (c_intI (ae_int (r_mod (by decide) (r_ixL put_same hpr ⟨_, le_put hl, ?_⟩)))))))))))
      have cc : c + 1 ≤ 1000000 := by omega
      have sq0 : 0 ≤ 99991 * (c + 1) := Int.mul_nonneg (by decide) (by omega)
      have sq1 : 99991 * (c + 1) ≤ 99991 * 1000000 := Int.mul_le_mul_of_nonneg_left cc (by decide)
      have sq2 : 0 ≤ 99991 * (c + 1) * (c + 1) := Int.mul_nonneg sq0 (by omega)
      have sq3 : 99991 * (c + 1) * (c + 1) ≤ 99991 * 1000000 * 1000000 := Int.mul_le_mul sq1 cc (by omega) (by decide)
      have cp : CPow (b + 99991 * (c + 1) * (c + 1) + 41) 3 := ⟨by decide, by decide, by omega⟩
      refine as_cons (as_set 4 (ae_bin op_mod (ae_callT call_int1 B.int (aa_cons (ae_bin op_pow (ae_callT call_int1 B.int (aa_cons (ae_bin op_add (ae_bin op_add (ae_ix ix_list (ae_name 0 rfl (ae_int (r_ixL hp1 rfl (ae_bin op_mul (ae_bin op_mul (ae_int (ae_ix ix_list (ae_name 0 rfl (ae_int (r_ixL hp1 rfl (r_mul (.inl (by decide)) (ae_ix ix_list (ae_name 0 rfl (ae_int (r_ixL hp1 rfl (r_mul (.inr (by omega)) (r_add (ae_int (r_add (aa_nil (c_intI (ae_int (r_pow cp (aa_nil (c_intI (ae_name 3 rfl (r_mod pr0 ?_)))))))))))))))))))))))))))))))))))))
      generalize hM : (b + 99991 * (c + 1) * (c + 1) + 41) ^ (3 : Int).toNat % pr = M
      have M0 : 0 ≤ M := by rw [← hM]; exact Int.emod_nonneg _ (by omega)
      have M1 : M < pr := by rw [← hM]; exact Int.emod_lt_of_pos _ pr0
      refine as_cons (as_set 4 (ae_bin op_mod (ae_callT call_int1 B.int (aa_cons (ae_bin op_mul (ae_name 4 rfl (ae_bin op_add (ae_bin op_mod (ae_callT call_int1 B.int (aa_cons (ae_name 4 rfl (aa_nil (c_intI (ae_int (r_mod (by decide) (ae_bin op_mul (ae_int (ae_ix ix_list (ae_name 0 rfl (ae_int (r_ixL hp1 rfl (r_mul (.inl (by decide)) (r_add (r_mul (.inl (by omega)) (aa_nil (c_intI (ae_int (r_mod (by decide) ?_))))))))))))))))))))))))))))
      generalize hM2 : M * (M % 10009 + 83 * (c + 1)) % 2305843009213693907 = M2
      refine as_one (as_ret (ae_bin op_mod (ae_callT call_int1 B.int (aa_cons (ae_bin op_fdiv (ae_name 4 rfl (ae_int (r_fdiv (by exact ⟨by decide, by decide⟩) (aa_nil (c_intI (ae_name 1 rfl (r_mod (by omega) ⟨_, .refl _, fin _ _ pot'⟩))))))))))))
def sp_of : SpA := fun ds L Q _ => ∃ (p l : Addr) (mo : MO) (k : Nat) (xs : List D), ds = [.ptr p, .ptr l] ∧ L p = some mo ∧ isPot k mo ∧ k ≤ 100000 ∧ L l = some (.lst xs) ∧ l ≠ p ∧ 0 < xs.length ∧ xs.length ≤ 1000000 ∧ ∀ d mo', d ∈ xs → isPot (k + 1) mo' → Q d (put L p mo')
theorem ok_of (F : Fun K "_law_of" "_law_of" s__law_of f fd) (hb : Binds K fd ["_law_pot_here", "_law_some"] []) (B : Bl mg) (d1 : Def P w K mg base "_law_take" 1 sp_take) : FnA P w K mg base 2 f sp_of := by
  refine fnA F sc__law_of hb (fun ds L Q R h => ?_) fun cdv A outer s H E ds L Q R hr h => ?_
  · obtain ⟨_, _, _, _, _, rfl, _⟩ := h; rfl
  · obtain ⟨p, l, mo, k, xs, rfl, hp, hpot, hk, hl, hne, h0, h1, q⟩ := h
    refine as_one (as_ret (ae_ix ix_list (ae_name 1 rfl (ae_call d1 (hr.mono (by omega)) (aa_cons (ae_name 0 rfl (aa_cons (ae_callB call_len_seq B.len (aa_cons (ae_name 1 rfl (aa_nil (c_lenL hl (aa_nil ⟨p, mo, k, xs.length, rfl, hp, hpot, hk, h0, h1, fun j mo' hj hm => ?_⟩)))))))))))))
    refine r_ixL (xs := xs) (d := xs[j]) (by rw [put_ne hne]; exact hl) (atI_nat (List.getElem?_eq_getElem hj)) ⟨_, .refl _, q _ _ (List.getElem_mem hj) hm⟩
end
end K
namespace K
open PySem PySem.Spec PyProof.Rows L2 DL
theorem le_pf {L : Lp} {p l : Addr} {mo2 X mo' : MO} (hl : put L p mo2 l = none) : Le (put L p mo') (put (put (put L p mo2) l X) p mo') := by
  have := le_put2 (le_put (o := X) hl) p mo'
  rwa [put_put] at this
theorem fresh_ne {L : Lp} {p l : Addr} {mo : MO} (hl : put L p mo l = none) : l ≠ p := fun e => by
  rw [e, put_same] at hl
  cases hl
theorem fresh_L {L : Lp} {p l : Addr} {mo : MO} (hl : put L p mo l = none) : L l = none := by
  rw [put_ne (fresh_ne hl)] at hl
  exact hl
theorem abc_cl : cl ("abcdefghijklmnopqrstuvwxyz" : Str) = abc := rfl
theorem few_cl : ∀ k ∈ cl ("aaabyz" : Str), k ∈ abc := by decide +kernel
section
variable {P : Program} {w : World} {K : PySem.W.Frag} {mg : Str → Option Value} {base : Heap} {f : Addr} {fd : FuncData}
def sp_word : SpA := fun ds L Q _ => ∃ (p : Addr) (mo : MO) (k : Nat), ds = [.ptr p] ∧ L p = some mo ∧ isPot k mo ∧ k ≤ 50000 ∧ ∀ x mo', wdS x = true → isPot (k + 20) mo' → Q (.str x) (put L p mo')
theorem ok_word (F : Fun K "_law_word" "_law_word" s__law_word f fd) (hb : Binds K fd ["_law_pot_here"] []) (B : Bl mg) (d1 : Def P w K mg base "_law_take" 1 sp_take) (d2 : Def P w K mg base "_law_of" 2 sp_of) : FnA P w K mg base 3 f sp_word := by
  refine fnA F sc__law_word hb (fun ds L Q R h => ?_) fun cdv A outer s H E ds L Q R hr h => ?_
  · obtain ⟨_, _, _, rfl, _⟩ := h; rfl
  · obtain ⟨p, mo, k, rfl, hp, hpot, hk, q⟩ := h
    refine as_cons (as_par 1 2 (aa_cons (ae_call d1 (hr.mono (by omega)) (aa_cons (ae_name 0 rfl (aa_cons (ae_int (aa_nil ⟨p, mo, k, 4, rfl, hp, hpot, by omega, by omega, by omega, fun j mo1 hj h1 => aa_cons (ae_bin op_add (ae_int (ae_call d1 (hr.mono (by omega)) (aa_cons (ae_name 0 rfl (aa_cons (ae_int (aa_nil ⟨p, mo1, k + 1, 8, rfl, put_same, h1, by omega, by omega, by omega, fun i mo2 hi h2 => r_add (aa_nil ⟨_, _, rfl, ?_⟩)⟩))))))))⟩))))))))
    rw [put_put]
    have q1 : ∀ x mo', wdS x = true → isPot (k + 20) mo' → Q (.str x) (put (put L p mo2) p mo') := fun x mo' h h' => by rw [put_put]; exact q x mo' h h'
    generalize hL1 : put L p mo2 = L1 at q1
    have hp1 : L1 p = some mo2 := by rw [← hL1]; exact put_same
    have h2 : isPot (k + 2) mo2 := h2
    clear hL1 q
    have one : ∀ d, d ∈ sgnsOf ("abcdefghijklmnopqrstuvwxyz" : Str) → ∃ c, c ∈ abc ∧ d = .str (sgn c) := fun d hd => by
      obtain ⟨c, h1, h2⟩ := DL.signs_mem hd
      exact ⟨c, h1, h2⟩
    refine as_cons (as_if (at_cmp op_lt rfl (ae_name 1 rfl (ae_int (r_lt ⟨_, rfl, fun hw => as_one (as_ret (ae_call d2 (hr.mono (by omega)) (aa_cons (ae_name 0 rfl (aa_cons (ae_callT (call_listS rfl) B.list (aa_cons (ae_str (aa_nil (c_listS fun l hl => aa_nil ⟨p, l, mo2, k + 2, _, rfl, by rw [put_ne (ne_of_free hp1 hl)]; exact hp1, h2, by omega, put_same, (ne_of_free hp1 hl).symm, by decide +kernel, by decide +kernel, fun d mo' hd hm => ?_⟩)))))))))), fun hw => as_nil ?_⟩)))))
    · obtain ⟨c, hc, rfl⟩ := one d hd
      exact ⟨put L1 p mo', le_put2 (le_put hl) p mo', q1 _ _ (wdS_of (by show 1 ≤ 1; decide) (by show 1 ≤ 8; decide) (abcW_of fun z hz => by rw [List.mem_singleton.mp hz]; exact hc)) (hm.mono (by omega))⟩
    · refine as_cons (as_if (at_cmp op_eq rfl (ae_name 1 rfl (ae_int (r_eqI ⟨_, rfl, fun hw => as_one (as_ret (ae_bin op_mulS (ae_call d2 (hr.mono (by omega)) (aa_cons (ae_name 0 rfl (aa_cons (ae_callT (call_listS rfl) B.list (aa_cons (ae_str (aa_nil (c_listS fun l hl => aa_nil ⟨p, l, mo2, k + 2, _, rfl, by rw [put_ne (ne_of_free hp1 hl)]; exact hp1, h2, by omega, put_same, (ne_of_free hp1 hl).symm, by decide +kernel, by decide +kernel, fun d mo' hd hm => ?_⟩))))))))))), fun hw => as_nil ?_⟩)))))
      · obtain ⟨c, hc, rfl⟩ := DL.signs_mem hd
        have hc := few_cl c hc
        have en : ((1 : Int) + (i : Int)).toNat = i + 1 := by omega
        refine ae_name 2 rfl (r_mulS (by omega) (by omega) (by rw [en]; show 1 * (i + 1) ≤ _; omega) ⟨put L1 p mo', le_put2 (le_put hl) p mo', q1 _ _ ?_ (hm.mono (by omega))⟩)
        have ec : cl (repS (sgn c) ((1 : Int) + (i : Int)).toNat) = List.replicate (i + 1) c := by
          rw [cl_rep, en, cl_sgn]
          induction (i + 1) with
          | zero => rfl
          | succ n ih => rw [List.replicate_succ, List.flatten_cons, ih, List.replicate_succ]; rfl
        refine wdS_of ?_ ?_ ?_ <;> rw [ec]
        · rw [List.length_replicate]; omega
        · rw [List.length_replicate]; omega
        · exact abcW_of fun z hz => by rw [List.eq_of_mem_replicate hz]; exact hc
      · refine as_one (as_ret (ae_join (ae_str ⟨_, rfl, ae_lc [("_law_lap", 3)] (ai_range1 B.range (ae_name 2 rfl ⟨_, rfl, by omega, by omega, ?_⟩))⟩)))
        have en : ((1 : Int) + (i : Int)).toNat = i + 1 := by omega
        rw [en]
        refine ⟨fun t acc L2 => ∃ ks mo, acc = (ks.map sgn).map D.str ∧ ks.length = t ∧ (∀ c ∈ ks, c ∈ abc) ∧ L2 = put L1 p mo ∧ isPot (k + 2 + t) mo, ⟨[], mo2, rfl, rfl, (fun c hc => nomatch hc), (put_self hp1).symm, h2⟩, fun _ _ _ _ => trivial, ?_, ?_⟩
        · rintro t d acc L2 hd ⟨ks, mo, rfl, hks, hc, rfl, hm⟩
          have ht := (rangeD_inv hd).1
          refine ⟨_, _, fun j hj => hj, fun s H Cc cl fp => ⟨ag_name 3, ats_nil ⟨fun _ s H Cc cl fp => ?_, (fun z => nomatch z)⟩⟩⟩
          refine AE.drop (ae_call d2 (hr.mono (by omega)) (aa_cons (ae_name 0 rfl (aa_cons (ae_callT (call_listS rfl) B.list (aa_cons (ae_str (aa_nil (c_listS fun l hl => aa_nil ⟨p, l, mo, k + 2 + t, _, rfl, by rw [put_ne (fresh_ne hl).symm]; exact put_same, hm, by omega, put_same, fresh_ne hl, by decide +kernel, by decide +kernel, fun d mo' hd hm' => ?_⟩)))))))))
          obtain ⟨c, hc1, rfl⟩ := one d hd
          refine ⟨put L1 p mo', le_pf hl, by rw [List.length_map, List.length_map, sl_eq]; omega, ks ++ [c], mo', by rw [List.map_append, List.map_append]; rfl, by rw [List.length_append, hks]; rfl, fun z hz => ?_, rfl, hm'.mono (by omega)⟩
          rcases List.mem_append.mp hz with z1 | z1
          · exact hc z z1
          · rw [List.mem_singleton.mp z1]; exact hc1
        · rintro acc L2 ⟨ks, mo, rfl, hks, hc, rfl, hm⟩ l hl
          rw [rangeD_len] at hks hm
          refine ⟨l, ks.map sgn, rfl, put_same, by rw [sum_sgn, hks]; show i + 1 + _ * 0 ≤ _; omega, put L1 p mo, le_put hl, q1 _ _ ?_ (hm.mono (by omega))⟩
          refine wdS_of ?_ ?_ ?_
          · rw [show cl (Txt.join ("" : Str) (ks.map sgn)) = ks from cl_join ks]; omega
          · rw [show cl (Txt.join ("" : Str) (ks.map sgn)) = ks from cl_join ks]; omega
          · rw [show cl (Txt.join ("" : Str) (ks.map sgn)) = ks from cl_join ks]
            exact abcW_of hc
end
end K
namespace K
open PySem PySem.Spec PyProof.Rows L2 DL
section
variable {P : Program} {w : World} {K : PySem.W.Frag} {mg : Str → Option Value} {base : Heap} {f : Addr} {fd : FuncData}
def sp_names : SpA := fun ds L Q _ => ∃ (p : Addr) (mo : MO) (k m : Nat), ds = [.ptr p, .int m] ∧ L p = some mo ∧ isPot k mo ∧ k ≤ 40000 ∧ 1 ≤ m ∧ m ≤ 20 ∧
  ∀ (nl : Addr) (ys : List Str) (mo' : MO), L nl = none → nl ≠ p → ys.length = m → (∀ y ∈ ys, wdS y = true) → isPot (k + 500) mo' → Q (.ptr nl) (St2 L p mo' nl (.lst (ys.map .str)))
theorem ok_names (F : Fun K "_law_names" "_law_names" s__law_names f fd) (hb : Binds K fd ["_law_pot_here", "_law_many"] []) (B : Bl mg) (d1 : Def P w K mg base "_law_take" 1 sp_take) (d2 : Def P w K mg base "_law_word" 3 sp_word) : FnA P w K mg base 4 f sp_names := by
  refine fnA F sc__law_names hb (fun ds L Q R h => ?_) fun cdv A outer s H E ds L Q R hr h => ?_
  · obtain ⟨_, _, _, _, rfl, _⟩ := h; rfl
  · obtain ⟨p, mo, k, m, rfl, hp, hpot, hk, hm1, hm2, q⟩ := h
    refine as_mid (fun Γ' L' => ∃ st fl mo2, (cl st).length ≤ 7 ∧ abcW (cl st) = true ∧ L fl = none ∧ fl ≠ p ∧ isPot (k + 21) mo2 ∧ L' = St2 L p mo2 fl (.lst (([] : List Str).map .str)) ∧ Γ' = [some (.ptr p), some (.int m), some (.str st), some (.ptr fl), none, none, none, none]) ?_ ?_
    · refine as_asg (ae_tup (aa_cons (AE.drop (ae_ix ix_list (ae_lst (aa_cons (ae_slice sl_str (ae_call d2 (hr.mono (by omega)) (aa_cons (ae_name 0 rfl (aa_nil ⟨p, mo, k, rfl, hp, hpot, by omega, fun x mo1 hx h1 => ao_none (ao_some (ae_int ⟨7, rfl, s_str (aa_cons (ae_str (aa_nil ⟨by show 2 ≤ sizeLine; decide, fun l hl => ?_⟩)))⟩))⟩)))))))))))
      refine ae_call d1 (hr.mono (by omega)) (aa_cons (ae_name 0 rfl (aa_cons (ae_int (aa_nil ⟨p, mo1, k + 20, 2, rfl, by rw [put_ne (fresh_ne hl).symm]; exact put_same, h1, by omega, by omega, by omega, fun j mo2 hj h2 => ?_⟩)))))
      have h2 : isPot (k + 21) mo2 := h2
      have hx2 := wdS_iff hx
      have e7 : cl (cutS x none (some 7)) = (cl x).take 7 := (cl_cut x none (some 7)).trans (cut_to (cl x) 7)
      have hl2 : ∀ X, put (put (put L p mo1) l X) p mo2 l = some X := fun X => by rw [put_ne (fresh_ne hl)]; exact put_same
      match j, hj with
      | 0, _ =>
        refine r_ixL (hl2 _) rfl ⟨put L p mo2, le_pf hl, aa_cons (ae_lst (aa_nil ⟨Nat.zero_le _, fun fl hfl => aa_nil ⟨by show 2 ≤ sizeLine; decide, _, _, ag_tup (ags_cons (ag_name 2) (ags_cons (ag_name 3) ags_nil)), cutS x none (some 7), fl, mo2, ?_, ?_, fresh_L hfl, fresh_ne hfl, h2, rfl, rfl⟩⟩))⟩
        · rw [e7, List.length_take]; omega
        · rw [e7]; exact abcW_of fun c hc => abcW_mem hx2.2.2 c (List.mem_of_mem_take hc)
      | 1, _ => exact r_ixL (hl2 _) rfl ⟨put L p mo2, le_pf hl, aa_cons (ae_lst (aa_nil ⟨Nat.zero_le _, fun fl hfl => aa_nil ⟨by show 2 ≤ sizeLine; decide, _, _, ag_tup (ags_cons (ag_name 2) (ags_cons (ag_name 3) ags_nil)), Str.empty, fl, mo2, by decide, by decide, fresh_L hfl, fresh_ne hfl, h2, rfl, rfl⟩⟩))⟩
    · rintro Γ' L' ⟨st, fl, mo2, hs1, hs2, hfl, hne, h2, rfl, rfl⟩
      refine as_mid (fun Γ' L' => ∃ (sp : Nat) (mo3 : MO), sp ≤ (cl st).length ∧ isPot (k + 22) mo3 ∧ L' = St2 L p mo3 fl (.lst (([] : List Str).map .str)) ∧ Γ' = [some (.ptr p), some (.int m), some (.str st), some (.ptr fl), some (.int sp), none, none, none]) ?_ ?_
      · refine as_set 4 (ae_call d1 (hr.mono (by omega)) (aa_cons (ae_name 0 rfl (aa_cons (ae_bin op_add (ae_callB call_len_str B.len (aa_cons (ae_name 2 rfl (aa_nil (c_lenS (ae_int (r_add (aa_nil ⟨p, mo2, k + 21, (cl st).length + 1, by rw [cl_len]; rfl, St2.p hne, h2, by omega, by omega, by omega, fun j mo3 hj h3 => ⟨j, mo3, by omega, h3, St2.putP hne, rfl⟩⟩)))))))))))))
      · rintro Γ' L' ⟨sp, mo3, hsp, h3, rfl, rfl⟩
        refine as_cons (as_for (ai_range1 B.range (ae_name 1 rfl ⟨_, rfl, by omega, by omega, ?_⟩)))
        rw [show ((m : Int)).toNat = m by omega]
        refine ⟨fun i Γ2 L2 => ∃ (ys : List Str) (mo4 : MO) (a b c : Option D), ys.length = i ∧ (∀ y ∈ ys, wdS y = true) ∧ isPot (k + 22 + 20 * i) mo4 ∧ L2 = St2 L p mo4 fl (.lst (ys.map .str)) ∧ Γ2 = [some (.ptr p), some (.int m), some (.str st), some (.ptr fl), some (.int sp), a, b, c], ⟨[], mo3, none, none, none, rfl, (fun y hy => nomatch hy), h3, rfl, rfl⟩, fun _ _ _ _ => trivial, ?_, ?_⟩
        · rintro i d Γ2 L2 hd ⟨ys, mo4, a, b, c, hys, hw, h4, rfl, rfl⟩
          have hi := (rangeD_inv hd).1
          refine ⟨_, _, ag_name 5, ?_⟩
          refine as_cons (as_set 6 (ae_call d2 (hr.mono (by omega)) (aa_cons (ae_name 0 rfl (aa_nil ⟨p, mo4, k + 22 + 20 * i, rfl, St2.p hne, h4, by omega, fun x mo5 hx h5 => ?_⟩)))))
          rw [St2.putP hne]
          have hx2 := wdS_iff hx
          refine as_mid (fun Γ' L' => ∃ y, wdS y = true ∧ L' = St2 L p mo5 fl (.lst (ys.map .str)) ∧ Γ' = [some (.ptr p), some (.int m), some (.str st), some (.ptr fl), some (.int sp), some d, some (.str y), c]) ?_ ?_
          · refine as_if (at_cmp op_ne rfl (ae_name 2 rfl (ae_str (r_neS ⟨_, rfl, fun hz => ?_, fun hz => as_nil ⟨x, hx, rfl, rfl⟩⟩))))
            obtain ⟨c0, r0, hc0⟩ : ∃ c0 r0, cl x = c0 :: r0 := by
              cases e : cl x with
              | nil => rw [e] at hx2; exact absurd hx2.1 (by decide)
              | cons c0 r0 => exact ⟨c0, r0, rfl⟩
            have hat : atI x.cps.toList 0 = some c0 := by
              have : atI (cl x) ((0 : Nat) : Int) = some c0 := atI_nat (by rw [hc0]; rfl)
              exact this
            have l1 : (cutS st none (some (sp : Int))).length = sp := by rw [← cl_len, cl_cut, cut_to, List.length_take]; omega
            have l2 : (cutS st (some (sp : Int)) none).length = (cl st).length - sp := by rw [← cl_len, cl_cut, cut_from, List.length_drop]
            refine as_one (as_set 6 (ae_bin op_add_str (ae_bin op_add_str (ae_slice sl_str (ae_name 2 rfl (ao_none (ao_some (ae_name 4 rfl ⟨_, rfl, s_str (ae_ix ix_str (ae_name 6 rfl (ae_int (r_ixS hat (r_addS ?_ (ae_slice sl_str (ae_name 2 rfl (ao_some (ae_name 4 rfl ⟨_, rfl, ao_none (s_str (r_addS ?_ ⟨_, ?_, rfl, rfl⟩))⟩)))))))))⟩))))))))
            · rw [l1, sl_eq]; show sp + 1 ≤ _; omega
            · rw [str_len_app, l1, l2, sl_eq]; show sp + 1 + _ ≤ _; omega
            · have ec : cl (cutS st none (some (sp : Int)) ++ ⟨#[c0]⟩ ++ cutS st (some (sp : Int)) none) = (cl st).take sp ++ [c0] ++ (cl st).drop sp := by
                rw [cl_app, cl_app, cl_cut, cl_cut, cut_to, cut_from]
              have hc0' : c0 ∈ abc := abcW_mem hx2.2.2 c0 (by rw [hc0]; exact List.mem_cons_self)
              refine wdS_of ?_ ?_ ?_ <;> rw [ec]
              · rw [List.length_append, List.length_append, List.length_singleton]; omega
              · rw [List.length_append, List.length_append, List.length_singleton, List.length_take, List.length_drop]; omega
              · refine abcW_of fun z hz => ?_
                rcases List.mem_append.mp hz with hz | hz
                · rcases List.mem_append.mp hz with hz | hz
                  · exact abcW_mem hs2 z (List.mem_of_mem_take hz)
                  · rw [List.mem_singleton.mp hz]; exact hc0'
                · exact abcW_mem hs2 z (List.mem_of_mem_drop hz)
          · rintro Γ' L' ⟨y, hy, rfl, rfl⟩
            refine as_mid (fun Γ' L' => ∃ y e, wdS y = true ∧ L' = St2 L p mo5 fl (.lst (ys.map .str)) ∧ Γ' = [some (.ptr p), some (.int m), some (.str st), some (.ptr fl), some (.int sp), some d, some (.str y), e]) ?_ ?_
            · refine as_if (at_cmp op_in_seq rfl (ae_name 6 rfl (ae_name 3 rfl (r_inL St2.n ⟨_, rfl, fun hz => ?_, fun hz => as_nil ⟨y, c, hy, rfl, rfl⟩⟩))))
              refine as_one (as_set 6 (AE.drop (ae_ix ix_list (ae_lc [("_law_one", 7)] (ai_str (ae_str ⟨_, rfl, fun hso => ?_⟩))))))
              obtain ⟨k0, r0, he, hk0⟩ := abc_ne ys (by omega)
              refine ⟨fun t acc L2 => L2 = St2 L p mo5 fl (.lst (ys.map .str)) ∧ acc = (((abc.map sgn).take t).filter fun x => !decide (x ∈ ys)).map D.str, ⟨rfl, rfl⟩, fun _ _ _ _ => trivial, ?_, ?_⟩
              · rintro t d2 acc L2 hd2 ⟨rfl, rfl⟩
                obtain ⟨kt, hkt, rfl⟩ := signs_get hd2
                have hkt : abc[t]? = some kt := hkt
                have htk : (abc.map sgn).take (t + 1) = (abc.map sgn).take t ++ [sgn kt] := by
                  rw [List.take_add_one, List.getElem?_map, hkt]
                  rfl
                refine ⟨_, _, fun j hj => hj, fun s H Cc cl fp => ⟨ag_name 7, ats_one (at_cmp op_notIn_seq rfl (ae_name 7 rfl (ae_name 3 rfl (r_notInL St2.n ⟨_, rfl, fun hn s H Cc cl fp => ae_name 7 rfl ⟨?_, rfl, ?_⟩, fun hn => ⟨rfl, ?_⟩⟩))))⟩⟩
                · rw [List.length_map]
                  refine Nat.lt_of_le_of_lt (List.length_filter_le _ _) ?_
                  rw [List.length_take, List.length_map, abc_len, sl_eq]
                  omega
                · rw [htk, List.filter_append, List.map_append, List.filter_cons_of_pos (by exact hn)]
                  rfl
                · rw [htk, List.filter_append, List.filter_cons_of_neg (by rw [hn]; decide), List.filter_nil, List.append_nil]
              · rintro acc L2 ⟨rfl, rfl⟩ l hl
                have et : (abc.map sgn).take (sgnsOf ("abcdefghijklmnopqrstuvwxyz" : Str)).length = abc.map sgn := List.take_of_length_le (by rw [List.length_map]; exact Nat.le_of_eq (List.length_map ..).symm)
                rw [et, he]
                refine ae_int (r_ixL put_same (show atI (List.map D.str (sgn k0 :: r0)) ((0 : Nat) : Int) = some (.str (sgn k0)) from atI_nat rfl) ⟨_, le_put hl, sgn k0, c, ?_, rfl, rfl⟩)
                exact wdS_of (by show 1 ≤ 1; decide) (by show 1 ≤ 8; decide) (abcW_of fun z hz => by rw [List.mem_singleton.mp hz]; exact hk0)
            · rintro Γ' L' ⟨y, e, hy, rfl, rfl⟩
              refine as_one (as_expr (ae_append (ae_name 3 rfl ⟨fl, _, rfl, St2.n, ae_name 6 rfl ⟨_, St2.n, by rw [List.length_map, sl_eq]; omega, ys ++ [y], mo5, some d, some (.str y), e, by rw [List.length_append, hys]; rfl, fun z hz => ?_, h5.mono (by omega), ?_, rfl⟩⟩)))
              · rcases List.mem_append.mp hz with z1 | z1
                · exact hw z z1
                · rw [List.mem_singleton.mp z1]; exact hy
              · rw [St2.putN, List.map_append]
                rfl
        · rintro Γ2 L2 ⟨ys, mo4, a, b, c, hys, hw, h4, rfl, rfl⟩
          rw [rangeD_len] at hys h4
          exact as_one (as_ret (ae_name 3 rfl ⟨_, .refl _, q fl ys mo4 hfl hne hys hw (h4.mono (by omega))⟩))
end
end K
namespace K
open PySem PySem.Spec PyProof.Rows L2 DL
/-- names to draw from -/
structure NmOk (L : Lp) (p nl : Addr) (ys : List Str) : Prop where
  at_ : L nl = some (.lst (ys.map .str))
  ne : nl ≠ p
  lo : 1 ≤ ys.length
  hi : ys.length ≤ 1000
  wd : ∀ y ∈ ys, wdS y = true
theorem NmOk.put {L : Lp} {p nl : Addr} {ys : List Str} (h : NmOk L p nl ys) (mo : MO) : NmOk (DL.put L p mo) p nl ys := ⟨by rw [put_ne h.ne]; exact h.at_, h.ne, h.lo, h.hi, h.wd⟩
theorem NmOk.new {L : Lp} {p nl : Addr} {ys : List Str} (h : NmOk L p nl ys) {l : Addr} (hl : L l = none) (x : MO) : NmOk (DL.put L l x) p nl ys := ⟨by rw [put_ne (ne_of_free h.at_ hl)]; exact h.at_, h.ne, h.lo, h.hi, h.wd⟩
theorem le_two {L : Lp} {a : Addr} {x : MO} {L' : Lp} (h : Le (put L a x) L') (hn : L a = none) : Le L L' := (le_put hn).trans h
theorem mem_strs {ys : List Str} {d : D} (h : d ∈ ys.map D.str) : ∃ x, x ∈ ys ∧ d = .str x := by
  obtain ⟨x, hx, rfl⟩ := List.mem_map.mp h
  exact ⟨x, hx, rfl⟩
section
variable {P : Program} {w : World} {K : PySem.W.Frag} {mg : Str → Option Value} {base : Heap} {f : Addr} {fd : FuncData}
def sp_cell : SpA := fun ds L Q _ => ∃ (p nl : Addr) (mo : MO) (k : Nat) (ys : List Str), ds = [.ptr p, .ptr nl] ∧ L p = some mo ∧ isPot k mo ∧ k ≤ 40000 ∧ NmOk L p nl ys ∧ ∀ (zs : List Wd) mo', ceD (dW zs) = true → isPot (k + 10) mo' → Q (dW zs) (put L p mo')
theorem ok_cell (F : Fun K "_law_cell" "_law_cell" s__law_cell f fd) (hb : Binds K fd ["_law_pot_here", "_law_names_here"] []) (B : Bl mg) (d1 : Def P w K mg base "_law_of" 2 sp_of) : FnA P w K mg base 3 f sp_cell := by
  refine fnA F sc__law_cell hb (fun ds L Q R h => ?_) fun cdv A outer s H E ds L Q R hr h => ?_
  · obtain ⟨_, _, _, _, _, rfl, _⟩ := h; rfl
  · obtain ⟨p, nl, mo, k, ys, rfl, hp, hpot, hk, hn, q⟩ := h
    refine as_cons (as_setLc 2 [("_law_lap", 3)] (ai_range1 B.range (AE.drop (ae_call d1 (hr.mono (by omega)) (aa_cons (ae_name 0 rfl (aa_cons (ae_lst (aa_cons (ae_int (aa_cons (ae_int (aa_cons (ae_int (aa_cons (ae_int (aa_nil ⟨by show 4 ≤ sizeLine; decide, fun l hl => aa_nil ⟨p, l, mo, k, _, rfl, by rw [put_ne (ne_of_free hp hl)]; exact hp, hpot, by omega, put_same, (ne_of_free hp hl).symm, by show 0 < 4; decide, by show 4 ≤ 1000000; decide, fun d mo1 hd h1 => ?_⟩⟩)))))))))))))))))
    obtain ⟨n, hn3, rfl⟩ : ∃ n : Nat, n ≤ 3 ∧ d = .int (n : Int) := by
      simp only [List.mem_cons, List.not_mem_nil, or_false] at hd
      rcases hd with rfl | rfl | rfl | rfl
      · exact ⟨1, by decide, rfl⟩
      · exact ⟨2, by decide, rfl⟩
      · exact ⟨3, by decide, rfl⟩
      · exact ⟨0, by decide, rfl⟩
    refine ⟨put L p mo1, le_put2 (le_put hl) p mo1, _, rfl, by omega, by omega, ?_⟩
    rw [show ((n : Int)).toNat = n by omega]
    refine ⟨fun t acc L2 => ∃ (xs : List Str) (mo2 : MO), acc = xs.map D.str ∧ xs.length = t ∧ (∀ x ∈ xs, x ∈ ys) ∧ L2 = put L p mo2 ∧ isPot (k + 1 + t) mo2, ⟨[], mo1, rfl, rfl, (fun x hx => nomatch hx), rfl, h1⟩, fun _ _ _ _ => trivial, ?_, ?_⟩
    · rintro t d acc L2 hd ⟨xs, mo2, rfl, hxs, hx, rfl, h2⟩
      have ht := (rangeD_inv hd).1
      refine ⟨_, _, fun j hj => hj, fun s H Cc cl fp => ⟨ag_name 3, ats_nil ⟨fun _ s H Cc cl fp => ?_, (fun z => nomatch z)⟩⟩⟩
      refine ae_call d1 (hr.mono (by omega)) (aa_cons (ae_name 0 rfl (aa_cons (ae_name 1 rfl (aa_nil ⟨p, nl, mo2, k + 1 + t, _, rfl, put_same, h2, by omega, (hn.put mo2).at_, hn.ne, by rw [List.length_map]; exact hn.lo, by rw [List.length_map]; exact Nat.le_trans hn.hi (by decide), fun d mo3 hd h3 => ?_⟩)))))
      obtain ⟨x, hxy, rfl⟩ := mem_strs hd
      rw [put_put]
      refine ⟨by rw [List.length_map, sl_eq]; omega, xs ++ [x], mo3, by rw [List.map_append]; rfl, by rw [List.length_append, hxs]; rfl, fun z hz => ?_, rfl, h3.mono (by omega)⟩
      rcases List.mem_append.mp hz with z1 | z1
      · exact hx z z1
      · rw [List.mem_singleton.mp z1]; exact hxy
    · rintro acc L2 ⟨xs, mo2, rfl, hxs, hx, rfl, h2⟩ sl hsl
      rw [rangeD_len] at hxs h2
      refine as_one (as_ret (ae_callT call_tuple_of B.tuple (aa_cons (ae_callB (cr_sortX rfl (u100 hr)) B.sorted (aa_cons (ae_callT (cr_setX rfl) B.set (aa_cons (ae_name 2 rfl (aa_nil (c_setX put_same (by rw [hxs]; show n + 1 < scanBound; unfold scanBound; omega) fun l1 m1 hl1 hm1 => aa_nil (c_sortX put_same (by rw [sl_eq]; omega) fun l2 zs hl2 hrise hmem hlen => aa_nil (c_tupL put_same ⟨put L p mo2, (le_put hsl).trans ((le_put hl1).trans (le_put hl2)), q zs mo2 ?_ (h2.mono (by omega))⟩))))))))))))
      have hz : ∀ z ∈ zs, wdS z = true := fun z hz => hn.wd z (hx z (of_decide_eq_true ((hmem z).1 hz)))
      rw [ceD_dW, List.all_eq_true.mpr hz, decide_eq_true (by omega : zs.length ≤ 3), adj_rise hrise]
      rfl
def sp_cells : SpA := fun ds L Q _ => ∃ (p nl : Addr) (mo : MO) (k : Nat) (ys : List Str), ds = [.ptr p, .ptr nl] ∧ L p = some mo ∧ isPot k mo ∧ k ≤ 30000 ∧ NmOk L p nl ys ∧ ∀ (zs : List Cell) mo', csD (dC zs) = true → isPot (k + 30) mo' → Q (dC zs) (put L p mo')
theorem ok_cells (F : Fun K "_law_cells" "_law_cells" s__law_cells f fd) (hb : Binds K fd ["_law_pot_here", "_law_names_here"] []) (B : Bl mg) (d1 : Def P w K mg base "_law_of" 2 sp_of) (d2 : Def P w K mg base "_law_cell" 3 sp_cell) : FnA P w K mg base 4 f sp_cells := by
  refine fnA F sc__law_cells hb (fun ds L Q R h => ?_) fun cdv A outer s H E ds L Q R hr h => ?_
  · obtain ⟨_, _, _, _, _, rfl, _⟩ := h; rfl
  · obtain ⟨p, nl, mo, k, ys, rfl, hp, hpot, hk, hn, q⟩ := h
    refine as_one (as_ret (ae_callT call_tuple_of B.tuple (aa_cons (ae_lc [("_law_lap", 2)] (ai_range1 B.range (AE.drop (ae_call d1 (hr.mono (by omega)) (aa_cons (ae_name 0 rfl (aa_cons (ae_lst (aa_cons (ae_int (aa_cons (ae_int (aa_cons (ae_int (aa_cons (ae_int (aa_nil ⟨by show 4 ≤ sizeLine; decide, fun l hl => aa_nil ⟨p, l, mo, k, _, rfl, by rw [put_ne (ne_of_free hp hl)]; exact hp, hpot, by omega, put_same, (ne_of_free hp hl).symm, by show 0 < 4; decide, by show 4 ≤ 1000000; decide, fun d mo1 hd h1 => ?_⟩⟩))))))))))))))))))))
    obtain ⟨n, hn3, rfl⟩ : ∃ n : Nat, n ≤ 2 ∧ d = .int (n : Int) := by
      simp only [List.mem_cons, List.not_mem_nil, or_false] at hd
      rcases hd with rfl | rfl | rfl | rfl
      · exact ⟨1, by decide, rfl⟩
      · exact ⟨2, by decide, rfl⟩
      · exact ⟨0, by decide, rfl⟩
      · exact ⟨1, by decide, rfl⟩
    refine ⟨put L p mo1, le_put2 (le_put hl) p mo1, _, rfl, by omega, by omega, ?_⟩
    rw [show ((n : Int)).toNat = n by omega]
    refine ⟨fun t acc L2 => ∃ (xs : List Cell) (mo2 : MO), acc = xs.map dW ∧ xs.length = t ∧ (∀ x ∈ xs, ceD (dW x) = true) ∧ L2 = put L p mo2 ∧ isPot (k + 1 + 10 * t) mo2, ⟨[], mo1, rfl, rfl, (fun x hx => nomatch hx), rfl, h1⟩, fun _ _ _ _ => trivial, ?_, ?_⟩
    · rintro t d acc L2 hd ⟨xs, mo2, rfl, hxs, hx, rfl, h2⟩
      have ht := (rangeD_inv hd).1
      refine ⟨_, _, fun j hj => hj, fun s H Cc cl fp => ⟨ag_name 2, ats_nil ⟨fun _ s H Cc cl fp => ?_, (fun z => nomatch z)⟩⟩⟩
      refine ae_call d2 (hr.mono (by omega)) (aa_cons (ae_name 0 rfl (aa_cons (ae_name 1 rfl (aa_nil ⟨p, nl, mo2, k + 1 + 10 * t, ys, rfl, put_same, h2, by omega, hn.put mo2, fun zs mo3 hz h3 => ?_⟩)))))
      rw [put_put]
      refine ⟨by rw [List.length_map, sl_eq]; omega, xs ++ [zs], mo3, by rw [List.map_append]; rfl, by rw [List.length_append, hxs]; rfl, fun z hzz => ?_, rfl, h3.mono (by omega)⟩
      rcases List.mem_append.mp hzz with z1 | z1
      · exact hx z z1
      · rw [List.mem_singleton.mp z1]; exact hz
    · rintro acc L2 ⟨xs, mo2, rfl, hxs, hx, rfl, h2⟩ sl hsl
      rw [rangeD_len] at hxs h2
      refine aa_nil (c_tupL put_same ⟨put L p mo2, le_put hsl, q xs mo2 ?_ (h2.mono (by omega))⟩)
      show (decide ((xs.map dW).length ≤ 2) && (xs.map dW).all ceD) = true
      rw [List.length_map, hxs, decide_eq_true hn3, List.all_map, Bool.true_and, List.all_eq_true]
      exact hx
def sp_key : SpA := fun ds L Q _ => ∃ (p nl : Addr) (mo : MO) (k : Nat) (ys : List Str), ds = [.ptr p, .ptr nl] ∧ L p = some mo ∧ isPot k mo ∧ k ≤ 30000 ∧ NmOk L p nl ys ∧ ∀ (zs : List Wd) mo', kyD (dW zs) = true → isPot (k + 10) mo' → Q (dW zs) (put L p mo')
theorem ok_key (F : Fun K "_law_key" "_law_key" s__law_key f fd) (hb : Binds K fd ["_law_pot_here", "_law_names_here"] []) (B : Bl mg) (d1 : Def P w K mg base "_law_of" 2 sp_of) : FnA P w K mg base 3 f sp_key := by
  refine fnA F sc__law_key hb (fun ds L Q R h => ?_) fun cdv A outer s H E ds L Q R hr h => ?_
  · obtain ⟨_, _, _, _, _, rfl, _⟩ := h; rfl
  · obtain ⟨p, nl, mo, k, ys, rfl, hp, hpot, hk, hn, q⟩ := h
    refine as_one (as_ret (ae_callT call_tuple_of B.tuple (aa_cons (ae_lc [("_law_lap", 2)] (ai_range1 B.range (AE.drop (ae_call d1 (hr.mono (by omega)) (aa_cons (ae_name 0 rfl (aa_cons (ae_lst (aa_cons (ae_int (aa_cons (ae_int (aa_cons (ae_int (aa_cons (ae_int (aa_cons (ae_int (aa_nil ⟨by show 5 ≤ sizeLine; decide, fun l hl => aa_nil ⟨p, l, mo, k, _, rfl, by rw [put_ne (ne_of_free hp hl)]; exact hp, hpot, by omega, put_same, (ne_of_free hp hl).symm, by show 0 < 5; decide, by show 5 ≤ 1000000; decide, fun d mo1 hd h1 => ?_⟩⟩))))))))))))))))))))))
    obtain ⟨n, hn1, hn3, rfl⟩ : ∃ n : Nat, 1 ≤ n ∧ n ≤ 3 ∧ d = .int (n : Int) := by
      simp only [List.mem_cons, List.not_mem_nil, or_false] at hd
      rcases hd with rfl | rfl | rfl | rfl | rfl
      · exact ⟨1, by decide, by decide, rfl⟩
      · exact ⟨2, by decide, by decide, rfl⟩
      · exact ⟨1, by decide, by decide, rfl⟩
      · exact ⟨3, by decide, by decide, rfl⟩
      · exact ⟨2, by decide, by decide, rfl⟩
    refine ⟨put L p mo1, le_put2 (le_put hl) p mo1, _, rfl, by omega, by omega, ?_⟩
    rw [show ((n : Int)).toNat = n by omega]
    refine ⟨fun t acc L2 => ∃ (xs : List Str) (mo2 : MO), acc = xs.map D.str ∧ xs.length = t ∧ (∀ x ∈ xs, x ∈ ys) ∧ L2 = put L p mo2 ∧ isPot (k + 1 + t) mo2, ⟨[], mo1, rfl, rfl, (fun x hx => nomatch hx), rfl, h1⟩, fun _ _ _ _ => trivial, ?_, ?_⟩
    · rintro t d acc L2 hd ⟨xs, mo2, rfl, hxs, hx, rfl, h2⟩
      have ht := (rangeD_inv hd).1
      refine ⟨_, _, fun j hj => hj, fun s H Cc cl fp => ⟨ag_name 2, ats_nil ⟨fun _ s H Cc cl fp => ?_, (fun z => nomatch z)⟩⟩⟩
      refine ae_call d1 (hr.mono (by omega)) (aa_cons (ae_name 0 rfl (aa_cons (ae_name 1 rfl (aa_nil ⟨p, nl, mo2, k + 1 + t, _, rfl, put_same, h2, by omega, (hn.put mo2).at_, hn.ne, by rw [List.length_map]; exact hn.lo, by rw [List.length_map]; exact Nat.le_trans hn.hi (by decide), fun d mo3 hd h3 => ?_⟩)))))
      obtain ⟨x, hxy, rfl⟩ := mem_strs hd
      rw [put_put]
      refine ⟨by rw [List.length_map, sl_eq]; omega, xs ++ [x], mo3, by rw [List.map_append]; rfl, by rw [List.length_append, hxs]; rfl, fun z hz => ?_, rfl, h3.mono (by omega)⟩
      rcases List.mem_append.mp hz with z1 | z1
      · exact hx z z1
      · rw [List.mem_singleton.mp z1]; exact hxy
    · rintro acc L2 ⟨xs, mo2, rfl, hxs, hx, rfl, h2⟩ sl hsl
      rw [rangeD_len] at hxs h2
      refine aa_nil (c_tupL put_same ⟨put L p mo2, le_put hsl, q xs mo2 ?_ (h2.mono (by omega))⟩)
      show ((xs.map D.str).all wdD && decide (1 ≤ (xs.map D.str).length) && decide ((xs.map D.str).length ≤ 3)) = true
      rw [List.length_map, hxs, decide_eq_true hn3, decide_eq_true hn1, List.all_map, Bool.and_true, Bool.and_true, List.all_eq_true]
      exact fun x hxx => hn.wd x (hx x hxx)
end
end K
namespace K
open PySem PySem.Spec PyProof.Rows L2 DL
theorem St2.nm {L : Lp} {p nl n : Addr} {ys : List Str} (h : NmOk L p nl ys) (hn : L n = none) (mo x : MO) : NmOk (St2 L p mo n x) p nl ys := ⟨by unfold St2; rw [put_ne (ne_of_free h.at_ hn), put_ne h.ne]; exact h.at_, h.ne, h.lo, h.hi, h.wd⟩
section
variable {P : Program} {w : World} {K : PySem.W.Frag} {mg : Str → Option Value} {base : Heap} {f : Addr} {fd : FuncData}
def sp_book : SpA := fun ds L Q _ => ∃ (p nl : Addr) (mo : MO) (k m : Nat) (ys : List Str), ds = [.ptr p, .ptr nl, .int m] ∧ L p = some mo ∧ isPot k mo ∧ k ≤ 20000 ∧ m ≤ 6 ∧ NmOk L p nl ys ∧ ∀ (rs : Rl) mo', RuOk rs → rs.length ≤ m → isPot (k + 500) mo' → Q (dR rs) (put L p mo')
theorem ok_book (F : Fun K "_law_book" "_law_book" s__law_book f fd) (hb : Binds K fd ["_law_pot_here", "_law_names_here", "_law_most"] []) (B : Bl mg) (d1 : Def P w K mg base "_law_take" 1 sp_take) (d2 : Def P w K mg base "_law_key" 3 sp_key) (d3 : Def P w K mg base "_law_cells" 4 sp_cells) : FnA P w K mg base 5 f sp_book := by
  refine fnA F sc__law_book hb (fun ds L Q R h => ?_) fun cdv A outer s H E ds L Q R hr h => ?_
  · obtain ⟨_, _, _, _, _, _, rfl, _⟩ := h; rfl
  · obtain ⟨p, nl, mo, k, m, ys, rfl, hp, hpot, hk, hm, hn, q⟩ := h
    refine as_cons (as_set 3 (ae_dict0 fun dl hdl => ?_))
    have hne : dl ≠ p := (ne_of_free hp hdl).symm
    have e0 : put L dl (.dct []) = St2 L p mo dl (.dct (tbl [])) := by
      unfold St2
      rw [put_self hp]
      rfl
    rw [e0]
    refine as_cons (as_for (ai_range1 B.range (ae_call d1 (hr.mono (by omega)) (aa_cons (ae_name 0 rfl (aa_cons (ae_bin op_add (ae_name 2 rfl (ae_int (r_add (aa_nil ⟨p, mo, k, m + 1, rfl, St2.p hne, hpot, by omega, by omega, by omega, fun n mo1 hn1 h1 => ⟨_, rfl, by omega, by omega, ?_⟩⟩)))))))))))
    rw [St2.putP hne, show ((n : Int)).toNat = n by omega]
    refine ⟨fun i Γ2 L2 => ∃ (rs : Rl) (mo2 : MO) (a b : Option D), rs.length ≤ i ∧ (rs.map (·.1)).Nodup ∧ (∀ r ∈ rs, kyD (dW r.1) = true ∧ csD (dC r.2) = true) ∧ isPot (k + 1 + 40 * i) mo2 ∧ L2 = St2 L p mo2 dl (.dct (tbl rs)) ∧ Γ2 = [some (.ptr p), some (.ptr nl), some (.int m), some (.ptr dl), a, b], ⟨[], mo1, none, none, Nat.le_refl _, List.nodup_nil, (fun r hr => nomatch hr), h1, rfl, rfl⟩, fun _ _ _ _ => trivial, ?_, ?_⟩
    · rintro i d Γ2 L2 hd ⟨rs, mo2, a, b, hl, nd, hall, h2, rfl, rfl⟩
      have hi := (rangeD_inv hd).1
      refine ⟨_, _, ag_name 4, ?_⟩
      refine as_cons (as_set 5 (ae_call d2 (hr.mono (by omega)) (aa_cons (ae_name 0 rfl (aa_cons (ae_name 1 rfl (aa_nil ⟨p, nl, mo2, k + 1 + 40 * i, ys, rfl, St2.p hne, h2, by omega, St2.nm hn hdl _ _, fun ks mo3 hks h3 => ?_⟩)))))))
      rw [St2.putP hne]
      refine as_one (as_sub (set_DT (u1 hr)) (ae_call d3 (hr.mono (by omega)) (aa_cons (ae_name 0 rfl (aa_cons (ae_name 1 rfl (aa_nil ⟨p, nl, mo3, k + 1 + 40 * i + 10, ys, rfl, St2.p hne, h3, by omega, St2.nm hn hdl _ _, fun zs mo4 hzs h4 => ae_name 3 rfl (ae_name 5 rfl ?_)⟩)))))))
      rw [St2.putP hne]
      refine w_W St2.n (by rw [sl_eq]; omega) ?_
      rw [St2.putN]
      refine ⟨putR rs ks zs, mo4, some d, some (dW ks), ?_, putR_nodup nd, fun r hr2 => ?_, h4.mono (by omega), rfl, rfl⟩
      · have := putR_len rs ks zs
        omega
      · rcases putR_mem hr2 with e | e
        · rw [e]; exact ⟨hks, hzs⟩
        · exact hall r e
    · rintro Γ2 L2 ⟨rs, mo2, a, b, hl, nd, hall, h2, rfl, rfl⟩
      rw [rangeD_len] at hl h2
      have hkne : ∀ r ∈ rs, r.1 ≠ [] := fun r hr2 e => by
        have := (kyD_iff (hall r hr2).1).2.1
        rw [e] at this
        exact absurd this (by decide)
      refine as_one (as_ret (ae_tupLc [("_law_key_here", 5)] B.tuple (ai_lst (ae_callB (cr_sortD (u100 hr)) B.sorted (aa_cons (ae_callT (call_listDT rfl) B.list (aa_cons (ae_name 3 rfl (aa_nil (c_listDT St2.n (by rw [tbl_len, sl_eq]; omega) fun l1 hl1 => aa_nil (c_sortKL (rs := rs) (by rw [put_same, tbl_keys]) hkne fun l2 hl2 => ⟨l2, _, rfl, put_same, fun hz2 => ⟨fun d => .tup [d, dC ((lk rs (cellOfD d)).getD [])], put_same, hz2, each1 (fun j hj => hj) (fun i d hi s H Cc cl fp => ⟨ag_name 5, fun Q q => ?_⟩), put L p mo2, ?_, ?_⟩⟩)))))))))))
      · rw [List.getElem?_map] at hi
        cases e : (srt rs)[i]? with
        | none => rw [e] at hi; cases hi
        | some r =>
          rw [e] at hi
          cases hi
          have hl3 := lk_self nd ((srt_perm rs).mem_iff.mp (List.mem_of_getElem? e))
          refine ae_tup (aa_cons (ae_name 5 rfl (aa_cons (ae_getW (u1 hr) (ae_name 3 rfl (ae_name 5 rfl ⟨rs, r.1, r.2, rfl, .st ?_, hl3, aa_nil ⟨by show 2 ≤ sizeLine; decide, ?_⟩⟩))))))
          · have n1 : dl ≠ l1 := ne_of_free (St2.n (L := L) (p := p) (mo := mo2)) hl1
            have n2 : dl ≠ l2 := ne_of_free (show put (St2 L p mo2 dl (.dct (tbl rs))) l1 _ dl = _ by rw [put_ne n1]; exact St2.n) hl2
            rw [put_ne n2, put_ne n1]
            exact St2.n
          · rw [cellOfD_dW, hl3] at q
            exact q
      · exact (St2.le hdl hne).trans ((le_put hl1).trans (le_put hl2))
      · have e : ((srt rs).map fun r => dW r.1).map (fun d => D.tup [d, dC ((lk rs (cellOfD d)).getD [])]) = (srt rs).map dRu := by
          rw [List.map_map]
          refine List.map_congr_left fun r hr2 => ?_
          have hl3 := lk_self nd ((srt_perm rs).mem_iff.mp hr2)
          show D.tup [dW r.1, dC ((lk rs (cellOfD (dW r.1))).getD [])] = dRu r
          rw [cellOfD_dW, hl3]
          rfl
        rw [e]
        refine q (srt rs) mo2 ⟨?_, fun r hr2 => (hall r ((srt_perm rs).mem_iff.mp hr2)).1, fun r hr2 => (hall r ((srt_perm rs).mem_iff.mp hr2)).2, srt_rise nd⟩ ?_ (h2.mono (by omega))
        · rw [(srt_perm rs).length_eq]
          omega
        · rw [(srt_perm rs).length_eq]
          omega
end
end K
namespace K
open PySem PySem.Spec PyProof.Rows L2 DL
section
variable {P : Program} {w : World} {K : PySem.W.Frag} {mg : Str → Option Value} {base : Heap} {f : Addr} {fd : FuncData}
/-- the two comprehensions over a slice of cells, whatever the context -/
abbrev g1 : D → Bool := fun d => match d with | .tup xs => decide ((xs.length : Int) = 1) | _ => false
abbrev g0 : D → D := fun d => match d with | .tup (x :: _) => x | _ => .non
theorem g1_all (sm : List Cell) : (sm.map dW).all g1 = sm.all fun c => decide (c.length = 1) := by
  rw [List.all_map]
  congr 1
  funext c
  show decide (((c.map D.str).length : Int) = 1) = _
  rw [List.length_map]
  by_cases h : c.length = 1
  · rw [h]; rfl
  · rw [decide_eq_false (by omega), decide_eq_false h]
theorem g0_map {sm : List Cell} (h : ∀ c ∈ sm, c.length = 1) : (sm.map dW).map g0 = (sm.map hd0).map D.str := by
  rw [List.map_map, List.map_map]
  refine List.map_congr_left fun c hc => ?_
  match c, h c hc with
  | [x], _ => rfl
theorem cell_one {sm : List Cell} {i : Nat} {d : D} (hd : (sm.map dW)[i]? = some d) : ∃ c, c ∈ sm ∧ d = dW c := by
  rw [List.getElem?_map] at hd
  cases e : sm[i]? with
  | none => rw [e] at hd; cases hd
  | some c => rw [e] at hd; cases hd; exact ⟨c, List.mem_of_getElem? e, rfl⟩
def sp_lwritten : SpA := fun ds L Q _ => ∃ (rs : Rl) (cs : List Cell), ds = [dR rs, dC cs] ∧ RuOk rs ∧ cs.length ≤ 1000000 ∧ Q (dC (rw1 rs cs)) L
theorem ok_lwritten (F : Fun K "_law_written" "_law_written" s__law_written f fd) (hb : Binds K fd ["_law_book_here", "_law_cells_here"] []) (B : Bl mg) : FnA P w K mg base 1 f sp_lwritten := by
  refine fnA F sc__law_written hb (fun ds L Q R h => ?_) fun cdv A outer s H E ds L Q R hr h => ?_
  · obtain ⟨_, _, rfl, _⟩ := h; rfl
  · obtain ⟨rs, cs, rfl, hR, hz, q⟩ := h
    refine as_cons (as_par3 2 3 4 (aa_cons (AE.drop (ae_callT (call_dictPT rfl (u100 hr)) B.dict (aa_cons (ae_callT call_list_of B.list (aa_cons (ae_name 0 rfl (aa_nil (c_lstT fun l hl => aa_nil (c_dictPT (kds := tbl rs) (by rw [tbl_pD]; exact put_same) fun dl hdl => ⟨put L dl (.dct (mergeD [] (tbl rs))), le_put2 (le_put hl) dl _, ?_⟩)))))))))))
    rw [mergeD_tbl hR.nd]
    have hdL : L dl = none := by
      have : dl ≠ l := fun e => by rw [e, put_same] at hdl; cases hdl
      rw [put_ne this] at hdl
      exact hdl
    refine aa_cons (ae_lst (aa_nil ⟨Nat.zero_le _, fun fl hfl => aa_cons (ae_int (aa_nil ⟨_, _, _, rfl, ?_⟩))⟩))
    have hdf : dl ≠ fl := ne_of_free (put_same (L := L) (a := dl)) hfl
    have hle : ∀ x, Le L (put (put L dl (.dct (tbl rs))) fl x) := fun x => (le_put hdL).trans (le_put hfl)
    generalize hL0 : put L dl (.dct (tbl rs)) = L0 at hfl hle
    have hd0 : L0 dl = some (.dct (tbl rs)) := by rw [← hL0]; exact put_same
    refine as_cons (as_while (fun m Γ1 L1 => ∃ (fnd : List Cell) (a : Nat) (x5 x6 x7 x8 : Option D), L1 = put L0 fl (.lst (fnd.map dW)) ∧ Γ1 = [some (dR rs), some (dC cs), some (.ptr dl), some (.ptr fl), some (.int a), x5, x6, x7, x8] ∧ fnd ++ rwF rs cs m a = rw1 rs cs ∧ cs.length ≤ a + m ∧ fnd.length ≤ 2 * a ∧ a ≤ cs.length + 2) cs.length ⟨[], 0, none, none, none, none, rfl, rfl, rfl, by omega, Nat.le_refl _, by omega⟩ ?_)
    rintro m Γ1 L1 ⟨fnd, a, x5, x6, x7, x8, rfl, rfl, inv, hm, hf, ha⟩
    have hd1 : put L0 fl (.lst (fnd.map dW)) dl = some (.dct (tbl rs)) := by rw [put_ne hdf]; exact hd0
    have hlen : (cs.map dW).length = cs.length := List.length_map ..
    have ecut : ∀ z : Nat, cut (cs.map dW) (some (a : Int)) (some ((a : Int) + (z : Int))) = ((cs.drop a).take z).map dW := fun z => by
      rw [show (a : Int) + (z : Int) = ((a + z : Nat) : Int) by omega, cut_nn, Nat.add_sub_cancel_left, ← List.map_drop, ← List.map_take]
    refine at_cmp op_lt rfl (ae_name 4 rfl (ae_callB call_len_seq B.len (aa_cons (ae_name 1 rfl (aa_nil (c_lenT (r_lt ⟨_, rfl, fun hk => ?_, fun hk => ?_⟩)))))))
    · have hlt : a < cs.length := by
        have := of_decide_eq_true hk
        rw [hlen] at this
        omega
      obtain ⟨m, rfl⟩ : ∃ m', m = m' + 1 := ⟨m - 1, by omega⟩
      refine as_cons (as_set 5 (ae_int ?_))
      refine as_mid (fun Γ' L' => ∃ y6 y7 y8, L' = put L0 fl (.lst (fnd.map dW)) ∧ Γ' = [some (dR rs), some (dC cs), some (.ptr dl), some (.ptr fl), some (.int a), some (.int (szAt rs cs a)), y6, y7, y8]) ?_ ?_
      · refine as_for (ai_tup (ae_tup (aa_cons (ae_int (aa_cons (ae_int (aa_cons (ae_int (aa_nil ⟨by show 3 ≤ sizeLine; decide, _, rfl, fun _ => ?_⟩)))))))))
        refine ⟨fun i Γ2 L2 => ∃ y6 y7 y8, L2 = put L0 fl (.lst (fnd.map dW)) ∧ Γ2 = [some (dR rs), some (dC cs), some (.ptr dl), some (.ptr fl), some (.int a), some (.int (szU rs cs a i)), y6, y7, y8], ⟨_, _, _, rfl, rfl⟩, fun _ _ _ _ => trivial, ?_, ?_⟩
        · rintro i d Γ2 L2 hd ⟨y6, y7, y8, rfl, rfl⟩
          have hd2 : i < 3 ∧ d = .int ((i + 1 : Nat) : Int) := by
            match i, hd with
            | 0, hd => exact ⟨by decide, (Option.some.inj hd).symm⟩
            | 1, hd => exact ⟨by decide, (Option.some.inj hd).symm⟩
            | 2, hd => exact ⟨by decide, (Option.some.inj hd).symm⟩
            | i + 3, hd => simp at hd
          obtain ⟨hi, rfl⟩ := hd2
          refine ⟨_, _, ag_name 6, ?_⟩
          refine as_cons (as_set 7 (ae_slice sl_tupA (ae_name 1 rfl (ao_some (ae_name 4 rfl ⟨_, rfl, ao_some (ae_bin op_add (ae_name 4 rfl (ae_name 6 rfl (r_add ⟨_, rfl, s_tup ?_⟩))))⟩)))))
          rw [ecut (i + 1)]
          have hfe := fits_eq rs cs a (i + 1)
          generalize hsm : (cs.drop a).take (i + 1) = sm at hfe ⊢
          have no : fits rs cs a (i + 1) = false → szU rs cs a (i + 1) = szU rs cs a i := fun e => by
            show (if fits rs cs a (i + 1) then i + 1 else _) = _
            rw [e]
            rfl
          refine as_one (as_if (at_w (aw_and (at_cmp op_eq rfl (ae_callB call_len_seq B.len (aa_cons (ae_name 7 rfl (aa_nil (c_lenT (ae_name 6 rfl (r_eqI ⟨_, rfl, fun h1 => aw_and1 (at_val ?_), fun h1 => ⟨(fun z => nomatch z), fun _ => as_nil ?_⟩⟩)))))))))))
          · refine ae_allLc [("_law_cell_here", 8)] B.all (ai_tup (ae_name 7 rfl ⟨_, rfl, fun hz2 => ⟨g1, trivial, hz2, each1 (fun j hj => hj) (fun j d hd s H Cc cl fp => ⟨ag_name 8, fun Q q => ?_⟩), ⟨_, rfl, ?_, ?_⟩⟩⟩))
            · obtain ⟨c, _, rfl⟩ := cell_one hd
              exact ae_cmp op_eq rfl (ae_callB call_len_seq B.len (aa_cons (ae_name 8 rfl (aa_nil (c_lenT (ae_int (r_eqI q)))))))
            · intro h2
              rw [g1_all] at h2
              have h1 := of_decide_eq_true h1
              rw [List.length_map] at h1
              have hone : ∀ c ∈ sm, c.length = 1 := fun c hc => of_decide_eq_true (List.all_eq_true.mp h2 c hc)
              rw [decide_eq_true (by omega : sm.length = i + 1), h2, Bool.true_and, Bool.true_and] at hfe
              refine as_one (as_if (at_cmp (op_inDT (u1 hr)) rfl (ae_tupLc [("_law_cell_here", 8)] B.tuple (ai_tup (ae_name 7 rfl ⟨_, rfl, fun hz2 => ⟨g0, trivial, hz2, each1 (fun j hj => hj) (fun j d hd s H Cc cl fp => ⟨ag_name 8, fun Q q => ?_⟩), ae_name 2 rfl ?_⟩⟩)))))
              · obtain ⟨c, hc, rfl⟩ := cell_one hd
                have hc1 := hone c hc
                match c, hc1 with
                | [x], _ => exact ae_ix ix_tup (ae_name 8 rfl (ae_int (r_ixT (d := .str x) rfl q)))
              · rw [g0_map hone]
                refine r_inW (.st hd1) ⟨_, rfl, fun h3 => as_one (as_set 5 (ae_name 6 rfl ⟨some (.int ((i + 1 : Nat) : Int)), some (.tup (sm.map dW)), y8, rfl, ?_⟩)), fun h3 => as_nil ⟨some (.int ((i + 1 : Nat) : Int)), some (.tup (sm.map dW)), y8, rfl, ?_⟩⟩
                · have e : szU rs cs a (i + 1) = i + 1 := by
                    show (if fits rs cs a (i + 1) then i + 1 else _) = _
                    rw [hfe, h3]
                    rfl
                  rw [e]
                  rfl
                · rw [no (by rw [hfe]; exact h3)]
                  rfl
            · intro h2
              rw [g1_all] at h2
              refine as_nil ⟨some (.int ((i + 1 : Nat) : Int)), some (.tup (sm.map dW)), y8, rfl, ?_⟩
              rw [no (by rw [hfe, h2, Bool.and_false]; rfl)]
              rfl
          · have h1 := of_decide_eq_false h1
            rw [List.length_map] at h1
            refine ⟨some (.int ((i + 1 : Nat) : Int)), some (.tup (sm.map dW)), y8, rfl, ?_⟩
            rw [no (by rw [hfe, decide_eq_false (by omega : ¬ sm.length = i + 1)]; rfl)]
            rfl
        · rintro Γ2 L2 ⟨y6, y7, y8, rfl, rfl⟩
          exact ⟨y6, y7, y8, rfl, by rw [← szU_3]; rfl⟩
      · rintro Γ' L' ⟨y6, y7, y8, rfl, rfl⟩
        have h5 := szAt_le rs cs a
        refine as_mid (fun Γ' L' => ∃ z8, L' = put L0 fl (.lst ((fnd ++ (if szAt rs cs a = 0 then [cs.getD a []] else (lk rs (kAt rs cs a)).getD [])).map dW)) ∧ Γ' = [some (dR rs), some (dC cs), some (.ptr dl), some (.ptr fl), some (.int a), some (.int (szAt rs cs a)), y6, y7, z8]) ?_ ?_
        · refine as_if (at_cmp op_eq rfl (ae_name 5 rfl (ae_int (r_eqI ⟨_, rfl, fun h0 => ?_, fun h0 => ?_⟩))))
          · have h0 : szAt rs cs a = 0 := by have := of_decide_eq_true h0; omega
            have hg : atI (cs.map dW) ((a : Nat) : Int) = some (dW (cs.getD a [])) := by
              refine atI_nat ?_
              rw [List.getElem?_map, List.getElem?_eq_getElem hlt, List.getD_eq_getElem?_getD, List.getElem?_eq_getElem hlt]
              rfl
            refine as_one (as_expr (ae_append (ae_name 3 rfl ⟨fl, _, rfl, put_same, ae_ix ix_tup (ae_name 1 rfl (ae_name 4 rfl (r_ixT hg ⟨_, put_same, by rw [List.length_map, sl_eq]; omega, y8, ?_, rfl⟩)))⟩)))
            rw [put_put, if_pos h0, List.map_append]
            rfl
          · have h0 : szAt rs cs a ≠ 0 := by have := of_decide_eq_false h0; omega
            obtain ⟨z, h1, h2, h3⟩ := kAt_some h0
            have h4 := hR.r2.lk h2
            obtain ⟨ek, hone⟩ := wAt_heads h1
            refine as_one (as_expr (AE.drop (ae_extL (ae_name 3 rfl ⟨fl, _, rfl, put_same, ae_callT call_list_of B.list (aa_cons (ae_getW (u1 hr) (ae_name 2 rfl (ae_tupLc [("_law_cell_here", 8)] B.tuple (ai_tup (ae_slice sl_tupA (ae_name 1 rfl (ao_some (ae_name 4 rfl ⟨_, rfl, ao_some (ae_bin op_add (ae_name 4 rfl (ae_name 5 rfl (r_add ⟨_, rfl, s_tup ⟨_, rfl, fun hz2 => ⟨g0, trivial, hz2, ?_, rs, kAt rs cs a, z, ?_, .st hd1, h2, aa_nil (c_lstT fun b hb => ⟨fnd.map dW, b, _, rfl, ?_, put_same, ?_, put L0 fl (.lst (fnd.map dW ++ z.map dW)), ?_, y8, ?_, rfl⟩)⟩⟩⟩))))⟩)))))))))⟩))))
            · rw [ecut]
              refine each1 (fun j hj => hj) (fun j d hd s H Cc cl fp => ⟨ag_name 8, fun Q q => ?_⟩)
              obtain ⟨c, hc, rfl⟩ := cell_one hd
              have hc1 := hone c hc
              match c, hc1 with
              | [x], _ => exact ae_ix ix_tup (ae_name 8 rfl (ae_int (r_ixT (d := .str x) rfl q)))
            · rw [ecut, g0_map hone, ek]
              rfl
            · rw [put_ne (ne_of_free (put_same (L := L0) (a := fl)) hb)]; exact put_same
            · rw [List.length_map, List.length_map, sl_eq]; omega
            · have := le_put2 (le_put (o := .lst (z.map dW)) hb) fl (.lst (fnd.map dW ++ z.map dW))
              rwa [put_put] at this
            · rw [if_neg h0, h2, List.map_append]
              rfl
        · rintro Γ' L' ⟨z8, rfl, rfl⟩
          have emax : (if (szAt rs cs a : Int) > 1 then (szAt rs cs a : Int) else 1) = ((max 1 (szAt rs cs a) : Nat) : Int) := by
            split <;> omega
          refine as_one (as_set 4 (ae_bin op_add (ae_name 4 rfl (ae_callB (call_max2 rfl) B.max (aa_cons (ae_int (aa_cons (ae_name 5 rfl (aa_nil (c_max (r_add ⟨m, by omega, _, a + max 1 (szAt rs cs a), some (.int (szAt rs cs a)), y6, y7, z8, rfl, ?_, ?_, by omega, ?_, ?_⟩)))))))))))
          · rw [emax]
            rfl
          · rw [List.append_assoc, ← inv]
            congr 1
            by_cases h0 : szAt rs cs a = 0
            · rw [if_pos h0, rwF_0 hlt h0, h0]
              rfl
            · obtain ⟨z, h1, h2, h3⟩ := kAt_some h0
              rw [if_neg h0, h2, rwF_1 hlt h0 h2, Nat.max_eq_right (by omega)]
              rfl
          · rw [List.length_append]
            by_cases h0 : szAt rs cs a = 0
            · rw [if_pos h0, List.length_singleton]; omega
            · obtain ⟨z, h1, h2, h3⟩ := kAt_some h0
              have h4 := hR.r2.lk h2
              rw [if_neg h0, h2]
              show _ + z.length ≤ _
              omega
          · omega
    · have hge : cs.length ≤ a := by
        have := of_decide_eq_false hk
        rw [hlen] at this
        omega
      rw [rwF_end hge, List.append_nil] at inv
      refine as_one (as_ret (ae_callT call_tuple_of B.tuple (aa_cons (ae_name 3 rfl (aa_nil (c_tupL put_same ⟨L, hle _, ?_⟩))))))
      rw [inv]
      exact q
end
end K
namespace K
open PySem PySem.Spec PyProof.Rows L2 DL
set_option hygiene false in
local macro_rules | `(tactic| k_get) => `(tactic| first
  | refine ae_name 0 rfl ?_ | refine ae_name 1 rfl ?_ | refine ae_name 2 rfl ?_ | refine ae_name 3 rfl ?_ | refine ae_name 4 rfl ?_ | refine ae_name 5 rfl ?_ | refine ae_name 6 rfl ?_ | refine ae_name 7 rfl ?_ | refine ae_name 8 rfl ?_ | refine ae_name 9 rfl ?_ | refine ae_name 10 rfl ?_ | refine ae_name 11 rfl ?_ | refine ae_name 12 rfl ?_
  | refine ae_int ?_ | refine ae_bl ?_ | refine ae_non ?_ | refine ae_str ?_ | refine ae_tup ?_ | refine ae_lst ?_
  | refine ae_and ?_ | refine ae_or ?_ | refine ae_one ?_ | refine ae_not ?_ | refine ae_neg ?_ | refine ae_ifExp ?_
  | refine ae_eq (u64 hr) ?_ | refine ae_ne (u64 hr) ?_ | refine ae_lt (u64 hr) ?_ | refine ae_le ?_ | refine ae_gt ?_ | refine ae_ge ?_ | refine ae_in (u1 hr) ?_ | refine ae_nin (u1 hr) ?_ | refine ae_is ?_ | refine ae_isn ?_
  | refine ae_lele ?_
  | refine ae_add ?_ | refine ae_sub ?_ | refine ae_mul ?_ | refine ae_mod ?_ | refine ae_div ?_
  | refine ae_slice sl_A ?_ | refine ae_ix (ix_A (u1 hr)) ?_
  | refine ae_c_len B.len ?_ | refine ae_c_int B.int ?_ | refine ae_c_abs B.abs ?_ | refine ae_c_max B.max ?_ | refine ae_c_min B.min ?_ | refine ae_c_isi B.isinstance ?_
  | refine ae_tupL B.tuple (?_ : AL _ (.ListComp _ _ _ _) _ _ _) | refine ae_c_tuple B.tuple ?_ | refine ae_allL B.all ?_ | refine ae_anyL B.any ?_
  | refine ae_call (by assumption) (hr.mono (by omega)) ?_
  | refine ae_append ?_
  | refine ae_bltn (T := "tuple") B.tuple (by decide +kernel) ?_ | refine ae_bltn (T := "str") B.str (by decide +kernel) ?_ | refine ae_bltn (T := "list") B.list (by decide +kernel) ?_ | refine ae_bltn (T := "int") B.int (by decide +kernel) ?_ | refine ae_bltn (T := "bool") B.bool (by decide +kernel) ?_ )
set_option hygiene false in
local macro_rules | `(tactic| k_put) => `(tactic| first
  | refine add_I ?_ | refine add_T ?_ ?_ | refine add_S ?_ ?_ | refine sub_I ?_ | refine eq_I ?_ | refine ne_I ?_ | refine eq_S ?_ | refine ne_S ?_ | refine lt_I ?_ | refine lt_S ?_ | refine le_I ?_ | refine gt_I ?_ | refine ge_I ?_
  | refine isa_N ?_ | refine isnota_N ?_ | refine ixa_T ?_ rfl | refine ixa_N ?_ rfl | refine ixa_R (by assumption) ?_ rfl | refine mod_I ?_ ?_ | refine div_I ?_ ?_ | refine mul_I ?_ ?_ | refine mul_S ?_ ?_ ?_ ?_ | refine in_W (by assumption) ?_ | refine notIn_W (by assumption) ?_ | refine in_sign ?_ | refine in_L (by assumption) ?_ | refine notIn_L (by assumption) ?_ | refine in_T ?_ | refine notIn_T ?_ | refine eq_W0 ?_ | refine eq_W ?_ | refine ne_W ?_ | refine eq_C ?_ | refine ne_C ?_ | refine r_ipI ?_ )
set_option hygiene false in
local macro_rules | `(tactic| k_go) => `(tactic| first
  | (show DL.ASs _ _ _ _ _; first | refine as_one ?_ | refine as_cons ?_ | refine as_nil ?_)
  | (show DL.AS _ _ _ _ _; first | refine as_ret ?_ | refine as_if ?_ | refine as_expr ?_ | refine as_set 0 ?_ | refine as_set 1 ?_ | refine as_set 2 ?_ | refine as_set 3 ?_ | refine as_set 4 ?_ | refine as_set 5 ?_ | refine as_set 6 ?_ | refine as_set 7 ?_ | refine as_set 8 ?_ | refine as_set 9 ?_ | refine as_set 10 ?_ | refine as_set 11 ?_ | refine as_aug 0 ip_add rfl ?_ | refine as_aug 1 ip_add rfl ?_ | refine as_aug 2 ip_add rfl ?_ | refine as_aug 3 ip_add rfl ?_ | refine as_aug 4 ip_add rfl ?_ | refine as_aug 5 ip_add rfl ?_ | refine as_aug 6 ip_add rfl ?_ | refine as_retN ?_ | refine as_pass ?_ | refine as_break ?_ | refine as_continue ?_)
  | (show AE _ _ _ _ _; k_get)
  | (show AT _ _ _ _ _; first | refine at_w (?_ : AW _ (.BoolOp _ _ _) _ _ _) | refine at_not ?_ | refine at_eq (u64 hr) ?_ | refine at_ne (u64 hr) ?_ | refine at_lt (u64 hr) ?_ | refine at_le ?_ | refine at_gt ?_ | refine at_ge ?_ | refine at_in (u1 hr) ?_ | refine at_nin (u1 hr) ?_ | refine at_is ?_ | refine at_isn ?_ | refine at_lele ?_ | refine at_val ?_)
  | (show AW _ _ _ _ _; first | refine aw_and ?_ | refine aw_or ?_ | refine aw_and1 ?_ | refine aw_or1 ?_)
  | (show AA _ _ _ _ _; first | refine aa_cons ?_ | refine aa_nil ?_)
  | (show AO _ _ _ _ _; first | refine ao_some ?_ | refine ao_none ?_)
  | (show L2R _ _ _ _ _ _; k_put)
  | (show LcR _ _ _ _ _; first | refine len_T ?_ | refine len_N ?_ | refine len_S ?_ | refine len_L (by assumption) ?_ | refine len_D (by assumption) ?_ | refine c_intI ?_ | refine c_intB ?_ | refine c_abs ?_ | refine c_max ?_ | refine c_min ?_ | refine c_tupT ?_ | refine lr_tup (by assumption) ?_ | refine isi_tt ?_ | refine isi_ii ?_ | refine isi_ib ?_ | refine isi_ss ?_ | refine isi_is ?_ | refine isi_ts ?_ | refine isi_st ?_ | refine isi_bb ?_)
  | (show LsR _ _ _ _ _ _ _; first | refine sla_T ?_ | refine sla_S ?_)
  | refine ⟨Nat.le_of_ble_eq_true rfl, ?_⟩
  | refine ⟨_, rfl, ?_⟩ | refine ⟨_, _, rfl, ?_⟩ | refine ⟨_, _, _, rfl, ?_⟩ | refine ⟨_, _, _, _, rfl, ?_⟩
  | exact ⟨_, .refl _, q⟩)
set_option hygiene false in
local macro_rules | `(tactic| walk) => `(tactic| repeat k_go)
set_option hygiene false in
local macro_rules | `(tactic| k_few) => `(tactic| first | refine ⟨fun _ => ?_, (fun z => Bool.noConfusion z)⟩ | refine ⟨(fun z => Bool.noConfusion z), fun _ => ?_⟩)
set_option hygiene false in
local macro_rules | `(tactic| k_not) => `(tactic| refine ⟨fun hk => ?_, fun hk => ?_⟩)
section
variable {P : Program} {w : World} {K : PySem.W.Frag} {mg : Str → Option Value} {base : Heap} {f : Addr} {fd : FuncData}
def sp_fits_word : SpA := fun ds L Q _ => ∃ d : D, ds = [d] ∧ okE d = true ∧ Q (.bl (wdD d)) L
theorem ok_fits_word (F : Fun K "_law_fits_word" "_law_fits_word" s__law_fits_word f fd) (hb : Binds K fd ["_law_value"] []) (B : Bl mg) : FnA P w K mg base 1 f sp_fits_word := by
  refine fnA F sc__law_fits_word hb (fun ds L Q R h => ?_) fun cdv A outer s H E ds L Q R hr h => ?_
  · obtain ⟨_, rfl, _⟩ := h; rfl
  · obtain ⟨d, rfl, hd, q⟩ := h
    by_cases hx : ∃ x, d = .str x
    · obtain ⟨x, rfl⟩ := hx
      refine as_cons (as_if (at_w (aw_or (at_not (at_val (ae_callB call_isA B.isinstance (aa_cons (ae_name 0 rfl (aa_cons (ae_bltn (T := "str") B.str (by decide +kernel) (aa_nil (okE_isi hd (kitE_str hd) ⟨true, rfl, (fun z => nomatch z), fun _ => aw_or1 (at_not ?_)⟩))))))))))))
      refine at_chain op_le op_le (ae_int (ae_callB call_len_str B.len (aa_cons (ae_name 0 rfl (aa_nil (c_lenS (r_le ⟨_, rfl, fun h1 => ae_int (r_le ⟨_, rfl, ?_⟩), fun h1 => ?_⟩)))))) ) (pt_chain op_le op_le pe_we pe_we pe_we)
      · have h1' := of_decide_eq_true h1
        refine ⟨fun h2 => as_one (as_ret (ae_bl ⟨L, .refl L, ?_⟩)), fun h2 => as_nil (as_one (as_ret (ae_allLc [("_law_one", 1)] B.all (ai_str (ae_name 0 rfl ⟨x, rfl, fun hx => ⟨fun d => match d with | .str z => decide (z.cps.toList.headD 0 ∈ abc) | _ => false, trivial, ?_, each1 (fun j hj => hj) (fun i d hd s H Cc cl fp => ⟨ag_name 1, fun Q q => ?_⟩), L, .refl L, ?_⟩⟩)))))⟩
        · have e : wdD (.str x) = false := by
            show wdS x = false
            unfold wdS
            have : ¬ (x.length : Int) ≤ 8 := by simpa using h2
            rw [decide_eq_false (by omega : ¬ x.length ≤ 8), Bool.and_false]
            rfl
          rw [e] at q
          exact q
        · rw [signs_len]; exact hx.len
        · obtain ⟨k, hk, rfl⟩ := signs_get hd
          exact ae_cmp op_in_sign rfl (ae_name 1 rfl (ae_str (r_inSign q) (hz := ⟨by decide +kernel, by decide +kernel⟩)))
        · have e : wdD (.str x) = (DL.sgnsOf x).all fun d => match d with | .str z => decide (z.cps.toList.headD 0 ∈ abc) | _ => false := by
            show wdS x = _
            unfold wdS
            have h8 : (x.length : Int) ≤ 8 := by simpa using h2
            rw [decide_eq_true (by omega : 1 ≤ x.length), decide_eq_true (by omega : x.length ≤ 8)]
            unfold DL.sgnsOf
            rw [List.all_map]
            rfl
          rw [e] at q
          exact q
      · refine ⟨fun _ => as_one (as_ret (ae_bl ⟨L, .refl L, ?_⟩)), (fun z => nomatch z)⟩
        have e : wdD (.str x) = false := by
          show wdS x = false
          unfold wdS
          have : ¬ (1 : Int) ≤ (x.length : Int) := of_decide_eq_false h1
          rw [decide_eq_false (by omega : ¬ 1 ≤ x.length)]
          rfl
        rw [e] at q
        exact q
    · have e : wdD d = false := by
        cases d <;> first | rfl | exact absurd ⟨_, rfl⟩ hx
      have hk : kitB (tyD d) "str" = some false := by
        rw [kitE_str hd]
        cases d <;> first | rfl | exact absurd ⟨_, rfl⟩ hx
      rw [e] at q
      exact as_cons (as_if (at_w (aw_or (at_not (at_val (ae_callB call_isA B.isinstance (aa_cons (ae_name 0 rfl (aa_cons (ae_bltn (T := "str") B.str (by decide +kernel) (aa_nil (okE_isi hd hk ⟨false, rfl, fun _ => ⟨fun _ => as_one (as_ret (ae_bl ⟨L, .refl L, q⟩)), (fun z => nomatch z)⟩, (fun z => nomatch z)⟩))))))))))))
def sp_made : SpA := fun ds L Q _ => ∃ (rss : List Rl) (ws : List Wd), ds = [.tup (rss.map dR), dW ws] ∧ (∀ rs ∈ rss, RuOk rs) ∧ rss.length ≤ 10 ∧ ws.length * 2 ^ rss.length ≤ 1000000 ∧ Q (dC (rwAll rss (ws.map fun w => [w]))) L
theorem ok_made (F : Fun K "_law_made" "_law_made" s__law_made f fd) (hb : Binds K fd ["_law_side_here", "_law_text_here"] []) (B : Bl mg) (d1 : Def P w K mg base "_law_written" 1 sp_lwritten) : FnA P w K mg base 2 f sp_made := by
  refine fnA F sc__law_made hb (fun ds L Q R h => ?_) fun cdv A outer s H E ds L Q R hr h => ?_
  · obtain ⟨_, _, rfl, _⟩ := h; rfl
  · obtain ⟨rss, ws, rfl, hR, hl, hz, q⟩ := h
    refine as_cons (as_set 2 (ae_tupLc [("_law_word_here", 3)] B.tuple (ai_tup (ae_name 1 rfl ⟨_, rfl, fun hz2 => ⟨fun d => .tup [d], trivial, hz2, each1 (fun j hj => hj) (fun i d hd s H Cc cl fp => ⟨ag_name 3, fun Q q => ae_tup (aa_cons (ae_name 3 rfl (aa_nil ⟨by show 1 ≤ sizeLine; decide, q⟩)))⟩), ?_⟩⟩))))
    have e0 : (ws.map D.str).map (fun d => D.tup [d]) = (ws.map fun w => [w]).map dW := by
      rw [List.map_map, List.map_map]
      rfl
    rw [e0]
    refine as_cons (as_for (ai_tup (ae_name 0 rfl ⟨_, rfl, fun hz2 => ?_⟩)))
    refine ⟨fun i Γ2 L2 => L2 = L ∧ ∃ x y, Γ2 = [some (.tup (rss.map dR)), some (dW ws), some (dC (rwAll (rss.take i) (ws.map fun w => [w]))), x, y], ⟨rfl, none, none, rfl⟩, fun _ _ _ _ => trivial, ?_, ?_⟩
    · rintro i d Γ2 L2 hd ⟨rfl, x, y, rfl⟩
      rw [List.getElem?_map] at hd
      cases e : rss[i]? with
      | none => rw [e] at hd; cases hd
      | some rs =>
        rw [e] at hd
        cases hd
        have hi := (List.getElem?_eq_some_iff.mp e).1
        have hcl : (rwAll (rss.take i) (ws.map fun w => [w])).length ≤ 1000000 := by
          have h1 := rwAll_len (rss.take i) (ws.map fun w => [w]) fun rs hrs => (hR rs (List.mem_of_mem_take hrs)).r2
          rw [List.length_map, List.length_take, Nat.min_eq_left (Nat.le_of_lt hi)] at h1
          have h2 : 2 ^ i ≤ 2 ^ rss.length := Nat.pow_le_pow_right (by decide) (Nat.le_of_lt hi)
          have h3 : ws.length * 2 ^ i ≤ ws.length * 2 ^ rss.length := Nat.mul_le_mul_left _ h2
          omega
        refine ⟨_, _, ag_name 4, as_one (as_set 2 (ae_call d1 (hr.mono (by omega)) (aa_cons (ae_name 4 rfl (aa_cons (ae_name 2 rfl (aa_nil ⟨rs, _, rfl, hR rs (List.mem_of_getElem? e), hcl, rfl, x, some (dR rs), ?_⟩)))))))⟩
        rw [List.take_add_one, e]
        show _ = [some (D.tup (rss.map dR)), some (dW ws), some (dC (rwAll (rss.take i ++ [rs]) _)), _, _]
        rw [rwAll_snoc]
        rfl
    · rintro Γ2 L2 ⟨rfl, x, y, rfl⟩
      rw [List.length_map, List.take_length]
      exact as_one (as_ret (ae_name 2 rfl ⟨L2, .refl L2, q⟩))
/-- a tuple's items -/
def tl : D → Nat
  | .tup ds => ds.length
  | _ => 0
def sp_fits_words : SpA := fun ds L Q _ => ∃ (d : D) (a b : Nat), ds = [d, .int a, .int b] ∧ okE d = true ∧ tl d ≤ b ∧ a = 0 ∧ Q (.bl (txD d)) L
theorem ok_fits_words (F : Fun K "_law_fits_words" "_law_fits_words" s__law_fits_words f fd) (hb : Binds K fd ["_law_value", "_law_least", "_law_most"] []) (B : Bl mg) (d1 : Def P w K mg base "_law_fits_word" 1 sp_fits_word) : FnA P w K mg base 2 f sp_fits_words := by
  refine fnA F sc__law_fits_words hb (fun ds L Q R h => by obtain ⟨_, _, _, rfl, _⟩ := h; rfl) fun cdv A outer s H E ds L Q R hr h => ?_
  obtain ⟨d, a, b, rfl, hd, hl, rfl, q⟩ := h
  refine as_one (as_ret (ae_and (ae_callB call_isA B.isinstance (aa_cons (ae_name 0 rfl (aa_cons (ae_bltn (T := "tuple") B.tuple (by decide +kernel) (aa_nil (okE_isi hd (kitE_tup hd) ?_)))))))))
  cases d with
  | tup ds =>
    rw [okE] at hd
    have hl : ds.length ≤ b := hl
    refine ⟨_, rfl, fun _ => ?_, (fun z => nomatch z)⟩
    walk
    rw [decide_eq_true (by omega : ((0 : Nat) : Int) ≤ (ds.length : Int))]
    k_few
    walk
    rw [decide_eq_true (by omega : (ds.length : Int) ≤ (b : Int))]
    k_few
    refine ae_one (ae_allLc [("_law_one", 3)] B.all (ai_tup (ae_name 0 rfl ⟨_, rfl, fun hz => ⟨wdD, trivial, hz, each1 (fun j hj => hj) (fun i d hi s H Cc cl fp => ⟨ag_name 3, fun Q q => ae_call d1 (hr.mono (by omega)) (aa_cons (ae_name 3 rfl (aa_nil ⟨d, rfl, okEs_get hd hi, q⟩)))⟩), L, .refl L, q⟩⟩)))
  | _ => exact ⟨_, rfl, (fun z => nomatch z), fun _ => ⟨L, .refl L, q⟩⟩
/-- small words in a tuple -/
theorem asc_wd {x : Str} (h : wdS x = true) : asc x = true := by
  unfold wdS at h
  simp only [Bool.and_eq_true] at h
  unfold asc
  refine List.all_eq_true.mpr fun c hc => decide_eq_true ?_
  have h1 := List.all_eq_true.mp h.2 c hc
  have h2 : c ∈ abc := of_decide_eq_true h1
  revert h2
  have : ∀ c ∈ abc, c < 128 := by decide
  exact this c
def sp_text : SpA := fun ds L Q _ => ∃ (p nl : Addr) (mo : MO) (k m : Nat) (ys : List Str), ds = [.ptr p, .ptr nl, .int m] ∧ L p = some mo ∧ isPot k mo ∧ k ≤ 20000 ∧ m ≤ 10 ∧ NmOk L p nl ys ∧ ∀ (zs : List Wd) mo', (∀ x ∈ zs, wdS x = true) → zs.length ≤ m → isPot (k + 60) mo' → Q (dW zs) (put L p mo')
theorem ok_text (F : Fun K "_law_text" "_law_text" s__law_text f fd) (hb : Binds K fd ["_law_pot_here", "_law_names_here", "_law_most"] []) (B : Bl mg) (d1 : Def P w K mg base "_law_take" 1 sp_take) (d2 : Def P w K mg base "_law_of" 2 sp_of) (d3 : Def P w K mg base "_law_word" 3 sp_word) : FnA P w K mg base 4 f sp_text := by
  refine fnA F sc__law_text hb (fun ds L Q R h => by obtain ⟨_, _, _, _, _, _, rfl, _⟩ := h; rfl) fun cdv A outer s H E ds L Q R hr h => ?_
  obtain ⟨p, nl, mo, k, m, ys, rfl, hp, hpot, hk, hm, hn, q⟩ := h
  refine as_cons (as_setLc 3 [("_law_lap", 4)] (ai_range1 B.range ?_))
  walk
  refine ⟨p, mo, k, m + 1, rfl, hp, hpot, by omega, by omega, by omega, fun n mo1 hn1 h1 => ?_⟩
  walk
  refine ⟨by omega, by omega, ?_⟩
  rw [show ((n : Int)).toNat = n by omega]
  refine ⟨fun t acc L2 => ∃ (xs : List Str) (mo2 : MO), acc = xs.map D.str ∧ xs.length = t ∧ (∀ x ∈ xs, x ∈ ys) ∧ L2 = put L p mo2 ∧ isPot (k + 1 + t) mo2, ⟨[], mo1, rfl, rfl, (fun x hx => nomatch hx), rfl, h1⟩, fun _ _ _ _ => trivial, ?_, ?_⟩
  · rintro t d acc L2 hd ⟨xs, mo2, rfl, hxs, hx, rfl, h2⟩
    have ht := (rangeD_inv hd).1
    refine ⟨_, _, fun j hj => hj, fun s H Cc cl fp => ⟨ag_name 4, ats_nil ⟨fun _ s H Cc cl fp => ?_, (fun z => nomatch z)⟩⟩⟩
    refine ae_call d2 (hr.mono (by omega)) (aa_cons (ae_name 0 rfl (aa_cons (ae_name 1 rfl (aa_nil ⟨p, nl, mo2, k + 1 + t, _, rfl, put_same, h2, by omega, (hn.put mo2).at_, hn.ne, by rw [List.length_map]; exact hn.lo, by rw [List.length_map]; exact Nat.le_trans hn.hi (by decide), fun d mo3 hd h3 => ?_⟩)))))
    obtain ⟨x, hxy, rfl⟩ := mem_strs hd
    rw [put_put]
    refine ⟨by rw [List.length_map, sl_eq]; omega, xs ++ [x], mo3, by rw [List.map_append]; rfl, by rw [List.length_append, hxs]; rfl, fun z hz => ?_, rfl, h3.mono (by omega)⟩
    rcases List.mem_append.mp hz with z1 | z1
    · exact hx z z1
    · rw [List.mem_singleton.mp z1]; exact hxy
  rintro acc L2 ⟨xs, mo2, rfl, hxs, hx, rfl, h2⟩ sl hsl
  rw [rangeD_len] at hxs h2
  have hsp : sl ≠ p := fresh_ne hsl
  have hwd : ∀ x ∈ xs, wdS x = true := fun x h => hn.wd x (hx x h)
  refine as_cons (as_if (at_w (aw_and (at_cmpJ (ae_name 3 rfl (ae_lst (aa_nil ⟨Nat.zero_le _, fun l1 hl1 => OpJ.of (t := .cmp .NotEq) (op_neA (u64 hr)) (ne_LL (α := Str) (xs := xs) (ys := []) (.st ?_) (.st put_same) ⟨_, rfl, ?_⟩)⟩)))))))
  · rw [put_ne (ne_of_free put_same hl1)]; exact put_same
  have fin : ∀ (zs : List Str) (mo3 : MO) (L6 : Lp) (g : Option D), (∀ x ∈ zs, wdS x = true) → zs.length ≤ m → isPot (k + 60) mo3 → Le (put L p mo3) L6 → L6 sl = some (.lst (zs.map D.str)) → ASs (fctx P w K mg base ["_law_pot_here", "_law_names_here", "_law_most", "_law_found", "_law_lap"] "_law_text" (defScope s__law_text) f cdv A outer s H E sc__law_text.nd R) ((defBody s__law_text).drop 2) [some (.ptr p), some (.ptr nl), some (.int m), some (.ptr sl), g] L6 (endsOf Q) := fun zs mo3 L6 g hz hl hp3 le hs => by
    refine as_one (as_ret (ae_callT call_tuple_of B.tuple (aa_cons (ae_name 3 rfl (aa_nil (c_tupL hs ⟨_, le, q zs mo3 hz hl hp3⟩))))))
  have le1 : Le (put L p mo2) (put (put (put L p mo2) sl (.lst (xs.map D.str))) l1 (.lst ([] : List D))) := (le_put hsl).trans (le_put hl1)
  have hs1 : put (put (put L p mo2) sl (.lst (xs.map D.str))) l1 (.lst ([] : List D)) sl = some (.lst (xs.map D.str)) := by rw [put_ne (ne_of_free put_same hl1)]; exact put_same
  refine ⟨fun hne => ?_, fun _ => ?_⟩
  · have hne : xs ≠ [] := fun e => by rw [e] at hne; revert hne; decide
    have hpos : 0 < xs.length := List.length_pos_iff.mpr hne
    generalize hL6 : put (put (put L p mo2) sl (.lst (xs.map D.str))) l1 (.lst ([] : List D)) = L6 at le1 hs1 ⊢
    have hp6 : L6 p = some mo2 := le1 _ _ put_same
    have hle6 : ∀ mo, Le (put L p mo) (put L6 p mo) := fun mo a o e => by
      by_cases z : a = p
      · rw [z, put_same] at e ⊢; exact e
      · rw [put_ne z] at e ⊢
        exact le1 a o (by rw [put_ne z]; exact e)
    have hs6 : ∀ mo, put L6 p mo sl = some (.lst (xs.map D.str)) := fun mo => by rw [put_ne hsp]; exact hs1
    refine aw_and1 ?_
    walk
    refine ⟨p, mo2, k + 1 + n, 6, rfl, hp6, h2, by omega, by omega, by omega, fun j mo3 hj h3 => ?_⟩
    walk
    k_not
    · refine as_one (as_sub set_list ?_)
      walk
      refine ⟨p, mo3, k + 1 + n + 1, rfl, put_same, h3, by omega, fun x mo4 hxw h4 => ?_⟩
      rw [put_put]
      have hlr : LR (put L6 p mo4) (.ptr sl) (xs.map D.str) := .st (hs6 mo4)
      walk
      rw [List.length_map]
      refine ⟨p, mo4, k + 1 + n + 1 + 20, xs.length, rfl, put_same, h4, by omega, by omega, by omega, fun i mo5 hi h5 => ?_⟩
      rw [put_put]
      refine w_list (j := i) (hs6 mo5) ?_ ?_
      · rw [List.length_map]
        unfold ixN
        rw [if_pos (by omega)]
        simp [hi]
      · have e : (xs.map D.str).set i (.str x) = (xs.set i x).map D.str := by rw [List.map_set]
        rw [e]
        refine fin (xs.set i x) mo5 _ _ (fun z hz => ?_) (by rw [List.length_set]; omega) (h5.mono (by omega)) (fun a o ea => ?_) put_same
        · rcases List.mem_or_eq_of_mem_set hz with h | h
          · exact hwd z h
          · rw [h]; exact hxw
        · by_cases z : a = sl
          · rw [z] at ea
            have : put L p mo5 sl = none := by rw [put_ne hsp]; rw [put_ne hsp] at hsl; exact hsl
            rw [this] at ea
            cases ea
          · rw [put_ne z]
            exact hle6 mo5 a o ea
    · exact as_nil (fin xs mo3 _ _ hwd (by omega) (h3.mono (by omega)) (hle6 mo3) (hs6 mo3))
  · k_few
    exact as_nil (fin xs mo2 _ _ hwd (by omega) (h2.mono (by omega)) le1 hs1)
end
end K
namespace K
open PySem PySem.Spec PyProof.Rows L2 DL
set_option hygiene false in
local macro_rules | `(tactic| k_get) => `(tactic| first
  | refine ae_name 0 rfl ?_ | refine ae_name 1 rfl ?_ | refine ae_name 2 rfl ?_ | refine ae_name 3 rfl ?_ | refine ae_name 4 rfl ?_ | refine ae_name 5 rfl ?_ | refine ae_name 6 rfl ?_ | refine ae_name 7 rfl ?_ | refine ae_name 8 rfl ?_ | refine ae_name 9 rfl ?_ | refine ae_name 10 rfl ?_ | refine ae_name 11 rfl ?_ | refine ae_name 12 rfl ?_
  | refine ae_int ?_ | refine ae_bl ?_ | refine ae_non ?_ | refine ae_str ?_ | refine ae_tup ?_ | refine ae_lst ?_
  | refine ae_and ?_ | refine ae_or ?_ | refine ae_one ?_ | refine ae_not ?_ | refine ae_neg ?_ | refine ae_ifExp ?_
  | refine ae_eq (u64 hr) ?_ | refine ae_ne (u64 hr) ?_ | refine ae_lt (u64 hr) ?_ | refine ae_le ?_ | refine ae_gt ?_ | refine ae_ge ?_ | refine ae_in (u1 hr) ?_ | refine ae_nin (u1 hr) ?_ | refine ae_is ?_ | refine ae_isn ?_
  | refine ae_lele ?_
  | refine ae_add ?_ | refine ae_sub ?_ | refine ae_mul ?_ | refine ae_mod ?_ | refine ae_div ?_
  | refine ae_slice sl_A ?_ | refine ae_ix (ix_A (u1 hr)) ?_
  | refine ae_c_len B.len ?_ | refine ae_c_int B.int ?_ | refine ae_c_abs B.abs ?_ | refine ae_c_max B.max ?_ | refine ae_c_min B.min ?_ | refine ae_c_isi B.isinstance ?_
  | refine ae_tupL B.tuple (?_ : AL _ (.ListComp _ _ _ _) _ _ _) | refine ae_c_tuple B.tuple ?_ | refine ae_allL B.all ?_ | refine ae_anyL B.any ?_
  | refine ae_call (by assumption) (hr.mono (by omega)) ?_
  | refine ae_append ?_
  | refine ae_bltn (T := "tuple") B.tuple (by decide +kernel) ?_ | refine ae_bltn (T := "str") B.str (by decide +kernel) ?_ | refine ae_bltn (T := "list") B.list (by decide +kernel) ?_ | refine ae_bltn (T := "int") B.int (by decide +kernel) ?_ | refine ae_bltn (T := "bool") B.bool (by decide +kernel) ?_ )
set_option hygiene false in
local macro_rules | `(tactic| k_put) => `(tactic| first
  | refine add_I ?_ | refine add_T ?_ ?_ | refine add_S ?_ ?_ | refine sub_I ?_ | refine eq_I ?_ | refine ne_I ?_ | refine eq_S ?_ | refine ne_S ?_ | refine lt_I ?_ | refine lt_S ?_ | refine le_I ?_ | refine gt_I ?_ | refine ge_I ?_
  | refine isa_N ?_ | refine isnota_N ?_ | refine ixa_T ?_ rfl | refine ixa_N ?_ rfl | refine ixa_R (by assumption) ?_ rfl | refine mod_I ?_ ?_ | refine div_I ?_ ?_ | refine mul_I ?_ ?_ | refine mul_S ?_ ?_ ?_ ?_ | refine in_W (by assumption) ?_ | refine notIn_W (by assumption) ?_ | refine in_sign ?_ | refine in_L (by assumption) ?_ | refine notIn_L (by assumption) ?_ | refine in_T ?_ | refine notIn_T ?_ | refine eq_W0 ?_ | refine eq_W ?_ | refine ne_W ?_ | refine eq_C ?_ | refine ne_C ?_ | refine r_ipI ?_ )
set_option hygiene false in
local macro_rules | `(tactic| k_go) => `(tactic| first
  | (show DL.ASs _ _ _ _ _; first | refine as_one ?_ | refine as_cons ?_ | refine as_nil ?_)
  | (show DL.AS _ _ _ _ _; first | refine as_ret ?_ | refine as_if ?_ | refine as_expr ?_ | refine as_set 0 ?_ | refine as_set 1 ?_ | refine as_set 2 ?_ | refine as_set 3 ?_ | refine as_set 4 ?_ | refine as_set 5 ?_ | refine as_set 6 ?_ | refine as_set 7 ?_ | refine as_set 8 ?_ | refine as_set 9 ?_ | refine as_set 10 ?_ | refine as_set 11 ?_ | refine as_aug 0 ip_add rfl ?_ | refine as_aug 1 ip_add rfl ?_ | refine as_aug 2 ip_add rfl ?_ | refine as_aug 3 ip_add rfl ?_ | refine as_aug 4 ip_add rfl ?_ | refine as_aug 5 ip_add rfl ?_ | refine as_aug 6 ip_add rfl ?_ | refine as_retN ?_ | refine as_pass ?_ | refine as_break ?_ | refine as_continue ?_)
  | (show AE _ _ _ _ _; k_get)
  | (show AT _ _ _ _ _; first | refine at_w (?_ : AW _ (.BoolOp _ _ _) _ _ _) | refine at_not ?_ | refine at_eq (u64 hr) ?_ | refine at_ne (u64 hr) ?_ | refine at_lt (u64 hr) ?_ | refine at_le ?_ | refine at_gt ?_ | refine at_ge ?_ | refine at_in (u1 hr) ?_ | refine at_nin (u1 hr) ?_ | refine at_is ?_ | refine at_isn ?_ | refine at_lele ?_ | refine at_val ?_)
  | (show AW _ _ _ _ _; first | refine aw_and ?_ | refine aw_or ?_ | refine aw_and1 ?_ | refine aw_or1 ?_)
  | (show AA _ _ _ _ _; first | refine aa_cons ?_ | refine aa_nil ?_)
  | (show AO _ _ _ _ _; first | refine ao_some ?_ | refine ao_none ?_)
  | (show L2R _ _ _ _ _ _; k_put)
  | (show LcR _ _ _ _ _; first | refine len_T ?_ | refine len_N ?_ | refine len_S ?_ | refine len_L (by assumption) ?_ | refine len_D (by assumption) ?_ | refine c_intI ?_ | refine c_intB ?_ | refine c_abs ?_ | refine c_max ?_ | refine c_min ?_ | refine c_tupT ?_ | refine lr_tup (by assumption) ?_ | refine isi_tt ?_ | refine isi_ii ?_ | refine isi_ib ?_ | refine isi_ss ?_ | refine isi_is ?_ | refine isi_ts ?_ | refine isi_st ?_ | refine isi_bb ?_)
  | (show LsR _ _ _ _ _ _ _; first | refine sla_T ?_ | refine sla_S ?_)
  | refine ⟨Nat.le_of_ble_eq_true rfl, ?_⟩
  | refine ⟨_, rfl, ?_⟩ | refine ⟨_, _, rfl, ?_⟩ | refine ⟨_, _, _, rfl, ?_⟩ | refine ⟨_, _, _, _, rfl, ?_⟩
  | exact ⟨_, .refl _, q⟩)
set_option hygiene false in
local macro_rules | `(tactic| walk) => `(tactic| repeat k_go)
set_option hygiene false in
local macro_rules | `(tactic| k_few) => `(tactic| first | refine ⟨fun _ => ?_, (fun z => Bool.noConfusion z)⟩ | refine ⟨(fun z => Bool.noConfusion z), fun _ => ?_⟩)
set_option hygiene false in
local macro_rules | `(tactic| k_not) => `(tactic| refine ⟨fun hk => ?_, fun hk => ?_⟩)
theorem cp9 : CPow 10 9 := ⟨by decide, by decide, by decide⟩
set_option hygiene false in
local macro_rules | `(tactic| k_not) => `(tactic| repeat (first
  | refine aa_nil ?_ | refine aa_cons (ae_non ?_) | refine aa_cons (ae_bl ?_) | refine aa_cons (ae_int ?_) | refine aa_cons (ae_str ?_) | refine aa_cons (ae_neg (ae_int ⟨_, rfl, ?_⟩)) | refine aa_cons (ae_bin op_sub (ae_bin op_pow (ae_int (ae_int (r_pow cp9 (ae_int (r_sub ?_))))))) | refine aa_cons (ae_tup ?_) | refine aa_cons (ae_flst (al_disp ?_)) | refine aa_cons (ae_kd0 ?_) | refine aa_cons (ae_kd1 ?_) | refine ⟨Nat.le_of_ble_eq_true rfl, ?_⟩))
/-- the odd things -/
def odd1 : List D := [.non, .bl true, .bl false, .int 0, .int 1, .int (-1), .int 999999999, .str "", .str "A", .str "a1", .str "a b", .str "abcdefghi", .str "_", .str "a", .tup [], .tup [.int 1], .tup [.non]]
def odd2 : List D := [.tup [.tup []], .tup [.bl true, .str "a"], .flst [], .flst [.str "a"], .kdct [], .kdct [(.inr "a", .int 1)], .tup [.str "a", .str "a"], .tup [.str "b", .str "a"], .tup [.tup [.str "a"]], .tup [.str "a", .str ""], .tup [.str "A"]]
def odd3 : List D := [.tup [.str "a", .str "b", .str "c", .str "d"], .tup [.str "a", .str "b", .str "c"], .flst [.tup [.str "a"]], .tup [.flst [.str "a"]], .str "*", .str "(a & b)", .tup [.tup [.tup [.str "a"], .tup [.tup [.str "a"]]]]]
def vdB (d : D) : Bool := shw d && decide ((pyE d).depth ≤ 4) && decide ((pyE d).bulk ≤ 20) && decide (tl d ≤ 4)
theorem odd_vd : ∀ d ∈ (odd1 ++ odd2) ++ odd3, vdB d = true := by decide +kernel
section
variable {P : Program} {w : World} {K : PySem.W.Frag} {mg : Str → Option Value} {base : Heap} {f : Addr} {fd : FuncData}
def sp_odd : SpA := fun ds L Q _ => ∃ (p : Addr) (mo : MO) (k : Nat), ds = [.ptr p] ∧ L p = some mo ∧ isPot k mo ∧ k ≤ 20000 ∧ ∀ d mo', Vd 4 20 d → tl d ≤ 4 → isPot (k + 1) mo' → Q d (put L p mo')
theorem ok_odd (F : Fun K "_law_odd" "_law_odd" s__law_odd f fd) (hb : Binds K fd ["_law_pot_here"] []) (B : Bl mg) (d1 : Def P w K mg base "_law_of" 2 sp_of) : FnA P w K mg base 3 f sp_odd := by
  refine fnA F sc__law_odd hb (fun ds L Q R h => by obtain ⟨_, _, _, rfl, _⟩ := h; rfl) fun cdv A outer s H E ds L Q R hr h => ?_
  obtain ⟨p, mo, k, rfl, hp, hpot, hk, q⟩ := h
  refine as_cons (as_set 1 (ae_lst ?_))
  k_not
  intro l1 hl1
  show ASs _ _ _ (put L l1 (.lst odd1)) _
  refine as_cons (as_set 1 (ae_add (ae_name 1 rfl (ae_lst ?_))))
  k_not
  intro l2 hl2
  show L2R _ _ _ _ (put (put L l1 (.lst odd1)) l2 (.lst odd2)) _
  have n12 : l1 ≠ l2 := ne_of_free put_same hl2
  refine add_L (xs := odd1) (ys := odd2) (by rw [put_ne n12]; exact put_same) put_same (fun l3 hl3 => ?_) (by decide)
  refine as_cons (as_set 1 (ae_add (ae_name 1 rfl (ae_lst ?_))))
  k_not
  intro l4 hl4
  show L2R _ _ _ _ (put (put (put (put L l1 (.lst odd1)) l2 (.lst odd2)) l3 (.lst (odd1 ++ odd2))) l4 (.lst odd3)) _
  have n34 : l3 ≠ l4 := ne_of_free put_same hl4
  refine add_L (xs := odd1 ++ odd2) (ys := odd3) (by rw [put_ne n34]; exact put_same) put_same (fun l5 hl5 => ?_) (by decide)
  have le : Le L (put (put (put (put (put L l1 (.lst odd1)) l2 (.lst odd2)) l3 (.lst (odd1 ++ odd2))) l4 (.lst odd3)) l5 (.lst ((odd1 ++ odd2) ++ odd3))) := (le_put hl1).trans ((le_put hl2).trans ((le_put hl3).trans ((le_put hl4).trans (le_put hl5))))
  have h5 : put (put (put (put (put L l1 (.lst odd1)) l2 (.lst odd2)) l3 (.lst (odd1 ++ odd2))) l4 (.lst odd3)) l5 (.lst ((odd1 ++ odd2) ++ odd3)) l5 = some (.lst ((odd1 ++ odd2) ++ odd3)) := put_same
  generalize put (put (put (put (put L l1 (.lst odd1)) l2 (.lst odd2)) l3 (.lst (odd1 ++ odd2))) l4 (.lst odd3)) l5 (.lst ((odd1 ++ odd2) ++ odd3)) = L6 at le h5 ⊢
  have hp6 := le _ _ hp
  have np : l5 ≠ p := fun e => by
    rw [e, hp6] at h5
    cases h5
    obtain ⟨_, _, _, z, _⟩ := hpot
    have := congrArg (fun m => match m with | MO.lst xs => xs.length | _ => 0) z
    have e3 : ((odd1 ++ odd2) ++ odd3).length = 3 := this
    exact absurd e3 (by decide)
  refine as_one (as_ret (ae_call d1 (hr.mono (by omega)) (aa_cons (ae_name 0 rfl (aa_cons (ae_name 1 rfl (aa_nil ⟨p, l5, mo, k, (odd1 ++ odd2) ++ odd3, rfl, hp6, hpot, by omega, h5, np, by decide, by decide, fun d mo' hd h' => ⟨put L p mo', le_put2 le p mo', ?_⟩⟩)))))))
  have hv := odd_vd d hd
  unfold vdB at hv
  rw [Bool.and_eq_true, Bool.and_eq_true, Bool.and_eq_true] at hv
  exact q d mo' ⟨hv.1.1.1, of_decide_eq_true hv.1.1.2, of_decide_eq_true hv.1.2⟩ (of_decide_eq_true hv.2) h'
end
end K
namespace K
open PySem PySem.Spec PyProof.Rows L2 DL
set_option hygiene false in
local macro_rules | `(tactic| k_get) => `(tactic| first
  | refine ae_name 0 rfl ?_ | refine ae_name 1 rfl ?_ | refine ae_name 2 rfl ?_ | refine ae_name 3 rfl ?_ | refine ae_name 4 rfl ?_ | refine ae_name 5 rfl ?_ | refine ae_name 6 rfl ?_ | refine ae_name 7 rfl ?_ | refine ae_name 8 rfl ?_ | refine ae_name 9 rfl ?_ | refine ae_name 10 rfl ?_ | refine ae_name 11 rfl ?_ | refine ae_name 12 rfl ?_
  | refine ae_int ?_ | refine ae_bl ?_ | refine ae_non ?_ | refine ae_str ?_ | refine ae_tup ?_ | refine ae_lst ?_
  | refine ae_and ?_ | refine ae_or ?_ | refine ae_one ?_ | refine ae_not ?_ | refine ae_neg ?_ | refine ae_ifExp ?_
  | refine ae_eq (u64 hr) ?_ | refine ae_ne (u64 hr) ?_ | refine ae_lt (u64 hr) ?_ | refine ae_le ?_ | refine ae_gt ?_ | refine ae_ge ?_ | refine ae_in (u1 hr) ?_ | refine ae_nin (u1 hr) ?_ | refine ae_is ?_ | refine ae_isn ?_
  | refine ae_lele ?_
  | refine ae_add ?_ | refine ae_sub ?_ | refine ae_mul ?_ | refine ae_mod ?_ | refine ae_div ?_
  | refine ae_slice sl_A ?_ | refine ae_ix (ix_A (u1 hr)) ?_
  | refine ae_c_len B.len ?_ | refine ae_c_int B.int ?_ | refine ae_c_abs B.abs ?_ | refine ae_c_max B.max ?_ | refine ae_c_min B.min ?_ | refine ae_c_isi B.isinstance ?_
  | refine ae_tupL B.tuple (?_ : AL _ (.ListComp _ _ _ _) _ _ _) | refine ae_c_tuple B.tuple ?_ | refine ae_allL B.all ?_ | refine ae_anyL B.any ?_
  | refine ae_call (by assumption) (hr.mono (by omega)) ?_
  | refine ae_append ?_
  | refine ae_bltn (T := "tuple") B.tuple (by decide +kernel) ?_ | refine ae_bltn (T := "str") B.str (by decide +kernel) ?_ | refine ae_bltn (T := "list") B.list (by decide +kernel) ?_ | refine ae_bltn (T := "int") B.int (by decide +kernel) ?_ | refine ae_bltn (T := "bool") B.bool (by decide +kernel) ?_ )
set_option hygiene false in
local macro_rules | `(tactic| k_put) => `(tactic| first
  | refine add_I ?_ | refine add_T ?_ ?_ | refine add_S ?_ ?_ | refine sub_I ?_ | refine eq_I ?_ | refine ne_I ?_ | refine eq_S ?_ | refine ne_S ?_ | refine lt_I ?_ | refine lt_S ?_ | refine le_I ?_ | refine gt_I ?_ | refine ge_I ?_
  | refine isa_N ?_ | refine isnota_N ?_ | refine ixa_T ?_ rfl | refine ixa_N ?_ rfl | refine ixa_R (by assumption) ?_ rfl | refine mod_I ?_ ?_ | refine div_I ?_ ?_ | refine mul_I ?_ ?_ | refine mul_S ?_ ?_ ?_ ?_ | refine in_W (by assumption) ?_ | refine notIn_W (by assumption) ?_ | refine in_sign ?_ | refine in_L (by assumption) ?_ | refine notIn_L (by assumption) ?_ | refine in_T ?_ | refine notIn_T ?_ | refine eq_W0 ?_ | refine eq_W ?_ | refine ne_W ?_ | refine eq_C ?_ | refine ne_C ?_ | refine r_ipI ?_ )
set_option hygiene false in
local macro_rules | `(tactic| k_go) => `(tactic| first
  | (show DL.ASs _ _ _ _ _; first | refine as_one ?_ | refine as_cons ?_ | refine as_nil ?_)
  | (show DL.AS _ _ _ _ _; first | refine as_ret ?_ | refine as_if ?_ | refine as_expr ?_ | refine as_set 0 ?_ | refine as_set 1 ?_ | refine as_set 2 ?_ | refine as_set 3 ?_ | refine as_set 4 ?_ | refine as_set 5 ?_ | refine as_set 6 ?_ | refine as_set 7 ?_ | refine as_set 8 ?_ | refine as_set 9 ?_ | refine as_set 10 ?_ | refine as_set 11 ?_ | refine as_aug 0 ip_add rfl ?_ | refine as_aug 1 ip_add rfl ?_ | refine as_aug 2 ip_add rfl ?_ | refine as_aug 3 ip_add rfl ?_ | refine as_aug 4 ip_add rfl ?_ | refine as_aug 5 ip_add rfl ?_ | refine as_aug 6 ip_add rfl ?_ | refine as_retN ?_ | refine as_pass ?_ | refine as_break ?_ | refine as_continue ?_)
  | (show AE _ _ _ _ _; k_get)
  | (show AT _ _ _ _ _; first | refine at_w (?_ : AW _ (.BoolOp _ _ _) _ _ _) | refine at_not ?_ | refine at_eq (u64 hr) ?_ | refine at_ne (u64 hr) ?_ | refine at_lt (u64 hr) ?_ | refine at_le ?_ | refine at_gt ?_ | refine at_ge ?_ | refine at_in (u1 hr) ?_ | refine at_nin (u1 hr) ?_ | refine at_is ?_ | refine at_isn ?_ | refine at_lele ?_ | refine at_val ?_)
  | (show AW _ _ _ _ _; first | refine aw_and ?_ | refine aw_or ?_ | refine aw_and1 ?_ | refine aw_or1 ?_)
  | (show AA _ _ _ _ _; first | refine aa_cons ?_ | refine aa_nil ?_)
  | (show AO _ _ _ _ _; first | refine ao_some ?_ | refine ao_none ?_)
  | (show L2R _ _ _ _ _ _; k_put)
  | (show LcR _ _ _ _ _; first | refine len_T ?_ | refine len_N ?_ | refine len_S ?_ | refine len_L (by assumption) ?_ | refine len_D (by assumption) ?_ | refine c_intI ?_ | refine c_intB ?_ | refine c_abs ?_ | refine c_max ?_ | refine c_min ?_ | refine c_tupT ?_ | refine lr_tup (by assumption) ?_ | refine isi_tt ?_ | refine isi_ii ?_ | refine isi_ib ?_ | refine isi_ss ?_ | refine isi_is ?_ | refine isi_ts ?_ | refine isi_st ?_ | refine isi_bb ?_)
  | (show LsR _ _ _ _ _ _ _; first | refine sla_T ?_ | refine sla_S ?_)
  | refine ⟨Nat.le_of_ble_eq_true rfl, ?_⟩
  | refine ⟨_, rfl, ?_⟩ | refine ⟨_, _, rfl, ?_⟩ | refine ⟨_, _, _, rfl, ?_⟩ | refine ⟨_, _, _, _, rfl, ?_⟩
  | exact ⟨_, .refl _, q⟩)
set_option hygiene false in
local macro_rules | `(tactic| walk) => `(tactic| repeat k_go)
set_option hygiene false in
local macro_rules | `(tactic| k_few) => `(tactic| first | refine ⟨fun _ => ?_, (fun z => Bool.noConfusion z)⟩ | refine ⟨(fun z => Bool.noConfusion z), fun _ => ?_⟩)
set_option hygiene false in
local macro_rules | `(tactic| k_not) => `(tactic| refine ⟨fun hk => ?_, fun hk => ?_⟩)
/-- many small things -/
structure Vs (m n : Nat) (ds : List D) : Prop where
  sh : shws ds = true
  dp : PyData.depthAll (pyEs ds) ≤ m
  bk : PyData.bulkAll (pyEs ds) ≤ n
theorem shws_app : ∀ (xs ys : List D), shws (xs ++ ys) = (shws xs && shws ys)
  | [], ys => by rw [List.nil_append, shws, Bool.true_and]
  | x :: xs, ys => by rw [List.cons_append, shws, shws, shws_app xs ys, Bool.and_assoc]
theorem pyEs_app : ∀ (xs ys : List D), pyEs (xs ++ ys) = pyEs xs ++ pyEs ys
  | [], ys => by rw [List.nil_append, pyEs, List.nil_append]
  | x :: xs, ys => by rw [List.cons_append, pyEs, pyEs, pyEs_app xs ys, List.cons_append]
theorem dpA_app : ∀ (xs ys : List PyData), PyData.depthAll (xs ++ ys) = max (PyData.depthAll xs) (PyData.depthAll ys)
  | [], ys => by rw [List.nil_append, PyData.depthAll]; omega
  | x :: xs, ys => by rw [List.cons_append, PyData.depthAll, PyData.depthAll, dpA_app xs ys]; omega
theorem bkA_app : ∀ (xs ys : List PyData), PyData.bulkAll (xs ++ ys) = PyData.bulkAll xs + PyData.bulkAll ys
  | [], ys => by rw [List.nil_append, PyData.bulkAll]; omega
  | x :: xs, ys => by rw [List.cons_append, PyData.bulkAll, PyData.bulkAll, bkA_app xs ys]; omega
theorem Vs.app {m n1 n2 : Nat} {xs ys : List D} (h1 : Vs m n1 xs) (h2 : Vs m n2 ys) : Vs m (n1 + n2) (xs ++ ys) :=
  ⟨by rw [shws_app, h1.sh, h2.sh]; rfl, by rw [pyEs_app, dpA_app]; have := h1.dp; have := h2.dp; omega, by rw [pyEs_app, bkA_app]; have := h1.bk; have := h2.bk; omega⟩
theorem Vs.mono {m n m' n' : Nat} {ds : List D} (h : Vs m n ds) (hm : m ≤ m') (hn : n ≤ n') : Vs m' n' ds := ⟨h.sh, Nat.le_trans h.dp hm, Nat.le_trans h.bk hn⟩
theorem Vs.split {m n : Nat} {xs ys : List D} (h : Vs m n (xs ++ ys)) : ∃ n1 n2, n1 + n2 ≤ n ∧ Vs m n1 xs ∧ Vs m n2 ys := by
  obtain ⟨h1, h2, h3⟩ := h
  rw [shws_app, Bool.and_eq_true] at h1
  rw [pyEs_app, dpA_app] at h2
  rw [pyEs_app, bkA_app] at h3
  exact ⟨_, _, h3, ⟨h1.1, by omega, Nat.le_refl _⟩, ⟨h1.2, by omega, Nat.le_refl _⟩⟩
theorem Vs.nil (m n : Nat) : Vs m n [] := ⟨by rw [shws], by rw [pyEs, PyData.depthAll]; omega, by rw [pyEs, PyData.bulkAll]; omega⟩
theorem Vs.one {m n : Nat} {d : D} (h : Vd m n d) : Vs m (n + 1) [d] := ⟨by rw [shws, shws, h.sh]; rfl, by rw [pyEs, pyEs, PyData.depthAll, PyData.depthAll]; have := h.dp; omega, by rw [pyEs, pyEs, PyData.bulkAll, PyData.bulkAll]; have := h.bk; omega⟩
theorem Vs.of_one {m n : Nat} {d : D} (h : Vs m n [d]) : ∃ n1, n1 + 1 ≤ n ∧ Vd m n1 d := by
  obtain ⟨h1, h2, h3⟩ := h
  rw [shws, Bool.and_eq_true] at h1
  rw [pyEs, pyEs, PyData.depthAll, PyData.depthAll] at h2
  rw [pyEs, pyEs, PyData.bulkAll, PyData.bulkAll] at h3
  exact ⟨_, h3, h1.1, by omega, Nat.le_refl _⟩
theorem Vs.tup {m n : Nat} {ds : List D} (h : Vs m n ds) : Vd (m + 1) n (.tup ds) := ⟨by rw [shw]; exact h.sh, by rw [pyE, PyData.depth]; have := h.dp; omega, by rw [pyE, PyData.bulk]; exact h.bk⟩
theorem Vs.lst {m n : Nat} {ds : List D} (h : Vs m n ds) : Vd (m + 1) n (.flst ds) := ⟨by rw [shw]; exact h.sh, by rw [pyE, PyData.depth]; have := h.dp; omega, by rw [pyE, PyData.bulk]; exact h.bk⟩
theorem Vd.items {m n : Nat} {ds : List D} (h : Vd m n (.tup ds)) : ∃ m', m = m' + 1 ∧ Vs m' n ds := by
  obtain ⟨h1, h2, h3⟩ := h
  rw [shw] at h1
  rw [pyE, PyData.depth] at h2
  rw [pyE, PyData.bulk] at h3
  exact ⟨m - 1, by omega, h1, by omega, h3⟩
theorem Vs.rev : ∀ {m n : Nat} {ds : List D}, Vs m n ds → Vs m n ds.reverse
  | _, _, [], h => h
  | m, n, d :: ds, h => by
    obtain ⟨a, b, hab, h1, h2⟩ := Vs.split (xs := [d]) (ys := ds) h
    rw [List.reverse_cons]
    exact (Vs.app (Vs.rev h2) h1).mono (Nat.le_refl _) (by omega)
theorem Vs.take {m n : Nat} {ds : List D} (i : Nat) (h : Vs m n ds) : Vs m n (ds.take i) := by
  rw [← List.take_append_drop i ds] at h
  obtain ⟨a, b, hab, h1, h2⟩ := h.split
  exact h1.mono (Nat.le_refl _) (by omega)
theorem Vs.drop {m n : Nat} {ds : List D} (i : Nat) (h : Vs m n ds) : Vs m n (ds.drop i) := by
  rw [← List.take_append_drop i ds] at h
  obtain ⟨a, b, hab, h1, h2⟩ := h.split
  exact h2.mono (Nat.le_refl _) (by omega)
theorem vd_str {x : Str} (h : asc x = true) (m : Nat) : Vd m x.length (.str x) := ⟨by rw [shw]; exact h, by rw [pyE, PyData.depth]; omega, by rw [pyE, PyData.bulk]; exact Nat.le_refl _⟩
theorem Vd.asc {m n : Nat} {x : Str} (h : Vd m n (.str x)) : asc x = true ∧ x.length ≤ n := by
  obtain ⟨h1, h2, h3⟩ := h
  rw [shw] at h1
  rw [pyE, PyData.bulk] at h3
  exact ⟨h1, h3⟩
theorem vd_non (m n : Nat) : Vd m n .non := ⟨by rw [shw], by rw [pyE, PyData.depth]; omega, by rw [pyE, PyData.bulk]; omega⟩
theorem asc_app {x y : Str} (h1 : asc x = true) (h2 : asc y = true) : asc (x ++ y) = true := by
  unfold asc at *
  rw [show (x ++ y).cps.toList = x.cps.toList ++ y.cps.toList by show (x.cps ++ y.cps).toList = _; simp, List.all_append, h1, h2]
  rfl
end K
namespace K
open PySem PySem.Spec PyProof.Rows L2 DL
set_option hygiene false in
local macro_rules | `(tactic| k_get) => `(tactic| first
  | refine ae_name 0 rfl ?_ | refine ae_name 1 rfl ?_ | refine ae_name 2 rfl ?_ | refine ae_name 3 rfl ?_ | refine ae_name 4 rfl ?_ | refine ae_name 5 rfl ?_ | refine ae_name 6 rfl ?_ | refine ae_name 7 rfl ?_ | refine ae_name 8 rfl ?_ | refine ae_name 9 rfl ?_ | refine ae_name 10 rfl ?_ | refine ae_name 11 rfl ?_ | refine ae_name 12 rfl ?_
  | refine ae_int ?_ | refine ae_bl ?_ | refine ae_non ?_ | refine ae_str ?_ | refine ae_tup ?_ | refine ae_lst ?_
  | refine ae_and ?_ | refine ae_or ?_ | refine ae_one ?_ | refine ae_not ?_ | refine ae_neg ?_ | refine ae_ifExp ?_
  | refine ae_eq (u64 hr) ?_ | refine ae_ne (u64 hr) ?_ | refine ae_lt (u64 hr) ?_ | refine ae_le ?_ | refine ae_gt ?_ | refine ae_ge ?_ | refine ae_in (u1 hr) ?_ | refine ae_nin (u1 hr) ?_ | refine ae_is ?_ | refine ae_isn ?_
  | refine ae_lele ?_
  | refine ae_add ?_ | refine ae_sub ?_ | refine ae_mul ?_ | refine ae_mod ?_ | refine ae_div ?_
  | refine ae_slice sl_A ?_ | refine ae_ix (ix_A (u1 hr)) ?_
  | refine ae_c_len B.len ?_ | refine ae_c_int B.int ?_ | refine ae_c_abs B.abs ?_ | refine ae_c_max B.max ?_ | refine ae_c_min B.min ?_ | refine ae_c_isi B.isinstance ?_
  | refine ae_tupL B.tuple (?_ : AL _ (.ListComp _ _ _ _) _ _ _) | refine ae_c_tuple B.tuple ?_ | refine ae_allL B.all ?_ | refine ae_anyL B.any ?_
  | refine ae_call (by assumption) (hr.mono (by omega)) ?_
  | refine ae_append ?_
  | refine ae_bltn (T := "tuple") B.tuple (by decide +kernel) ?_ | refine ae_bltn (T := "str") B.str (by decide +kernel) ?_ | refine ae_bltn (T := "list") B.list (by decide +kernel) ?_ | refine ae_bltn (T := "int") B.int (by decide +kernel) ?_ | refine ae_bltn (T := "bool") B.bool (by decide +kernel) ?_ )
set_option hygiene false in
local macro_rules | `(tactic| k_put) => `(tactic| first
  | refine add_I ?_ | refine add_T ?_ ?_ | refine add_S ?_ ?_ | refine sub_I ?_ | refine eq_I ?_ | refine ne_I ?_ | refine eq_S ?_ | refine ne_S ?_ | refine lt_I ?_ | refine lt_S ?_ | refine le_I ?_ | refine gt_I ?_ | refine ge_I ?_
  | refine isa_N ?_ | refine isnota_N ?_ | refine ixa_T ?_ rfl | refine ixa_N ?_ rfl | refine ixa_R (by assumption) ?_ rfl | refine mod_I ?_ ?_ | refine div_I ?_ ?_ | refine mul_I ?_ ?_ | refine mul_S ?_ ?_ ?_ ?_ | refine in_W (by assumption) ?_ | refine notIn_W (by assumption) ?_ | refine in_sign ?_ | refine in_L (by assumption) ?_ | refine notIn_L (by assumption) ?_ | refine in_T ?_ | refine notIn_T ?_ | refine eq_W0 ?_ | refine eq_W ?_ | refine ne_W ?_ | refine eq_C ?_ | refine ne_C ?_ | refine r_ipI ?_ )
set_option hygiene false in
local macro_rules | `(tactic| k_go) => `(tactic| first
  | (show DL.ASs _ _ _ _ _; first | refine as_one ?_ | refine as_cons ?_ | refine as_nil ?_)
  | (show DL.AS _ _ _ _ _; first | refine as_ret ?_ | refine as_if ?_ | refine as_expr ?_ | refine as_set 0 ?_ | refine as_set 1 ?_ | refine as_set 2 ?_ | refine as_set 3 ?_ | refine as_set 4 ?_ | refine as_set 5 ?_ | refine as_set 6 ?_ | refine as_set 7 ?_ | refine as_set 8 ?_ | refine as_set 9 ?_ | refine as_set 10 ?_ | refine as_set 11 ?_ | refine as_aug 0 ip_add rfl ?_ | refine as_aug 1 ip_add rfl ?_ | refine as_aug 2 ip_add rfl ?_ | refine as_aug 3 ip_add rfl ?_ | refine as_aug 4 ip_add rfl ?_ | refine as_aug 5 ip_add rfl ?_ | refine as_aug 6 ip_add rfl ?_ | refine as_retN ?_ | refine as_pass ?_ | refine as_break ?_ | refine as_continue ?_)
  | (show AE _ _ _ _ _; k_get)
  | (show AT _ _ _ _ _; first | refine at_w (?_ : AW _ (.BoolOp _ _ _) _ _ _) | refine at_not ?_ | refine at_eq (u64 hr) ?_ | refine at_ne (u64 hr) ?_ | refine at_lt (u64 hr) ?_ | refine at_le ?_ | refine at_gt ?_ | refine at_ge ?_ | refine at_in (u1 hr) ?_ | refine at_nin (u1 hr) ?_ | refine at_is ?_ | refine at_isn ?_ | refine at_lele ?_ | refine at_val ?_)
  | (show AW _ _ _ _ _; first | refine aw_and ?_ | refine aw_or ?_ | refine aw_and1 ?_ | refine aw_or1 ?_)
  | (show AA _ _ _ _ _; first | refine aa_cons ?_ | refine aa_nil ?_)
  | (show AO _ _ _ _ _; first | refine ao_some ?_ | refine ao_none ?_)
  | (show L2R _ _ _ _ _ _; k_put)
  | (show LcR _ _ _ _ _; first | refine len_T ?_ | refine len_N ?_ | refine len_S ?_ | refine len_L (by assumption) ?_ | refine len_D (by assumption) ?_ | refine c_intI ?_ | refine c_intB ?_ | refine c_abs ?_ | refine c_max ?_ | refine c_min ?_ | refine c_tupT ?_ | refine lr_tup (by assumption) ?_ | refine isi_tt ?_ | refine isi_ii ?_ | refine isi_ib ?_ | refine isi_ss ?_ | refine isi_is ?_ | refine isi_ts ?_ | refine isi_st ?_ | refine isi_bb ?_)
  | (show LsR _ _ _ _ _ _ _; first | refine sla_T ?_ | refine sla_S ?_)
  | refine ⟨Nat.le_of_ble_eq_true rfl, ?_⟩
  | refine ⟨_, rfl, ?_⟩ | refine ⟨_, _, rfl, ?_⟩ | refine ⟨_, _, _, rfl, ?_⟩ | refine ⟨_, _, _, _, rfl, ?_⟩
  | exact ⟨_, .refl _, q⟩)
set_option hygiene false in
local macro_rules | `(tactic| walk) => `(tactic| repeat k_go)
set_option hygiene false in
local macro_rules | `(tactic| k_few) => `(tactic| first | refine ⟨fun _ => ?_, (fun z => Bool.noConfusion z)⟩ | refine ⟨(fun z => Bool.noConfusion z), fun _ => ?_⟩)
set_option hygiene false in
local macro_rules | `(tactic| k_not) => `(tactic| refine ⟨fun hk => ?_, fun hk => ?_⟩)
theorem len_bk : ∀ ds : List D, ds.length ≤ PyData.bulkAll (pyEs ds)
  | [] => Nat.zero_le _
  | d :: ds => by rw [pyEs, PyData.bulkAll, List.length_cons]; have := len_bk ds; omega
/-- what a spoilt thing is -/
structure Spt (m n t : Nat) (d : D) : Prop where
  v : Vd (m + 5) (9 * n + 100) d
  t : tl d ≤ 2 * max t 4 + 2
theorem pick {L L6 : Lp} {p l : Addr} {mo : MO} {k : Nat} {xs : List D} {Q : D → Lp → Prop} {R : Value → List (Str × D) → Lp → Prop} (le : Le (put L p mo) L6) (h : isPot k mo) (hk : k ≤ 100000) (hl : L6 l = some (.lst xs)) (hn : l ≠ p) (h1 : 0 < xs.length) (h2 : xs.length ≤ 1000000)
    (q : ∀ d mo', d ∈ xs → isPot (k + 1) mo' → Le (put L p mo') (put L6 p mo') → Q d (put L6 p mo')) : sp_of [.ptr p, .ptr l] L6 Q R := ⟨p, l, mo, k, xs, rfl, le _ _ put_same, h, hk, hl, hn, h1, h2, fun d mo' hd h' => q d mo' hd h' fun a o e => by
    by_cases z : a = p
    · rw [z, put_same] at e ⊢; exact e
    · rw [put_ne z] at e ⊢
      exact le a o (by rw [put_ne z]; exact e)⟩
theorem vd_int (m n : Nat) : Vd m n (.int 1) := ⟨by rw [shw]; decide, by rw [pyE, PyData.depth]; omega, by rw [pyE, PyData.bulk]; omega⟩
theorem spt_of {m' n t : Nat} {xs : List D} (h : Vs (m' + 5) (9 * n + 100) xs) (hl : xs.length ≤ 2 * max t 4 + 2) : Spt (m' + 1) n t (.tup xs) := ⟨h.tup, hl⟩
theorem spt_tup {m' n : Nat} {ds : List D} (hs : Vs m' n ds) : ∀ d ∈ [D.flst ds, .tup (ds ++ cut ds none (some 1)), .tup (cut ds (some 1) none), .tup ds.reverse, .tup (ds ++ [.str "b"]), .tup (ds ++ [.tup []])] ++ [.tup (ds ++ [.tup [.str "a"]]), .tup (List.replicate (Int.toNat 2) ds).flatten, .non, .tup [.tup ds], .tup (ds ++ [.int 1]), .tup ds], Spt (m' + 1) n ds.length d := by
  have e1 : cut ds none (some 1) = ds.take 1 := cut_to ds 1
  have hs' := hs.mono (Nat.le_add_right m' 5) (Nat.le_refl n)
  have t0 := List.length_take_le 1 ds
  rw [e1, cut_one]
  have hb : Vs (m' + 5) 2 [.str "b"] := (Vs.one (vd_str (x := "b") (by decide) (m' + 5))).mono (Nat.le_refl _) (by decide)
  have ha : Vs 0 2 [.str "a"] := (Vs.one (vd_str (x := "a") (by decide) 0)).mono (Nat.le_refl _) (by decide)
  simp only [List.forall_mem_append, List.forall_mem_cons]
  refine ⟨⟨⟨hs.lst.mono (by omega) (by omega), Nat.zero_le _⟩, spt_of ((hs'.app (hs'.take 1)).mono (Nat.le_refl _) (by omega)) ?_, spt_of ((hs'.drop 1).mono (Nat.le_refl _) (by omega)) ?_, spt_of (hs'.rev.mono (Nat.le_refl _) (by omega)) ?_, spt_of ((hs'.app hb).mono (Nat.le_refl _) (by omega)) ?_, spt_of ((hs'.app (Vs.one ((Vs.nil (m' + 4) 0).tup))).mono (Nat.le_refl _) (by omega)) ?_, fun _ z => nomatch z⟩,
    spt_of ((hs'.app (Vs.one ((ha.mono (Nat.zero_le (m' + 4)) (Nat.le_refl _)).tup))).mono (Nat.le_refl _) (by omega)) ?_, spt_of ?_ ?_, ⟨vd_non _ _, Nat.zero_le _⟩, spt_of ((Vs.one ((hs.mono (Nat.le_add_right m' 4) (Nat.le_refl n)).tup)).mono (Nat.le_refl _) (by omega)) ?_, spt_of ((hs'.app (Vs.one (vd_int (m' + 5) 0))).mono (Nat.le_refl _) (by omega)) ?_, spt_of (hs'.mono (Nat.le_refl _) (by omega)) ?_, fun _ z => nomatch z⟩
  all_goals first
    | (simp only [List.length_append, List.length_drop, List.length_reverse, List.length_singleton, List.length_take]; omega)
    | omega
    | (show Vs _ _ (ds ++ (ds ++ [])); rw [List.append_nil]; exact (hs'.app hs').mono (Nat.le_refl _) (by omega))
    | (show (ds ++ (ds ++ [])).length ≤ _; rw [List.append_nil, List.length_append]; omega)
theorem asc_cut {x : Str} (h : asc x = true) (lo hi : Option Int) : asc (cutS x lo hi) = true := by
  unfold asc at *
  have h1 := List.all_eq_true.mp h
  refine List.all_eq_true.mpr fun c hc => h1 c ?_
  unfold cutS at hc
  simp at hc
  exact List.mem_of_mem_drop (List.mem_of_mem_take hc)
theorem asc_rep {x : Str} (h : asc x = true) (n : Nat) : asc (repS x n) = true ∧ (repS x n).length = n * x.length := by
  unfold asc at *
  have h1 := List.all_eq_true.mp h
  refine ⟨List.all_eq_true.mpr fun c hc => ?_, ?_⟩
  · unfold repS at hc
    rw [List.toList_toArray] at hc
    obtain ⟨l, hl, hc⟩ := List.mem_flatten.mp hc
    rw [(List.mem_replicate.mp hl).2] at hc
    exact h1 c hc
  · show (List.replicate n x.cps.toList).flatten.toArray.size = _
    rw [List.size_toArray, List.length_flatten, List.map_replicate, List.sum_replicate_nat, Array.length_toList]
    rfl
theorem vs_sgns : ∀ (l : List Nat), (∀ c ∈ l, c < 128) → Vs 0 (2 * l.length) (l.map fun k => D.str (sgn k))
  | [], _ => Vs.nil 0 _
  | c :: l, h => by
    have h1 : asc (sgn c) = true := by
      unfold asc sgn
      simp
      exact h c List.mem_cons_self
    have := (Vs.one (vd_str h1 0)).app (vs_sgns l fun z hz => h z (List.mem_cons_of_mem _ hz))
    exact this.mono (Nat.le_refl _) (by rw [List.length_cons]; show 1 + 1 + 2 * l.length ≤ _; omega)
theorem spt_str {m n : Nat} {x y : Str} (hax : asc x = true) (hlx : x.length ≤ n) (hy : asc y = true) (hly : y.length = x.length) : ∀ d ∈ [D.str (x ++ "a"), .str y, .str "", .str (cutS x none (some (-1))), .str (x ++ "1"), .str (repS x (Int.toNat 9)), .flst (sgnsOf x), .tup [.str x]] ++ [.str (" " ++ x), .str (x ++ " "), .str (x ++ "z"), .non], Spt m n 0 d := by
  have st : ∀ {z : Str}, asc z = true → z.length ≤ 9 * n + 100 → Spt m n 0 (.str z) := fun {z} h1 h2 => ⟨(vd_str h1 (m + 5)).mono (Nat.le_refl _) h2, Nat.zero_le _⟩
  have ap : ∀ {a b : Str}, (a ++ b).length = a.length + b.length := fun {a b} => by show (a.cps ++ b.cps).size = _; rw [Array.size_append]; rfl
  obtain ⟨r1, r2⟩ := asc_rep hax 9
  have c1 := cutS_len x none (some (-1))
  have hsg : Vs 0 (2 * x.length) (sgnsOf x) := by
    have := vs_sgns x.cps.toList fun c hc => of_decide_eq_true (List.all_eq_true.mp hax c hc)
    rw [Array.length_toList] at this
    exact this
  simp only [List.forall_mem_append, List.forall_mem_cons]
  refine ⟨⟨st (asc_app hax (by decide)) ?_, st hy (by omega), st (by decide) ?_, st (asc_cut hax _ _) (by omega), st (asc_app hax (by decide)) ?_, st r1 (by rw [show Int.toNat 9 = 9 from rfl, r2]; omega), ⟨hsg.lst.mono (by omega) (by omega), Nat.zero_le _⟩, ⟨((Vs.one (vd_str hax (m + 4))).tup).mono (Nat.le_refl _) (by omega), ?_⟩, fun _ z => nomatch z⟩,
    st (asc_app (by decide) hax) ?_, st (asc_app hax (by decide)) ?_, st (asc_app hax (by decide)) ?_, ⟨vd_non _ _, Nat.zero_le _⟩, fun _ z => nomatch z⟩
  all_goals first
    | (rw [ap]; show _ + 1 ≤ _; omega)
    | (rw [ap]; show 1 + _ ≤ _; omega)
    | (show 0 ≤ _; omega)
    | (show 1 ≤ _; omega)
section
variable {P : Program} {w : World} {K : PySem.W.Frag} {mg : Str → Option Value} {base : Heap} {f : Addr} {fd : FuncData}
def sp_spoilt (m : Nat) : SpA := fun ds L Q _ => ∃ (p : Addr) (mo : MO) (k n : Nat) (d : D), ds = [.ptr p, d] ∧ L p = some mo ∧ isPot k mo ∧ k + 3 * m ≤ 20000 ∧ Vd m n d ∧ n ≤ 1000 ∧ ∀ d' mo', Spt m n (tl d) d' → isPot (k + 3 * m + 5) mo' → Q d' (put L p mo')
set_option maxHeartbeats 0 in
theorem spoilt_step (m : Nat) (F : Fun K "_law_spoilt" "_law_spoilt" s__law_spoilt f fd) (hb : Binds K fd ["_law_pot_here", "_law_value"] []) (B : Bl mg) (d1 : Def P w K mg base "_law_take" 1 sp_take) (d2 : Def P w K mg base "_law_of" 2 sp_of) (d3 : Def P w K mg base "_law_odd" 3 sp_odd)
    (dS : ∀ m', m = m' + 1 → Def P w K mg base "_law_spoilt" (4 + m') (sp_spoilt m')) : FnA P w K mg base (4 + m) f (sp_spoilt m) := by
  rw [show 4 + m = (3 + m) + 1 by omega]
  refine fnA F sc__law_spoilt hb (fun ds L Q R h => by obtain ⟨_, _, _, _, _, rfl, _⟩ := h; rfl) fun cdv A outer s H E ds L Q R hr h => ?_
  obtain ⟨p, mo, k, n, d, rfl, hp, hpot, hk, hv, hn, q⟩ := h
  have hd := hv.ok
  by_cases htu : ∃ ds, d = .tup ds
  · obtain ⟨ds, rfl⟩ := htu
    obtain ⟨m', rfl, hs⟩ := Vd.items hv
    have dS := dS m' rfl
    have hl : ds.length ≤ n := Nat.le_trans (len_bk ds) hs.bk
    have two : ∀ (mo5 : MO) (k5 : Nat), isPot k5 mo5 → k5 ≤ k + 2 → ASs (fctx P w K mg base ["_law_pot_here", "_law_value", "_law_at", "_law_some"] "_law_spoilt" (defScope s__law_spoilt) f cdv A outer s H E sc__law_spoilt.nd R) ((defBody s__law_spoilt).drop 1) [some (.ptr p), some (.tup ds), none, none] (put L p mo5) (endsOf Q) := fun mo5 k5 h5 hk5 => by
      refine as_cons (as_if (at_val (ae_callB call_isA B.isinstance (aa_cons (ae_name 1 rfl (aa_cons (ae_bltn (T := "tuple") B.tuple (by decide +kernel) (aa_nil (okE_isi hd (kitE_tup hd) ⟨_, rfl, fun _ => ?_, fun z => nomatch z⟩)))))))))
      refine as_cons (as_set 3 (ae_lst (aa_cons (ae_flst (ae_callT call_list_of B.list (aa_cons (ae_name 1 rfl (aa_nil (c_lstT fun l hl => ⟨_, l, ds, rfl, hl, rfl, fun _ => ?_⟩)))))))))
      have c1 := cut_len ds none (some 1)
      refine aa_cons (ae_add (ae_name 1 rfl ?_))
      iterate 7 k_go
      refine add_T ?_ (by rw [sl_eq]; omega)
      refine aa_cons ?_
      iterate 6 k_go
      refine sla_T ?_
      refine aa_cons (ae_tupRev B.tuple B.reversed (ae_callT call_list_of B.list (aa_cons (ae_name 1 rfl (aa_nil (c_lstT fun l hl => ⟨_, l, ds, rfl, hl, rfl, fun _ => ?_⟩))))))
      refine aa_cons (ae_add (ae_name 1 rfl (ae_tup (aa_cons (ae_str (aa_nil ⟨Nat.le_of_ble_eq_true rfl, add_T ?_ (by show _ + 1 ≤ _; rw [sl_eq]; omega)⟩))))))
      refine aa_cons (ae_add (ae_name 1 rfl (ae_tup (aa_cons (ae_tup (aa_nil ⟨Nat.le_of_ble_eq_true rfl, aa_nil ⟨Nat.le_of_ble_eq_true rfl, add_T ?_ (by show _ + 1 ≤ _; rw [sl_eq]; omega)⟩⟩))))))
      refine aa_nil ⟨Nat.le_of_ble_eq_true rfl, fun l1 hl1 => ?_⟩
      refine as_one (as_ret (ae_call d2 (hr.mono (by omega)) (aa_cons (ae_name 0 rfl (aa_cons (ae_add (ae_name 3 rfl (ae_lst ?_))))))))
      refine aa_cons (ae_add (ae_name 1 rfl (ae_tup (aa_cons (ae_tup (aa_cons (ae_str (aa_nil ⟨Nat.le_of_ble_eq_true rfl, aa_nil ⟨Nat.le_of_ble_eq_true rfl, add_T ?_ (by show _ + 1 ≤ _; rw [sl_eq]; omega)⟩⟩))))))))
      refine aa_cons (ae_binJ (ae_name 1 rfl (ae_int (j_mulA (by decide) (by decide) (by omega) ?_))))
      refine aa_cons (ae_non ?_)
      refine aa_cons (ae_tup (aa_cons (ae_name 1 rfl (aa_nil ⟨Nat.le_of_ble_eq_true rfl, ?_⟩))))
      refine aa_cons (ae_add (ae_name 1 rfl (ae_tup (aa_cons (ae_int (aa_nil ⟨Nat.le_of_ble_eq_true rfl, add_T ?_ (by show _ + 1 ≤ _; rw [sl_eq]; omega)⟩))))))
      refine aa_cons (ae_name 1 rfl (aa_nil ⟨Nat.le_of_ble_eq_true rfl, fun l2 hl2 => ?_⟩))
      have nl : l1 ≠ l2 := ne_of_free put_same hl2
      refine add_L (by rw [put_ne nl]; exact put_same) put_same (fun l3 hl3 => ?_) (by show 12 ≤ sizeLine; rw [sl_eq]; decide)
      have le6 := (le_put hl1 (o := .lst [.flst ds, .tup (ds ++ cut ds none (some 1)), .tup (cut ds (some 1) none), .tup ds.reverse, .tup (ds ++ [.str "b"]), .tup (ds ++ [.tup []])])).trans ((le_put hl2 (o := .lst [.tup (ds ++ [.tup [.str "a"]]), .tup (List.replicate (Int.toNat 2) ds).flatten, .non, .tup [.tup ds], .tup (ds ++ [.int 1]), .tup ds])).trans (le_put hl3 (o := .lst ([.flst ds, .tup (ds ++ cut ds none (some 1)), .tup (cut ds (some 1) none), .tup ds.reverse, .tup (ds ++ [.str "b"]), .tup (ds ++ [.tup []])] ++ [.tup (ds ++ [.tup [.str "a"]]), .tup (List.replicate (Int.toNat 2) ds).flatten, .non, .tup [.tup ds], .tup (ds ++ [.int 1]), .tup ds]))))
      refine aa_nil (pick (L := L) (p := p) (mo := mo5) (k := k5) le6 h5 (by omega) put_same (fun e => ?_) (by show 0 < 12; decide) (by show 12 ≤ 1000000; decide) fun d mo' hd' h' le' => ⟨put L p mo', le', q d mo' (spt_tup hs d hd') (h'.mono (by omega))⟩)
      exact ne_of_free (le_put hl2 _ _ (le_put hl1 _ _ put_same)) hl3 e.symm
    refine as_cons (as_if (at_w (aw_and (at_val (ae_callB call_isA B.isinstance (aa_cons (ae_name 1 rfl (aa_cons (ae_bltn (T := "tuple") B.tuple (by decide +kernel) (aa_nil (okE_isi hd (kitE_tup hd) ⟨_, rfl, fun _ => ?_, fun z => nomatch z⟩)))))))))))
    refine aw_and (at_cmpJ (ae_name 1 rfl (ae_tup (aa_nil ⟨Nat.le_of_ble_eq_true rfl, j_neT0 (Room.units0 hr) ⟨_, rfl, fun hne => ?_, fun he => ?_⟩⟩))))
    · have hpos : 0 < ds.length := by
        cases ds with
        | nil => simp at hne
        | cons => simp
      refine aw_and1 ?_
      walk
      refine ⟨p, mo, k, 3, rfl, hp, hpot, by omega, by omega, by omega, fun j mo1 hj h1 => ?_⟩
      walk
      refine ⟨fun _ => ?_, fun _ => ?_⟩
      · walk
        refine ⟨p, mo1, k + 1, ds.length, rfl, put_same, h1, by omega, hpos, by omega, fun i mo2 hi h2 => ?_⟩
        rw [put_put]
        walk
        have hsp := hs
        rw [← List.take_append_drop i ds, List.drop_eq_getElem_cons hi] at hsp
        obtain ⟨n1, n0, hn0, v1, v0⟩ := hsp.split
        obtain ⟨n2, n3, hn23, v2, v3⟩ := Vs.split (xs := [ds[i]]) (ys := ds.drop (i + 1)) v0
        obtain ⟨n4, hn4, v4⟩ := v2.of_one
        refine ixa_T (d := ds[i]) ?_ ?_
        · refine aa_nil ⟨p, mo2, k + 2, n4, ds[i], rfl, put_same, h2, by omega, v4, by omega, fun d' mo3 hd' h3 => ?_⟩
          rw [put_put]
          walk
          · refine ⟨put L p mo3, .refl _, q _ mo3 ?_ (h3.mono (by omega))⟩
            rw [cut_to, show ((i : Nat) : Int) + 1 = ((i + 1 : Nat) : Int) by omega, cut_from]
            have v5 : Vs (m' + 5) (n1 + (9 * n4 + 100 + 1) + n3) ((ds.take i ++ [d']) ++ ds.drop (i + 1)) := ((v1.mono (by omega) (Nat.le_refl _)).app (Vs.one hd'.v)).app (v3.mono (by omega) (Nat.le_refl _))
            refine ⟨(v5.mono (Nat.le_refl _) (by omega)).tup, ?_⟩
            show ((ds.take i ++ [d']) ++ ds.drop (i + 1)).length ≤ 2 * max ds.length 4 + 2
            rw [List.length_append, List.length_append, List.length_take, List.length_drop, List.length_singleton]
            omega
          all_goals (have c1 := cut_len ds none (some (i : Int)); have c2 := cut_len ds (some ((i : Int) + 1)) none; simp only [List.length_append, List.length_singleton, List.length_cons, List.length_nil] at *; rw [sl_eq]; omega)
        · unfold atI ixN
          rw [if_pos (by omega)]
          simp [hi]
      · exact as_nil (two mo1 (k + 1) h1 (by omega))
    · k_few
      have z := two mo k hpot (by omega)
      rw [put_self hp] at z
      exact as_nil z
  · have hkt : kitB (tyD d) "tuple" = some false := by
      rw [kitE_tup hd]
      cases d <;> first | rfl | exact absurd ⟨_, rfl⟩ htu
    refine as_cons (as_if (at_w (aw_and (at_val (ae_callB call_isA B.isinstance (aa_cons (ae_name 1 rfl (aa_cons (ae_bltn (T := "tuple") B.tuple (by decide +kernel) (aa_nil (okE_isi hd hkt ⟨_, rfl, (fun z => nomatch z), fun _ => ⟨(fun z => nomatch z), fun _ => as_nil ?_⟩⟩)))))))))))
    refine as_cons (as_if (at_val (ae_callB call_isA B.isinstance (aa_cons (ae_name 1 rfl (aa_cons (ae_bltn (T := "tuple") B.tuple (by decide +kernel) (aa_nil (okE_isi hd hkt ⟨_, rfl, (fun z => nomatch z), fun _ => as_nil ?_⟩)))))))))
    by_cases hst : ∃ x, d = .str x
    · obtain ⟨x, rfl⟩ := hst
      obtain ⟨hax, hlx⟩ := Vd.asc hv
      refine as_cons (as_if (at_val (ae_callB call_isA B.isinstance (aa_cons (ae_name 1 rfl (aa_cons (ae_bltn (T := "str") B.str (by decide +kernel) (aa_nil (okE_isi hd (kitE_str hd) ⟨_, rfl, fun _ => ?_, fun z => nomatch z⟩)))))))))
      refine as_cons (as_set 3 (ae_lst (aa_cons (ae_add (ae_name 1 rfl (ae_str (add_S ?_ (by show _ + 1 ≤ _; rw [sl_eq]; omega))))))))
      refine aa_cons (ae_upper (ae_name 1 rfl ⟨x, rfl, hax, by omega, fun y hy hly => ?_⟩))
      refine aa_cons (ae_str ?_)
      refine aa_cons ?_
      iterate 7 k_go
      refine ⟨_, rfl, sla_S ?_⟩
      refine aa_cons (ae_add (ae_name 1 rfl (ae_str (add_S ?_ (by show _ + 1 ≤ _; rw [sl_eq]; omega)))))
      refine aa_cons (ae_mul (ae_name 1 rfl (ae_int (mul_S ?_ (by decide) (by decide) (by show x.length * 9 ≤ _; omega)))))
      refine aa_cons (ae_flst (ae_callT (call_listS rfl) B.list (aa_cons (ae_name 1 rfl (aa_nil (c_listS fun l hl => ⟨_, l, _, rfl, hl, rfl, fun _ => ?_⟩))))))
      refine aa_cons (ae_tup (aa_cons (ae_name 1 rfl (aa_nil ⟨Nat.le_of_ble_eq_true rfl, aa_nil ⟨Nat.le_of_ble_eq_true rfl, fun l1 hl1 => ?_⟩⟩))))
      refine as_one (as_ret (ae_call d2 (hr.mono (by omega)) (aa_cons (ae_name 0 rfl (aa_cons (ae_add (ae_name 3 rfl (ae_lst ?_))))))))
      refine aa_cons (ae_add (ae_str (ae_name 1 rfl (add_S ?_ (by show 1 + _ ≤ _; rw [sl_eq]; omega)))))
      refine aa_cons (ae_add (ae_name 1 rfl (ae_str (add_S ?_ (by show _ + 1 ≤ _; rw [sl_eq]; omega)))))
      refine aa_cons (ae_add (ae_name 1 rfl (ae_str (add_S ?_ (by show _ + 1 ≤ _; rw [sl_eq]; omega)))))
      refine aa_cons (ae_non (aa_nil ⟨Nat.le_of_ble_eq_true rfl, fun l2 hl2 => ?_⟩))
      have nl : l1 ≠ l2 := ne_of_free put_same hl2
      refine add_L (by rw [put_ne nl]; exact put_same) put_same (fun l3 hl3 => ?_) (by show 12 ≤ sizeLine; rw [sl_eq]; decide)
      have hpe : put L p mo = L := put_self hp
      refine aa_nil (pick (L := L) (p := p) (mo := mo) (k := k) (by rw [hpe]; exact (le_put hl1).trans ((le_put hl2).trans (le_put hl3))) hpot (by omega) put_same (fun e => ?_) (by show 0 < 12; decide) (by show 12 ≤ 1000000; decide) fun d mo' hd' h' le' => ⟨put L p mo', le', q d mo' (spt_str hax hlx hy hly d hd') (h'.mono (by omega))⟩)
      exact ne_of_free (le_put hl2 _ _ (le_put hl1 _ _ hp)) hl3 e.symm
    · have hks : kitB (tyD d) "str" = some false := by
        rw [kitE_str hd]
        cases d <;> first | rfl | exact absurd ⟨_, rfl⟩ hst
      refine as_cons (as_if (at_val (ae_callB call_isA B.isinstance (aa_cons (ae_name 1 rfl (aa_cons (ae_bltn (T := "str") B.str (by decide +kernel) (aa_nil (okE_isi hd hks ⟨_, rfl, (fun z => nomatch z), fun _ => as_nil ?_⟩)))))))))
      exact as_one (as_ret (ae_call d3 (hr.mono (by omega)) (aa_cons (ae_name 0 rfl (aa_nil ⟨p, mo, k, rfl, hp, hpot, by omega, fun d' mo' hv' ht' h' => ⟨_, .refl _, q d' mo' ⟨hv'.mono (by omega) (by omega), by omega⟩ (h'.mono (by omega))⟩⟩)))))
end
end K
namespace K
open PySem PySem.Spec PyProof.Rows L2 DL
set_option hygiene false in
local macro_rules | `(tactic| k_get) => `(tactic| first
  | refine ae_name 0 rfl ?_ | refine ae_name 1 rfl ?_ | refine ae_name 2 rfl ?_ | refine ae_name 3 rfl ?_ | refine ae_name 4 rfl ?_ | refine ae_name 5 rfl ?_ | refine ae_name 6 rfl ?_ | refine ae_name 7 rfl ?_ | refine ae_name 8 rfl ?_ | refine ae_name 9 rfl ?_ | refine ae_name 10 rfl ?_ | refine ae_name 11 rfl ?_ | refine ae_name 12 rfl ?_
  | refine ae_int ?_ | refine ae_bl ?_ | refine ae_non ?_ | refine ae_str ?_ | refine ae_tup ?_ | refine ae_lst ?_
  | refine ae_and ?_ | refine ae_or ?_ | refine ae_one ?_ | refine ae_not ?_ | refine ae_neg ?_ | refine ae_ifExp ?_
  | refine ae_eq (u64 hr) ?_ | refine ae_ne (u64 hr) ?_ | refine ae_lt (u64 hr) ?_ | refine ae_le ?_ | refine ae_gt ?_ | refine ae_ge ?_ | refine ae_in (u1 hr) ?_ | refine ae_nin (u1 hr) ?_ | refine ae_is ?_ | refine ae_isn ?_
  | refine ae_lele ?_
  | refine ae_add ?_ | refine ae_sub ?_ | refine ae_mul ?_ | refine ae_mod ?_ | refine ae_div ?_
  | refine ae_slice sl_A ?_ | refine ae_ix (ix_A (u1 hr)) ?_
  | refine ae_c_len B.len ?_ | refine ae_c_int B.int ?_ | refine ae_c_abs B.abs ?_ | refine ae_c_max B.max ?_ | refine ae_c_min B.min ?_ | refine ae_c_isi B.isinstance ?_
  | refine ae_tupL B.tuple (?_ : AL _ (.ListComp _ _ _ _) _ _ _) | refine ae_c_tuple B.tuple ?_ | refine ae_allL B.all ?_ | refine ae_anyL B.any ?_
  | refine ae_call (by assumption) (hr.mono (by omega)) ?_
  | refine ae_append ?_
  | refine ae_bltn (T := "tuple") B.tuple (by decide +kernel) ?_ | refine ae_bltn (T := "str") B.str (by decide +kernel) ?_ | refine ae_bltn (T := "list") B.list (by decide +kernel) ?_ | refine ae_bltn (T := "int") B.int (by decide +kernel) ?_ | refine ae_bltn (T := "bool") B.bool (by decide +kernel) ?_ )
set_option hygiene false in
local macro_rules | `(tactic| k_put) => `(tactic| first
  | refine add_I ?_ | refine add_T ?_ ?_ | refine add_S ?_ ?_ | refine sub_I ?_ | refine eq_I ?_ | refine ne_I ?_ | refine eq_S ?_ | refine ne_S ?_ | refine lt_I ?_ | refine lt_S ?_ | refine le_I ?_ | refine gt_I ?_ | refine ge_I ?_
  | refine isa_N ?_ | refine isnota_N ?_ | refine ixa_T ?_ rfl | refine ixa_N ?_ rfl | refine ixa_R (by assumption) ?_ rfl | refine mod_I ?_ ?_ | refine div_I ?_ ?_ | refine mul_I ?_ ?_ | refine mul_S ?_ ?_ ?_ ?_ | refine in_W (by assumption) ?_ | refine notIn_W (by assumption) ?_ | refine in_sign ?_ | refine in_L (by assumption) ?_ | refine notIn_L (by assumption) ?_ | refine in_T ?_ | refine notIn_T ?_ | refine eq_W0 ?_ | refine eq_W ?_ | refine ne_W ?_ | refine eq_C ?_ | refine ne_C ?_ | refine r_ipI ?_ )
set_option hygiene false in
local macro_rules | `(tactic| k_go) => `(tactic| first
  | (show DL.ASs _ _ _ _ _; first | refine as_one ?_ | refine as_cons ?_ | refine as_nil ?_)
  | (show DL.AS _ _ _ _ _; first | refine as_ret ?_ | refine as_if ?_ | refine as_expr ?_ | refine as_set 0 ?_ | refine as_set 1 ?_ | refine as_set 2 ?_ | refine as_set 3 ?_ | refine as_set 4 ?_ | refine as_set 5 ?_ | refine as_set 6 ?_ | refine as_set 7 ?_ | refine as_set 8 ?_ | refine as_set 9 ?_ | refine as_set 10 ?_ | refine as_set 11 ?_ | refine as_aug 0 ip_add rfl ?_ | refine as_aug 1 ip_add rfl ?_ | refine as_aug 2 ip_add rfl ?_ | refine as_aug 3 ip_add rfl ?_ | refine as_aug 4 ip_add rfl ?_ | refine as_aug 5 ip_add rfl ?_ | refine as_aug 6 ip_add rfl ?_ | refine as_retN ?_ | refine as_pass ?_ | refine as_break ?_ | refine as_continue ?_)
  | (show AE _ _ _ _ _; k_get)
  | (show AT _ _ _ _ _; first | refine at_w (?_ : AW _ (.BoolOp _ _ _) _ _ _) | refine at_not ?_ | refine at_eq (u64 hr) ?_ | refine at_ne (u64 hr) ?_ | refine at_lt (u64 hr) ?_ | refine at_le ?_ | refine at_gt ?_ | refine at_ge ?_ | refine at_in (u1 hr) ?_ | refine at_nin (u1 hr) ?_ | refine at_is ?_ | refine at_isn ?_ | refine at_lele ?_ | refine at_val ?_)
  | (show AW _ _ _ _ _; first | refine aw_and ?_ | refine aw_or ?_ | refine aw_and1 ?_ | refine aw_or1 ?_)
  | (show AA _ _ _ _ _; first | refine aa_cons ?_ | refine aa_nil ?_)
  | (show AO _ _ _ _ _; first | refine ao_some ?_ | refine ao_none ?_)
  | (show L2R _ _ _ _ _ _; k_put)
  | (show LcR _ _ _ _ _; first | refine len_T ?_ | refine len_N ?_ | refine len_S ?_ | refine len_L (by assumption) ?_ | refine len_D (by assumption) ?_ | refine c_intI ?_ | refine c_intB ?_ | refine c_abs ?_ | refine c_max ?_ | refine c_min ?_ | refine c_tupT ?_ | refine lr_tup (by assumption) ?_ | refine isi_tt ?_ | refine isi_ii ?_ | refine isi_ib ?_ | refine isi_ss ?_ | refine isi_is ?_ | refine isi_ts ?_ | refine isi_st ?_ | refine isi_bb ?_)
  | (show LsR _ _ _ _ _ _ _; first | refine sla_T ?_ | refine sla_S ?_)
  | refine ⟨Nat.le_of_ble_eq_true rfl, ?_⟩
  | refine ⟨_, rfl, ?_⟩ | refine ⟨_, _, rfl, ?_⟩ | refine ⟨_, _, _, rfl, ?_⟩ | refine ⟨_, _, _, _, rfl, ?_⟩
  | exact ⟨_, .refl _, q⟩)
set_option hygiene false in
local macro_rules | `(tactic| walk) => `(tactic| repeat k_go)
set_option hygiene false in
local macro_rules | `(tactic| k_few) => `(tactic| first | refine ⟨fun _ => ?_, (fun z => Bool.noConfusion z)⟩ | refine ⟨(fun z => Bool.noConfusion z), fun _ => ?_⟩)
set_option hygiene false in
local macro_rules | `(tactic| k_not) => `(tactic| refine ⟨fun hk => ?_, fun hk => ?_⟩)
section
variable {P : Program} {w : World} {K : PySem.W.Frag} {mg : Str → Option Value} {base : Heap} {f : Addr} {fd : FuncData}
def sp_spoiltA : SpA := fun ds L Q R => ∃ m, m ≤ 10 ∧ sp_spoilt m ds L Q R
theorem spoilt_all (F : Fun K "_law_spoilt" "_law_spoilt" s__law_spoilt f fd) (hb : Binds K fd ["_law_pot_here", "_law_value"] []) (B : Bl mg) (nm : mg "_law_spoilt" = some (.ref f)) (kp : PySem.W.keepIn K (.ref f) = true) (d1 : Def P w K mg base "_law_take" 1 sp_take) (d2 : Def P w K mg base "_law_of" 2 sp_of) (d3 : Def P w K mg base "_law_odd" 3 sp_odd) : ∀ m, FnA P w K mg base (4 + m) f (sp_spoilt m)
  | 0 => spoilt_step 0 F hb B d1 d2 d3 fun m' e => by omega
  | m + 1 => spoilt_step (m + 1) F hb B d1 d2 d3 fun m' e => by
    cases e
    exact ⟨f, nm, kp, spoilt_all F hb B nm kp d1 d2 d3 m⟩
theorem ok_spoilt (F : Fun K "_law_spoilt" "_law_spoilt" s__law_spoilt f fd) (hb : Binds K fd ["_law_pot_here", "_law_value"] []) (B : Bl mg) (nm : mg "_law_spoilt" = some (.ref f)) (kp : PySem.W.keepIn K (.ref f) = true) (d1 : Def P w K mg base "_law_take" 1 sp_take) (d2 : Def P w K mg base "_law_of" 2 sp_of) (d3 : Def P w K mg base "_law_odd" 3 sp_odd) : FnA P w K mg base 14 f sp_spoiltA := by
  intro A outer s H us vs Q E hr e0 r h
  obtain ⟨ds, L, Z, Q', R', rd, c, ⟨m, hm, hsp⟩, h1, h2⟩ := h
  exact (spoilt_all F hb B nm kp d1 d2 d3 m) A outer s H us vs Q E (hr.mono (by omega)) e0 r ⟨ds, L, Z, Q', R', rd, c, hsp, h1, h2⟩
/-- any thing -/
structure Thg (d : D) : Prop where
  v : Vd 16 40000 d
  t : tl d ≤ 40
def sp_thing : SpA := fun ds L Q _ => ∃ (p nl : Addr) (mo : MO) (k : Nat) (ys : List Str), ds = [.ptr p, .ptr nl] ∧ L p = some mo ∧ isPot k mo ∧ k ≤ 15000 ∧ NmOk L p nl ys ∧ ∀ d mo', Thg d → isPot (k + 300) mo' → Q d (put L p mo')
theorem vs_text : ∀ {ws : List Wd}, (∀ x ∈ ws, wdS x = true) → Vs 0 (9 * ws.length) (ws.map D.str)
  | [], _ => Vs.nil 0 _
  | x :: ws, h => by
    have hx := h x List.mem_cons_self
    have h8 : x.length ≤ 8 := by
      unfold wdS at hx
      simp only [Bool.and_eq_true] at hx
      exact of_decide_eq_true hx.1.2
    have := (Vs.one (vd_str (asc_wd hx) 0)).app (vs_text fun z hz => h z (List.mem_cons_of_mem _ hz))
    exact this.mono (Nat.le_refl _) (by rw [List.length_cons]; omega)
theorem ok_thing (F : Fun K "_law_thing" "_law_thing" s__law_thing f fd) (hb : Binds K fd ["_law_pot_here", "_law_names_here"] []) (B : Bl mg) (d1 : Def P w K mg base "_law_take" 1 sp_take) (d2 : Def P w K mg base "_law_of" 2 sp_of) (d3 : Def P w K mg base "_law_odd" 3 sp_odd) (d4 : Def P w K mg base "_law_text" 4 sp_text) (d5 : Def P w K mg base "_law_spoilt" 14 sp_spoiltA) : FnA P w K mg base 15 f sp_thing := by
  refine fnA F sc__law_thing hb (fun ds L Q R h => by obtain ⟨_, _, _, _, _, rfl, _⟩ := h; rfl) fun cdv A outer s H E ds L Q R hr h => ?_
  obtain ⟨p, nl, mo, k, ys, rfl, hp, hpot, hk, hn, q⟩ := h
  walk
  refine ⟨p, nl, mo, k, 4, ys, rfl, hp, hpot, by omega, by omega, hn, fun zs mo1 hzs hzl h1 => ?_⟩
  walk
  refine ⟨p, mo1, k + 60, 6, rfl, put_same, h1, by omega, by omega, by omega, fun j mo2 hj h2 => ?_⟩
  rw [put_put]
  walk
  refine ⟨fun _ => ?_, fun _ => as_nil ?_⟩
  · exact as_one (as_ret (ae_call d3 (hr.mono (by omega)) (aa_cons (ae_name 0 rfl (aa_nil ⟨p, mo2, k + 61, rfl, put_same, h2, by omega, fun d mo3 hv ht h3 => ⟨_, .refl _, by rw [put_put]; exact q d mo3 ⟨hv.mono (by omega) (by omega), by omega⟩ (h3.mono (by omega))⟩⟩)))))
  refine as_cons (as_for (ai_range1 B.range (AE.drop (ae_call d2 (hr.mono (by omega)) (aa_cons (ae_name 0 rfl (aa_cons (ae_lst (aa_cons (ae_int (aa_cons (ae_int (aa_cons (ae_int (aa_cons (ae_int (aa_nil ⟨by show 4 ≤ sizeLine; decide, fun l hl => aa_nil ⟨p, l, mo2, k + 61, _, rfl, by rw [put_ne (ne_of_free put_same hl)]; exact put_same, h2, by omega, put_same, (ne_of_free put_same hl).symm, by show 0 < 4; decide, by show 4 ≤ 1000000; decide, fun d mo3 hd h3 => ?_⟩⟩)))))))))))))))))
  obtain ⟨n, hn3, rfl⟩ : ∃ n : Nat, n ≤ 2 ∧ d = .int (n : Int) := by
    simp only [List.mem_cons, List.not_mem_nil, or_false] at hd
    rcases hd with rfl | rfl | rfl | rfl
    · exact ⟨1, by decide, rfl⟩
    · exact ⟨1, by decide, rfl⟩
    · exact ⟨2, by decide, rfl⟩
    · exact ⟨0, by decide, rfl⟩
  refine ⟨put L p mo3, by have z := le_put2 (le_put hl (o := .lst [.int 1, .int 1, .int 2, .int 0])) p mo3; rw [put_put] at z; exact z, _, rfl, by omega, by omega, ?_⟩
  rw [show ((n : Int)).toNat = n by omega]
  refine ⟨fun i Γ2 L2 => ∃ (d : D) (mo5 : MO) (x : Option D), Γ2 = [some (.ptr p), some (.ptr nl), some d, x] ∧ L2 = put L p mo5 ∧ isPot (k + 62 + 50 * i) mo5 ∧ Vd (1 + 5 * i) (if i = 0 then 36 else if i = 1 then 424 else 3916) d ∧ tl d ≤ (if i = 0 then 4 else if i = 1 then 10 else 22), ⟨dW zs, mo3, none, rfl, rfl, h3, ?_, ?_⟩, fun _ _ _ _ => trivial, ?_, ?_⟩
  · exact ((vs_text hzs).mono (Nat.le_refl _) (by rw [if_pos rfl]; omega)).tup
  · rw [if_pos rfl]
    show (zs.map D.str).length ≤ 4
    rw [List.length_map]
    exact hzl
  · rintro i d Γ2 L2 hd ⟨v, mo5, x, rfl, rfl, h5, hv, ht⟩
    have hi := (rangeD_inv hd).1
    refine ⟨_, _, ag_name 3, as_one (as_set 2 (ae_call d5 (hr.mono (by omega)) (aa_cons (ae_name 0 rfl (aa_cons (ae_name 2 rfl (aa_nil ⟨1 + 5 * i, by omega, p, mo5, k + 62 + 50 * i, _, v, rfl, put_same, h5, by omega, hv, ?_, fun d' mo6 hd' h6 => ?_⟩)))))))⟩
    · split
      · omega
      · split
        · omega
        · omega
    · rw [put_put]
      refine ⟨d', mo6, _, rfl, rfl, h6.mono (by omega), ?_, ?_⟩
      · have := hd'.v
        match i, hi, this with
        | 0, _, this => exact this.mono (by omega) (by decide)
        | 1, _, this => exact this.mono (by omega) (by decide)
        | i + 2, hi, _ => omega
      · have h7 := hd'.t
        match i, hi, h7, ht with
        | 0, _, h7, ht => simp at ht ⊢; omega
        | 1, _, h7, ht => simp at ht ⊢; omega
        | i + 2, hi, _, _ => omega
  · rintro Γ2 L2 ⟨v, mo5, x, rfl, rfl, h5, hv, ht⟩
    rw [rangeD_len] at h5 hv ht
    refine as_one (as_ret (ae_name 2 rfl ⟨_, .refl _, q v mo5 ⟨hv.mono (by omega) ?_, Nat.le_trans ht ?_⟩ (h5.mono (by omega))⟩))
    · split
      · omega
      · split <;> omega
    · split
      · omega
      · split <;> omega
end
end K
namespace K
open PySem PySem.Spec PyProof.Rows L2 DL
set_option hygiene false in
local macro_rules | `(tactic| k_get) => `(tactic| first
  | refine ae_name 0 rfl ?_ | refine ae_name 1 rfl ?_ | refine ae_name 2 rfl ?_ | refine ae_name 3 rfl ?_ | refine ae_name 4 rfl ?_ | refine ae_name 5 rfl ?_ | refine ae_name 6 rfl ?_ | refine ae_name 7 rfl ?_ | refine ae_name 8 rfl ?_ | refine ae_name 9 rfl ?_ | refine ae_name 10 rfl ?_ | refine ae_name 11 rfl ?_ | refine ae_name 12 rfl ?_
  | refine ae_int ?_ | refine ae_bl ?_ | refine ae_non ?_ | refine ae_str ?_ | refine ae_tup ?_ | refine ae_lst ?_
  | refine ae_and ?_ | refine ae_or ?_ | refine ae_one ?_ | refine ae_not ?_ | refine ae_neg ?_ | refine ae_ifExp ?_
  | refine ae_eq (u64 hr) ?_ | refine ae_ne (u64 hr) ?_ | refine ae_lt (u64 hr) ?_ | refine ae_le ?_ | refine ae_gt ?_ | refine ae_ge ?_ | refine ae_in (u1 hr) ?_ | refine ae_nin (u1 hr) ?_ | refine ae_is ?_ | refine ae_isn ?_
  | refine ae_lele ?_
  | refine ae_add ?_ | refine ae_sub ?_ | refine ae_mul ?_ | refine ae_mod ?_ | refine ae_div ?_
  | refine ae_slice sl_A ?_ | refine ae_ix (ix_A (u1 hr)) ?_
  | refine ae_c_len B.len ?_ | refine ae_c_int B.int ?_ | refine ae_c_abs B.abs ?_ | refine ae_c_max B.max ?_ | refine ae_c_min B.min ?_ | refine ae_c_isi B.isinstance ?_
  | refine ae_tupL B.tuple (?_ : AL _ (.ListComp _ _ _ _) _ _ _) | refine ae_c_tuple B.tuple ?_ | refine ae_allL B.all ?_ | refine ae_anyL B.any ?_
  | refine ae_call (by assumption) (hr.mono (by omega)) ?_
  | refine ae_append ?_
  | refine ae_bltn (T := "tuple") B.tuple (by decide +kernel) ?_ | refine ae_bltn (T := "str") B.str (by decide +kernel) ?_ | refine ae_bltn (T := "list") B.list (by decide +kernel) ?_ | refine ae_bltn (T := "int") B.int (by decide +kernel) ?_ | refine ae_bltn (T := "bool") B.bool (by decide +kernel) ?_ )
set_option hygiene false in
local macro_rules | `(tactic| k_put) => `(tactic| first
  | refine add_I ?_ | refine add_T ?_ ?_ | refine add_S ?_ ?_ | refine sub_I ?_ | refine eq_I ?_ | refine ne_I ?_ | refine eq_S ?_ | refine ne_S ?_ | refine lt_I ?_ | refine lt_S ?_ | refine le_I ?_ | refine gt_I ?_ | refine ge_I ?_
  | refine isa_N ?_ | refine isnota_N ?_ | refine ixa_T ?_ rfl | refine ixa_N ?_ rfl | refine ixa_R (by assumption) ?_ rfl | refine mod_I ?_ ?_ | refine div_I ?_ ?_ | refine mul_I ?_ ?_ | refine mul_S ?_ ?_ ?_ ?_ | refine in_W (by assumption) ?_ | refine notIn_W (by assumption) ?_ | refine in_sign ?_ | refine in_L (by assumption) ?_ | refine notIn_L (by assumption) ?_ | refine in_T ?_ | refine notIn_T ?_ | refine eq_W0 ?_ | refine eq_W ?_ | refine ne_W ?_ | refine eq_C ?_ | refine ne_C ?_ | refine r_ipI ?_ )
set_option hygiene false in
local macro_rules | `(tactic| k_go) => `(tactic| first
  | (show DL.ASs _ _ _ _ _; first | refine as_one ?_ | refine as_cons ?_ | refine as_nil ?_)
  | (show DL.AS _ _ _ _ _; first | refine as_ret ?_ | refine as_if ?_ | refine as_expr ?_ | refine as_set 0 ?_ | refine as_set 1 ?_ | refine as_set 2 ?_ | refine as_set 3 ?_ | refine as_set 4 ?_ | refine as_set 5 ?_ | refine as_set 6 ?_ | refine as_set 7 ?_ | refine as_set 8 ?_ | refine as_set 9 ?_ | refine as_set 10 ?_ | refine as_set 11 ?_ | refine as_aug 0 ip_add rfl ?_ | refine as_aug 1 ip_add rfl ?_ | refine as_aug 2 ip_add rfl ?_ | refine as_aug 3 ip_add rfl ?_ | refine as_aug 4 ip_add rfl ?_ | refine as_aug 5 ip_add rfl ?_ | refine as_aug 6 ip_add rfl ?_ | refine as_retN ?_ | refine as_pass ?_ | refine as_break ?_ | refine as_continue ?_)
  | (show AE _ _ _ _ _; k_get)
  | (show AT _ _ _ _ _; first | refine at_w (?_ : AW _ (.BoolOp _ _ _) _ _ _) | refine at_not ?_ | refine at_eq (u64 hr) ?_ | refine at_ne (u64 hr) ?_ | refine at_lt (u64 hr) ?_ | refine at_le ?_ | refine at_gt ?_ | refine at_ge ?_ | refine at_in (u1 hr) ?_ | refine at_nin (u1 hr) ?_ | refine at_is ?_ | refine at_isn ?_ | refine at_lele ?_ | refine at_val ?_)
  | (show AW _ _ _ _ _; first | refine aw_and ?_ | refine aw_or ?_ | refine aw_and1 ?_ | refine aw_or1 ?_)
  | (show AA _ _ _ _ _; first | refine aa_cons ?_ | refine aa_nil ?_)
  | (show AO _ _ _ _ _; first | refine ao_some ?_ | refine ao_none ?_)
  | (show L2R _ _ _ _ _ _; k_put)
  | (show LcR _ _ _ _ _; first | refine len_T ?_ | refine len_N ?_ | refine len_S ?_ | refine len_L (by assumption) ?_ | refine len_D (by assumption) ?_ | refine c_intI ?_ | refine c_intB ?_ | refine c_abs ?_ | refine c_max ?_ | refine c_min ?_ | refine c_tupT ?_ | refine lr_tup (by assumption) ?_ | refine isi_tt ?_ | refine isi_ii ?_ | refine isi_ib ?_ | refine isi_ss ?_ | refine isi_is ?_ | refine isi_ts ?_ | refine isi_st ?_ | refine isi_bb ?_)
  | (show LsR _ _ _ _ _ _ _; first | refine sla_T ?_ | refine sla_S ?_)
  | refine ⟨Nat.le_of_ble_eq_true rfl, ?_⟩
  | refine ⟨_, rfl, ?_⟩ | refine ⟨_, _, rfl, ?_⟩ | refine ⟨_, _, _, rfl, ?_⟩ | refine ⟨_, _, _, _, rfl, ?_⟩
  | exact ⟨_, .refl _, q⟩)
set_option hygiene false in
local macro_rules | `(tactic| walk) => `(tactic| repeat k_go)
set_option hygiene false in
local macro_rules | `(tactic| k_few) => `(tactic| first | refine ⟨fun _ => ?_, (fun z => Bool.noConfusion z)⟩ | refine ⟨(fun z => Bool.noConfusion z), fun _ => ?_⟩)
set_option hygiene false in
local macro_rules | `(tactic| k_not) => `(tactic| refine ⟨fun hk => ?_, fun hk => ?_⟩)
/-- the body of the for that stands at i -/
def forB (l : List Stmt) (i : Nat) : List Stmt := match l.drop i with | (Stmt.For _ _ b _ _) :: _ => b | _ => []
section
variable {P : Program} {w : World} {K : PySem.W.Frag} {mg : Str → Option Value} {base : Heap} {f : Addr} {fd : FuncData} {BK CH BT pT pF pL gI gR gB gD gC gE gS gQ gU : Addr}
theorem ne_out {C : DL.Ctx} {Γ : Gm} {L : Lp} {Q : D → Lp → Prop} (rss : List Rl) (ws : List Wd) (k : Nat) (hu : C.X.A.units + 64 < cLine) (q : Q (.bl false) L) : OpJ C (.cmp .NotEq) Γ (outK rss ws k) (outK rss ws k) L Q := by
  match k with
  | 0 => exact j_neC hu (by rw [decide_eq_true rfl]; exact q)
  | 1 => exact OpJ.of (t := .cmp .NotEq) (op_neA hu) (ne_E (α := List (List Str) × List (List Str)) (x := ((bg rss (one ws)).2, (bg rss (one ws)).1)) (y := ((bg rss (one ws)).2, (bg rss (one ws)).1)) (by rw [decide_eq_true rfl]; exact q))
  | k + 2 =>
    have e : outK rss ws (k + 2) = Enc.enc (α := List (T3 Nat (List Str) Nat)) ((st1 (rss.headD []) (one ws)).map fun s => ⟨s.1, s.2.1, s.2.2⟩) := by
      show D.tup _ = D.tup (List.map _ (List.map _ _))
      rw [List.map_map]
      rfl
    rw [e]
    exact j_neX hu (DL.enc_ok _) (Nat.le_trans (Enc.dpt _) (by decide)) q
/-- == of books and of chains -/
structure RwE (P : Program) (w : World) (K : PySem.W.Frag) (mg : Str → Option Value) (base : Heap) (BK CH gQ gU : Addr) : Prop where
  bi : SlX.SIsi K BK
  ci : SlX.SIsi K CH
  be : PySem.W.findIn K (.ref BK) "__eq__" = some (some (.ref gQ))
  bef : PySem.W.isFn K (.ref gQ) = true
  fbe : FnA P w K mg base 4 gQ (sp_Book_eq K BK)
  ce : PySem.W.findIn K (.ref CH) "__eq__" = some (some (.ref gU))
  cef : PySem.W.isFn K (.ref gU) = true
  fce : FnA P w K mg base 13 gU (sp_Chain_eq K CH BK)
def sp_right (CH BK : Addr) : SpA := fun ds L Q _ => ∃ (p : Addr) (mo : MO) (L0 : Lp), ds = [.ptr p] ∧ L = put L0 p mo ∧ L0 p = none ∧ isPot 0 mo ∧ Q (.bl true) L0
set_option maxHeartbeats 0 in
theorem right_ok (F : Fun K "_law_right" "_law_right" s__law_right f fd) (hb : Binds K fd ["_law_pot_here"] []) (B : Bl mg) (hsy : ∃ o, base.get? sysModules = some o) (C1 : RwD P w K mg base BK CH BT pT pF pL gI gR gB gD gC gE gS) (C2 : RwE P w K mg base BK CH gQ gU) (d1 : Def P w K mg base "_law_take" 1 sp_take) (d2 : Def P w K mg base "_law_names" 4 sp_names) (d3 : Def P w K mg base "_law_book" 5 sp_book)
    (d4 : Def P w K mg base "_law_side" 14 (sp_side CH BK)) (d5 : Def P w K mg base "_law_thing" 15 sp_thing) (d6 : Def P w K mg base "_law_fits_words" 2 sp_fits_words) (d7 : Def P w K mg base "_law_asked" 8 (sp_asked CH BK)) (d8 : Def P w K mg base "_law_made" 2 sp_made) : FnG P w K mg base 17 f (sp_right CH BK) := by
  refine fnG F sc__law_right hb (fun ds L Q R h => by obtain ⟨_, _, _, rfl, _⟩ := h; rfl) fun cdv A outer s H E ds L Q R hr hg h => ?_
  obtain ⟨p, mo, L0, rfl, rfl, hp0, hpot, q⟩ := h
  walk
  refine ⟨p, mo, 0, 5, rfl, put_same, hpot, by omega, by omega, by omega, fun j mo1 hj h1 => ?_⟩
  walk
  refine ⟨p, mo1, 1, 1 + j, rfl, put_same, h1, by omega, by omega, by omega, fun nl ys mo2 hnl hnp hyl hyw h2 => ?_⟩
  rw [put_put] at hnl ⊢
  have hnl0 : L0 nl = none := by rw [put_ne hnp] at hnl; exact hnl
  have eS : St2 (put L0 p mo1) p mo2 nl (.lst (ys.map .str)) = St2 L0 p mo2 nl (.lst (ys.map .str)) := by
    unfold St2
    rw [put_put]
  rw [eS]
  have hN : NmOk (St2 L0 p mo2 nl (.lst (ys.map .str))) p nl ys := ⟨St2.n, hnp, by omega, by omega, hyw⟩
  have hP : St2 L0 p mo2 nl (.lst (ys.map .str)) p = some mo2 := St2.p hnp
  have hle : Le L0 (St2 L0 p mo2 nl (.lst (ys.map .str))) := (le_put hp0).trans (St2.le hnl0 hnp)
  generalize St2 L0 p mo2 nl (.lst (ys.map .str)) = L3 at hN hP hle
  have hle5 : ∀ mo, Le L0 (put L3 p mo) := fun mo a o e => by
    have : a ≠ p := fun z => by rw [z, hp0] at e; cases e
    rw [put_ne this]
    exact hle a o e
  walk
  refine al_lc [("_law_lap", 3)] (ai_range1 B.range ?_)
  walk
  refine ⟨p, mo2, 501, 2, rfl, hP, h2, by omega, by omega, by omega, fun n mo3 hn h3 => ?_⟩
  walk
  refine ⟨by omega, by omega, ?_⟩
  rw [show (1 + (n : Int)).toNat = 1 + n by omega]
  refine ⟨fun i acc L2 => ∃ (mo5 : MO) (rss : List Rl), isPot (502 + 500 * i) mo5 ∧ L2 = put L3 p mo5 ∧ acc = rss.map dR ∧ rss.length = i ∧ ∀ rs ∈ rss, RuOk rs, ⟨mo3, [], h3, rfl, rfl, rfl, (fun _ h => nomatch h)⟩, fun _ _ _ _ => trivial, ?_, ?_⟩
  · rintro i d acc L2 hd ⟨mo5, rss, h5, rfl, rfl, hl, hR⟩
    have hi := (rangeD_inv hd).1
    refine ⟨_, _, fun j hj => hj, fun s H Cc cl fp => ⟨ag_name 3, ats_nil ⟨fun _ s H Cc cl fp => ?_, fun z => by cases z⟩⟩⟩
    walk
    refine ⟨p, nl, mo5, 502 + 500 * i, 5, ys, rfl, put_same, h5, by omega, by omega, hN.put mo5, fun r mo6 hr6 hrl h6 => ⟨by rw [List.length_map, sl_eq]; omega, mo6, rss ++ [r], h6.mono (by omega), put_put, by rw [List.map_append]; rfl, by rw [List.length_append, hl]; rfl, fun rs h => ?_⟩⟩
    rcases List.mem_append.mp h with h | h
    · exact hR rs h
    · rw [List.mem_singleton.mp h]; exact hr6
  rintro acc L2 ⟨mo5, rss, h5, rfl, rfl, hl, hR⟩
  rw [rangeD_len] at hl h5
  refine as_cons (as_par 4 5 (aa_cons ?_))
  walk
  refine ⟨by omega, by omega, hR, fun x hx => aa_cons ?_⟩
  walk
  refine ⟨by omega, by omega, hR, fun x' hx' => aa_nil ⟨_, _, rfl, ?_⟩⟩
  have ex : x' = x := by
    rcases hx with ⟨r, e, rfl⟩ | ⟨r1, r2, e, rfl⟩ <;> rcases hx' with ⟨r', e', rfl⟩ | ⟨r1', r2', e', rfl⟩ <;> first | (rw [e] at e'; cases e'; rfl) | (rw [e] at e'; cases e')
  subst ex
  refine as_cons (as_for (ai_range1 B.range ?_))
  walk
  refine ⟨by decide, by decide, ?_⟩
  refine ⟨fun i Γ2 L2 => ∃ (mo6 : MO) (g3 g6 g7 g8 g9 : Option D), Γ2 = [some (.ptr p), some (.ptr nl), some (.tup (rss.map dR)), g3, some x', some x', g6, g7, g8, g9] ∧ L2 = put L3 p mo6 ∧ isPot (1502 + 300 * i) mo6, ⟨mo5, _, _, _, _, _, rfl, rfl, h5.mono (by omega)⟩, fun _ _ _ _ => trivial, ?_, ?_⟩
  · rintro i d Γ2 L2 hd ⟨mo6, g3, g6, g7, g8, g9, rfl, rfl, h6⟩
    have hi : i < 5 := (rangeD_inv hd).1
    refine ⟨_, _, ag_name 3, ?_⟩
    walk
    refine ⟨p, nl, mo6, 1502 + 300 * i, ys, rfl, put_same, h6, by omega, hN.put mo6, fun v mo7 hv h7 => ?_⟩
    rw [put_put]
    walk
    refine ⟨hv.v.ok, hv.t, rfl, ?_⟩
    refine as_one (as_for (ai_range1 B.range ?_))
    walk
    rw [List.length_map]
    have hm3 : ∀ m : Nat, (m = 3 ∧ rss.length = 1) ∨ m = 2 → ∀ i2, i2 < m → (2 ≤ i2 → rss.length = 1) := fun m hm i2 h h2 => by omega
    have go : ∀ (i2 : Nat) (g8 g9 : Option D) (E2 : AEnds), (2 ≤ i2 → rss.length = 1) → (∀ g8 g9, E2.nx [some (.ptr p), some (.ptr nl), some (.tup (rss.map dR)), some d, some x', some x', some v, some (.bl (txD v)), g8, g9] (put L3 p mo7)) →
        ASs (fctx P w K mg base ["_law_pot_here", "_law_names_here", "_law_side_here", "_law_lap", "_law_rewriter", "_law_twin", "_law_value", "_law_is_good", "_law_way", "_law_told"] "_law_right" (defScope s__law_right) f cdv A outer s H E sc__law_right.nd R)
          (forB (forB (defBody s__law_right) 3) 2) [some (.ptr p), some (.ptr nl), some (.tup (rss.map dR)), some d, some x', some x', some v, some (.bl (txD v)), some (.int i2), g9] (put L3 p mo7) E2 := fun i2 g8 g9 E2 h2 nx => by
      cases htx : txD v with
      | true =>
        obtain ⟨ws, rfl, hw⟩ := txD_dW htx
        have hwl : ws.length ≤ 40 := by
          have := hv.t
          have e : tl (dW ws) = (ws.map D.str).length := rfl
          rw [e, List.length_map] at this
          exact this
        refine as_cons (as_set 9 (ae_call d7 (hr.mono (by omega)) (aa_cons (ae_name 4 rfl (aa_cons (ae_name 6 rfl (aa_cons (ae_name 8 rfl (aa_nil ⟨x', dW ws, rss, i2, rfl, hx', hR, h2, .inl ⟨ws, rfl, hw, by omega, ?_⟩⟩)))))))))
        refine as_cons (as_if (at_w (aw_and (at_not (at_val (ae_name 7 rfl ⟨_, rfl, ?_⟩))))))
        k_few
        k_few
        refine as_nil (as_cons (as_if (at_w (aw_and (at_val (ae_name 7 rfl ⟨_, rfl, fun _ => ?_, fun z => nomatch z⟩))))))
        refine aw_and1 (at_cmpJ (ae_name 9 rfl (ae_call d7 (hr.mono (by omega)) (aa_cons (ae_name 5 rfl (aa_cons (ae_name 6 rfl (aa_cons (ae_name 8 rfl (aa_nil ⟨x', dW ws, rss, i2, rfl, hx', hR, h2, .inl ⟨ws, rfl, hw, by omega, ne_out rss ws i2 (u64 hr) ⟨_, rfl, ?_⟩⟩⟩))))))))))
        k_few
        refine as_nil (as_one (as_if (at_w (aw_and (at_val (ae_name 7 rfl ⟨_, rfl, fun _ => ?_, fun z => nomatch z⟩))))))
        refine aw_and ?_
        walk
        refine ⟨fun h0 => ?_, fun h0 => ?_⟩
        · have e0 : i2 = 0 := by have := of_decide_eq_true h0; omega
          subst e0
          refine aw_and1 (at_cmpJ (ae_name 9 rfl (ae_call d8 (hr.mono (by omega)) (aa_cons (ae_name 2 rfl (aa_cons (ae_name 6 rfl (aa_nil ⟨rss, ws, rfl, hR, by omega, ?_, j_neC (u64 hr) ⟨_, rfl, ?_⟩⟩))))))))
          · have : 2 ^ rss.length ≤ 2 ^ 2 := Nat.pow_le_pow_right (by decide) (by omega)
            have := Nat.mul_le_mul hwl this
            omega
          · rw [decide_eq_true (show rwAll rss (one ws) = rwAll rss (ws.map fun w => [w]) from rfl)]
            k_few
            exact as_nil (by have z := nx (some (.int (0 : Nat))) (some (outK rss ws 0)); rw [htx] at z; exact z)
        · k_few
          exact as_nil (by have z := nx (some (.int i2)) (some (outK rss ws i2)); rw [htx] at z; exact z)
      | false =>
        refine as_cons (as_set 9 (ae_call d7 (hr.mono (by omega)) (aa_cons (ae_name 4 rfl (aa_cons (ae_name 6 rfl (aa_cons (ae_name 8 rfl (aa_nil ⟨x', v, rss, i2, rfl, hx', hR, h2, .inr ⟨hv.v.ok, htx, ?_⟩⟩)))))))))
        have vt : Vd 17 40020 (.tup [.str "refused", v]) := by
          have a1 : Vs 16 8 [.str "refused"] := (Vs.one (vd_str (x := "refused") (by decide) 16)).mono (Nat.le_refl _) (by decide)
          exact ((a1.app (Vs.one hv.v)).mono (Nat.le_refl _) (by omega)).tup
        refine as_cons (as_if (at_w (aw_and (at_not (at_val (ae_name 7 rfl ⟨_, rfl, ?_⟩))))))
        k_few
        refine aw_and1 (at_cmpJ (ae_callB (call_repr hg hsy) B.repr (aa_cons (ae_name 9 rfl (aa_nil (c_reprV vt (by decide) (by decide) (u64 hr) ?_))))))
        refine ae_callB (call_repr hg hsy) B.repr (aa_cons (ae_tup (aa_cons (ae_str (aa_cons (ae_name 6 rfl (aa_nil ⟨Nat.le_of_ble_eq_true rfl, aa_nil (c_reprV vt (by decide) (by decide) (u64 hr) ?_)⟩)))))))
        refine j_neS (u64 hr) ⟨_, rfl, ?_⟩
        rw [decide_eq_true rfl]
        k_few
        refine as_nil (as_cons (as_if (at_w (aw_and (at_val (ae_name 7 rfl ⟨_, rfl, (fun z => nomatch z), fun _ => ?_⟩))))))
        k_few
        refine as_nil (as_one (as_if (at_w (aw_and (at_val (ae_name 7 rfl ⟨_, rfl, (fun z => nomatch z), fun _ => ?_⟩))))))
        k_few
        exact as_nil (by have z := nx (some (.int i2)) (some (.tup [.str "refused", v])); rw [htx] at z; exact z)
    have inn : ∀ (m : Nat), (∀ i2, i2 < m → 2 ≤ i2 → rss.length = 1) → ∀ (i2 : Nat) (d2 : D) (Γ2 : Gm) (L2 : Lp), (rangeD 0 m)[i2]? = some d2 → (∃ g8 g9 : Option D, Γ2 = [some (.ptr p), some (.ptr nl), some (.tup (rss.map dR)), some d, some x', some x', some v, some (.bl (txD v)), g8, g9] ∧ L2 = put L3 p mo7) → i2 < m ∧ d2 = .int i2 := fun m hm i2 d2 Γ2 L2 h _ => by
      have hi2 := (rangeD_inv h).1
      refine ⟨hi2, ?_⟩
      rw [rangeD_get hi2] at h
      cases h
      simp
    refine ⟨fun h1 => ae_int ⟨3, rfl, by decide, by decide, ?_⟩, fun h1 => ae_int ⟨2, rfl, by decide, by decide, ?_⟩⟩
    · have h1 : rss.length = 1 := by have := of_decide_eq_true h1; omega
      refine ⟨fun i2 Γ2 L2 => ∃ g8 g9 : Option D, Γ2 = [some (.ptr p), some (.ptr nl), some (.tup (rss.map dR)), some d, some x', some x', some v, some (.bl (txD v)), g8, g9] ∧ L2 = put L3 p mo7, ⟨_, _, rfl, rfl⟩, fun _ _ _ _ => trivial, ?_, ?_⟩
      · intro i2 d2 Γ2 L2 hd2 hI
        obtain ⟨hi2, rfl⟩ := inn 3 (fun _ _ _ => h1) i2 d2 Γ2 L2 hd2 hI
        obtain ⟨g8, g9, rfl, rfl⟩ := hI
        exact ⟨_, _, ag_name 8, go i2 g8 g9 _ (fun _ => h1) fun g8 g9 => ⟨g8, g9, rfl, rfl⟩⟩
      · rintro Γ2 L2 ⟨g8, g9, rfl, rfl⟩
        exact ⟨mo7, _, _, _, _, _, rfl, rfl, h7.mono (by omega)⟩
    · refine ⟨fun i2 Γ2 L2 => ∃ g8 g9 : Option D, Γ2 = [some (.ptr p), some (.ptr nl), some (.tup (rss.map dR)), some d, some x', some x', some v, some (.bl (txD v)), g8, g9] ∧ L2 = put L3 p mo7, ⟨_, _, rfl, rfl⟩, fun _ _ _ _ => trivial, ?_, ?_⟩
      · intro i2 d2 Γ2 L2 hd2 hI
        obtain ⟨hi2, rfl⟩ := inn 2 (fun i2 a b => by omega) i2 d2 Γ2 L2 hd2 hI
        obtain ⟨g8, g9, rfl, rfl⟩ := hI
        exact ⟨_, _, ag_name 8, go i2 g8 g9 _ (fun h => by omega) fun g8 g9 => ⟨g8, g9, rfl, rfl⟩⟩
      · rintro Γ2 L2 ⟨g8, g9, rfl, rfl⟩
        exact ⟨mo7, _, _, _, _, _, rfl, rfl, h7.mono (by omega)⟩
  · rintro Γ2 L2 ⟨mo6, g3, g6, g7, g8, g9, rfl, rfl, h6⟩
    refine as_one (as_ret (ae_cmpJ (ae_name 4 rfl (ae_name 5 rfl ?_))))
    rcases hx' with ⟨r, rfl, rfl⟩ | ⟨r1, r2, rfl, rfl⟩
    · have k1 := hR r List.mem_cons_self
      refine j_cmpO (op := .Eq) C2.be C2.bef C2.fbe (hr.mono (by omega)) fBk.bk.ins (.ins C1.bc.sc C2.bi fBk.bk.ins) (by simp [PySem.W.notFirst]) (.inl ⟨_, _, r, r, rfl, fBk.bk, fBk.bk, k1, k1, ?_⟩)
      rw [decide_eq_true rfl]
      exact ⟨L0, hle5 mo6, q⟩
    · have k1 := hR r1 List.mem_cons_self
      have k2 := hR r2 (List.mem_cons_of_mem _ List.mem_cons_self)
      refine j_cmpO (op := .Eq) C2.ce C2.cef C2.fce (hr.mono (by omega)) fCh.ch.h1.ins (.ins C1.cc.sc C2.ci fCh.ch.h1.ins) (by simp [PySem.W.notFirst]) (.inl ⟨r1, r2, r1, r2, rfl, k1, k2, k1, k2, ?_⟩)
      rw [decide_eq_true (rfl : r1 = r1), decide_eq_true (rfl : r2 = r2)]
      exact ⟨L0, hle5 mo6, q⟩
end
end K
namespace K
open PySem PySem.Spec PyProof.Rows L2 DL
set_option hygiene false in
local macro_rules | `(tactic| k_get) => `(tactic| first
  | refine ae_name 0 rfl ?_ | refine ae_name 1 rfl ?_ | refine ae_name 2 rfl ?_ | refine ae_name 3 rfl ?_ | refine ae_name 4 rfl ?_ | refine ae_name 5 rfl ?_ | refine ae_name 6 rfl ?_ | refine ae_name 7 rfl ?_ | refine ae_name 8 rfl ?_ | refine ae_name 9 rfl ?_ | refine ae_name 10 rfl ?_ | refine ae_name 11 rfl ?_ | refine ae_name 12 rfl ?_
  | refine ae_int ?_ | refine ae_bl ?_ | refine ae_non ?_ | refine ae_str ?_ | refine ae_tup ?_ | refine ae_lst ?_
  | refine ae_and ?_ | refine ae_or ?_ | refine ae_one ?_ | refine ae_not ?_ | refine ae_neg ?_ | refine ae_ifExp ?_
  | refine ae_eq (u64 hr) ?_ | refine ae_ne (u64 hr) ?_ | refine ae_lt (u64 hr) ?_ | refine ae_le ?_ | refine ae_gt ?_ | refine ae_ge ?_ | refine ae_in (u1 hr) ?_ | refine ae_nin (u1 hr) ?_ | refine ae_is ?_ | refine ae_isn ?_
  | refine ae_lele ?_
  | refine ae_add ?_ | refine ae_sub ?_ | refine ae_mul ?_ | refine ae_mod ?_ | refine ae_div ?_
  | refine ae_slice sl_A ?_ | refine ae_ix (ix_A (u1 hr)) ?_
  | refine ae_c_len B.len ?_ | refine ae_c_int B.int ?_ | refine ae_c_abs B.abs ?_ | refine ae_c_max B.max ?_ | refine ae_c_min B.min ?_ | refine ae_c_isi B.isinstance ?_
  | refine ae_tupL B.tuple (?_ : AL _ (.ListComp _ _ _ _) _ _ _) | refine ae_c_tuple B.tuple ?_ | refine ae_allL B.all ?_ | refine ae_anyL B.any ?_
  | refine ae_call (by assumption) (hr.mono (by omega)) ?_
  | refine ae_append ?_
  | refine ae_bltn (T := "tuple") B.tuple (by decide +kernel) ?_ | refine ae_bltn (T := "str") B.str (by decide +kernel) ?_ | refine ae_bltn (T := "list") B.list (by decide +kernel) ?_ | refine ae_bltn (T := "int") B.int (by decide +kernel) ?_ | refine ae_bltn (T := "bool") B.bool (by decide +kernel) ?_ )
set_option hygiene false in
local macro_rules | `(tactic| k_put) => `(tactic| first
  | refine add_I ?_ | refine add_T ?_ ?_ | refine add_S ?_ ?_ | refine sub_I ?_ | refine eq_I ?_ | refine ne_I ?_ | refine eq_S ?_ | refine ne_S ?_ | refine lt_I ?_ | refine lt_S ?_ | refine le_I ?_ | refine gt_I ?_ | refine ge_I ?_
  | refine isa_N ?_ | refine isnota_N ?_ | refine ixa_T ?_ rfl | refine ixa_N ?_ rfl | refine ixa_R (by assumption) ?_ rfl | refine mod_I ?_ ?_ | refine div_I ?_ ?_ | refine mul_I ?_ ?_ | refine mul_S ?_ ?_ ?_ ?_ | refine in_W (by assumption) ?_ | refine notIn_W (by assumption) ?_ | refine in_sign ?_ | refine in_L (by assumption) ?_ | refine notIn_L (by assumption) ?_ | refine in_T ?_ | refine notIn_T ?_ | refine eq_W0 ?_ | refine eq_W ?_ | refine ne_W ?_ | refine eq_C ?_ | refine ne_C ?_ | refine r_ipI ?_ )
set_option hygiene false in
local macro_rules | `(tactic| k_go) => `(tactic| first
  | (show DL.ASs _ _ _ _ _; first | refine as_one ?_ | refine as_cons ?_ | refine as_nil ?_)
  | (show DL.AS _ _ _ _ _; first | refine as_ret ?_ | refine as_if ?_ | refine as_expr ?_ | refine as_set 0 ?_ | refine as_set 1 ?_ | refine as_set 2 ?_ | refine as_set 3 ?_ | refine as_set 4 ?_ | refine as_set 5 ?_ | refine as_set 6 ?_ | refine as_set 7 ?_ | refine as_set 8 ?_ | refine as_set 9 ?_ | refine as_set 10 ?_ | refine as_set 11 ?_ | refine as_aug 0 ip_add rfl ?_ | refine as_aug 1 ip_add rfl ?_ | refine as_aug 2 ip_add rfl ?_ | refine as_aug 3 ip_add rfl ?_ | refine as_aug 4 ip_add rfl ?_ | refine as_aug 5 ip_add rfl ?_ | refine as_aug 6 ip_add rfl ?_ | refine as_retN ?_ | refine as_pass ?_ | refine as_break ?_ | refine as_continue ?_)
  | (show AE _ _ _ _ _; k_get)
  | (show AT _ _ _ _ _; first | refine at_w (?_ : AW _ (.BoolOp _ _ _) _ _ _) | refine at_not ?_ | refine at_eq (u64 hr) ?_ | refine at_ne (u64 hr) ?_ | refine at_lt (u64 hr) ?_ | refine at_le ?_ | refine at_gt ?_ | refine at_ge ?_ | refine at_in (u1 hr) ?_ | refine at_nin (u1 hr) ?_ | refine at_is ?_ | refine at_isn ?_ | refine at_lele ?_ | refine at_val ?_)
  | (show AW _ _ _ _ _; first | refine aw_and ?_ | refine aw_or ?_ | refine aw_and1 ?_ | refine aw_or1 ?_)
  | (show AA _ _ _ _ _; first | refine aa_cons ?_ | refine aa_nil ?_)
  | (show AO _ _ _ _ _; first | refine ao_some ?_ | refine ao_none ?_)
  | (show L2R _ _ _ _ _ _; k_put)
  | (show LcR _ _ _ _ _; first | refine len_T ?_ | refine len_N ?_ | refine len_S ?_ | refine len_L (by assumption) ?_ | refine len_D (by assumption) ?_ | refine c_intI ?_ | refine c_intB ?_ | refine c_abs ?_ | refine c_max ?_ | refine c_min ?_ | refine c_tupT ?_ | refine lr_tup (by assumption) ?_ | refine isi_tt ?_ | refine isi_ii ?_ | refine isi_ib ?_ | refine isi_ss ?_ | refine isi_is ?_ | refine isi_ts ?_ | refine isi_st ?_ | refine isi_bb ?_)
  | (show LsR _ _ _ _ _ _ _; first | refine sla_T ?_ | refine sla_S ?_)
  | refine ⟨Nat.le_of_ble_eq_true rfl, ?_⟩
  | refine ⟨_, rfl, ?_⟩ | refine ⟨_, _, rfl, ?_⟩ | refine ⟨_, _, _, rfl, ?_⟩ | refine ⟨_, _, _, _, rfl, ?_⟩
  | exact ⟨_, .refl _, q⟩)
set_option hygiene false in
local macro_rules | `(tactic| walk) => `(tactic| repeat k_go)
set_option hygiene false in
local macro_rules | `(tactic| k_few) => `(tactic| first | refine ⟨fun _ => ?_, (fun z => Bool.noConfusion z)⟩ | refine ⟨(fun z => Bool.noConfusion z), fun _ => ?_⟩)
set_option hygiene false in
local macro_rules | `(tactic| k_not) => `(tactic| refine ⟨fun hk => ?_, fun hk => ?_⟩)
section
variable {P : Program} {w : World} {K : PySem.W.Frag} {mg : Str → Option Value} {base : Heap} {f : Addr} {fd : FuncData} {BK CH : Addr}
def sp_law : SpA := fun ds L Q _ => ∃ ns : List Int, ds = [.ilst ns] ∧ Q (.bl true) L
theorem law_ok (F : Fun K "law" "law" s_law f fd) (hb : Binds K fd ["_law_script"] []) (B : Bl mg) (d1 : Def P w K mg base "_law_pot" 1 sp_pot) (d2 : DefG P w K mg base "_law_right" 17 (sp_right CH BK)) : FnG P w K mg base 18 f sp_law := by
  refine fnG F sc_law hb (fun ds L Q R h => by obtain ⟨_, rfl, _⟩ := h; rfl) fun cdv A outer s H E ds L Q R hr hg h => ?_
  obtain ⟨ns, rfl, q⟩ := h
  walk
  refine al_map1 1 (ai_range1 B.range ?_)
  walk
  generalize hN : (if (if (ns.length : Int) < 4 then (ns.length : Int) else 4) > 1 then (if (ns.length : Int) < 4 then (ns.length : Int) else 4) else 1) = N
  have h1 : 1 ≤ N ∧ N ≤ 4 := by
    subst hN
    split <;> split at * <;> omega
  refine ⟨by omega, by omega, _, List.range N.toNat, fun k => .int (0 + (k : Nat)), fun _ => .bl true, rfl, trivial, by rw [rangeD_len, sl_eq]; omega, fun y hy s H Cc cl fp Q q => ?_, (List.range N.toNat).map fun _ => true, by rw [List.map_map]; rfl, ?_⟩
  · have hy := List.mem_range.mp hy
    refine ae_callG d2 (hr.mono (by omega)) hg ?_
    walk
    refine ⟨by show (0 : Nat) + y < 1000; omega, fun p mo hp hpot => ?_⟩
    walk
    exact ⟨p, mo, L, rfl, rfl, hp, hpot, q⟩
  · rw [show ((List.range N.toNat).map fun _ => true).all id = true by rw [List.all_map]; exact List.all_eq_true.mpr fun _ _ => rfl]
    exact ⟨_, .refl _, q⟩
end
end K
namespace K
open PySem PySem.Spec PyProof.Rows L2 DL
theorem bt_mk {P : Program} {w : World} {K : PySem.W.Frag} {mg : Str → Option Value} {base : Heap} {f : Addr} {fd : FuncData} {BT : Addr} (F : FunX K "__init__" "WideError.__init__" s_WideError___init__ f fd) (hb : Binds K fd ["self", "value"] []) (T : OexC K BT) (nm : mg "BadText" = some (.ref BT)) (hI : PySem.W.findIn K (.ref BT) "__init__" = some (some (.ref f))) (hT : PySem.W.typeIn K (.ref f) = some (.type "function"))
    (no : PySem.W.findIn K (.ref BT) "value" = some none) (xf : XfC K BT) (xm : PySem.W.exmOne K (.ref BT) (.ref BT) = some true) : BtX P w K mg base BT :=
  ⟨⟨T, nm, f, fd, "value", hI, hT, hb, (fn_we F sc_WideError___init__ rfl (by decide) (by decide)).imp fun vs H Q E h => spG_we T no h⟩, xf, no, xm⟩
end K
namespace K
open PySem PySem.Spec PyProof.Rows L2 DL
set_option maxHeartbeats 0 in
theorem all_mk {l : PySem.W.OpenLaw} {w : World} {K : PySem.W.Frag} {mg : Str → Option Value} {fa : Addr} {h : Heap} (X : K.In h) (G : h.Ns mainGlobals mg) (hfa : mg "law" = some (.ref fa))
    {f0 : Addr} {od0 an0 : Option Addr} {sl0 : Array (Option Value)} {oc0 kV0 dc0 pm0 cd0 ct0 : Value} {f1 : Addr} {od1 an1 : Option Addr} {sl1 : Array (Option Value)} {oc1 kV1 dc1 pm1 cd1 ct1 : Value} {f2 : Addr} {od2 an2 : Option Addr} {sl2 : Array (Option Value)} {oc2 kV2 dc2 pm2 cd2 ct2 : Value} {f3 : Addr} {od3 an3 : Option Addr} {sl3 : Array (Option Value)} {oc3 kV3 dc3 pm3 cd3 ct3 : Value} {f4 : Addr} {od4 an4 : Option Addr} {sl4 : Array (Option Value)} {oc4 kV4 dc4 pm4 cd4 ct4 : Value} {f5 : Addr} {od5 an5 : Option Addr} {sl5 : Array (Option Value)} {oc5 kV5 dc5 pm5 cd5 ct5 : Value} {f6 : Addr} {od6 an6 : Option Addr} {sl6 : Array (Option Value)} {oc6 kV6 dc6 pm6 cd6 ct6 : Value} {f7 : Addr} {od7 an7 : Option Addr} {sl7 : Array (Option Value)} {oc7 kV7 dc7 pm7 cd7 ct7 : Value} {f8 : Addr} {od8 an8 : Option Addr} {sl8 : Array (Option Value)} {oc8 kV8 dc8 pm8 cd8 ct8 : Value} {f9 : Addr} {od9 an9 : Option Addr} {sl9 : Array (Option Value)} {oc9 kV9 dc9 pm9 cd9 ct9 : Value} {f10 : Addr} {od10 an10 : Option Addr} {sl10 : Array (Option Value)} {oc10 kV10 dc10 pm10 cd10 ct10 : Value} {f11 : Addr} {od11 an11 : Option Addr} {sl11 : Array (Option Value)} {oc11 kV11 dc11 pm11 cd11 ct11 : Value} {f12 : Addr} {od12 an12 : Option Addr} {sl12 : Array (Option Value)} {oc12 kV12 dc12 pm12 cd12 ct12 : Value} {f13 : Addr} {od13 an13 : Option Addr} {sl13 : Array (Option Value)} {oc13 kV13 dc13 pm13 cd13 ct13 : Value} {f14 : Addr} {od14 an14 : Option Addr} {sl14 : Array (Option Value)} {oc14 kV14 dc14 pm14 cd14 ct14 : Value} {f15 : Addr} {od15 an15 : Option Addr} {sl15 : Array (Option Value)} {oc15 kV15 dc15 pm15 cd15 ct15 : Value} {f16 : Addr} {od16 an16 : Option Addr} {sl16 : Array (Option Value)} {oc16 kV16 dc16 pm16 cd16 ct16 : Value} {f17 : Addr} {od17 an17 : Option Addr} {sl17 : Array (Option Value)} {oc17 kV17 dc17 pm17 cd17 ct17 : Value} {f28 : Addr} {od28 an28 : Option Addr} {sl28 : Array (Option Value)} {oc28 kV28 dc28 pm28 cd28 ct28 : Value} {f29 : Addr} {od29 an29 : Option Addr} {sl29 : Array (Option Value)} {oc29 kV29 dc29 pm29 cd29 ct29 : Value} {f35 : Addr} {od35 an35 : Option Addr} {sl35 : Array (Option Value)} {oc35 kV35 dc35 pm35 cd35 ct35 : Value} {f36 : Addr} {od36 an36 : Option Addr} {sl36 : Array (Option Value)} {oc36 kV36 dc36 pm36 cd36 ct36 : Value} {f37 : Addr} {od37 an37 : Option Addr} {sl37 : Array (Option Value)} {oc37 kV37 dc37 pm37 cd37 ct37 : Value} {f38 : Addr} {od38 an38 : Option Addr} {sl38 : Array (Option Value)} {oc38 kV38 dc38 pm38 cd38 ct38 : Value} {f39 : Addr} {od39 an39 : Option Addr} {sl39 : Array (Option Value)} {oc39 kV39 dc39 pm39 cd39 ct39 : Value} {f40 : Addr} {od40 an40 : Option Addr} {sl40 : Array (Option Value)} {oc40 kV40 dc40 pm40 cd40 ct40 : Value} {f41 : Addr} {od41 an41 : Option Addr} {sl41 : Array (Option Value)} {oc41 kV41 dc41 pm41 cd41 ct41 : Value} {f42 : Addr} {od42 an42 : Option Addr} {sl42 : Array (Option Value)} {oc42 kV42 dc42 pm42 cd42 ct42 : Value} {f43 : Addr} {od43 an43 : Option Addr} {sl43 : Array (Option Value)} {oc43 kV43 dc43 pm43 cd43 ct43 : Value} {f44 : Addr} {od44 an44 : Option Addr} {sl44 : Array (Option Value)} {oc44 kV44 dc44 pm44 cd44 ct44 : Value} {f45 : Addr} {od45 an45 : Option Addr} {sl45 : Array (Option Value)} {oc45 kV45 dc45 pm45 cd45 ct45 : Value} {f46 : Addr} {od46 an46 : Option Addr} {sl46 : Array (Option Value)} {oc46 kV46 dc46 pm46 cd46 ct46 : Value} {f47 : Addr} {od47 an47 : Option Addr} {sl47 : Array (Option Value)} {oc47 kV47 dc47 pm47 cd47 ct47 : Value} {f48 : Addr} {od48 an48 : Option Addr} {sl48 : Array (Option Value)} {oc48 kV48 dc48 pm48 cd48 ct48 : Value} {f49 : Addr} {od49 an49 : Option Addr} {sl49 : Array (Option Value)} {oc49 kV49 dc49 pm49 cd49 ct49 : Value} {f50 : Addr} {od50 an50 : Option Addr} {sl50 : Array (Option Value)} {oc50 kV50 dc50 pm50 cd50 ct50 : Value} {f51 : Addr} {od51 an51 : Option Addr} {sl51 : Array (Option Value)} {oc51 kV51 dc51 pm51 cd51 ct51 : Value} {f52 : Addr} {od52 an52 : Option Addr} {sl52 : Array (Option Value)} {oc52 kV52 dc52 pm52 cd52 ct52 : Value} {f53 : Addr} {od53 an53 : Option Addr} {sl53 : Array (Option Value)} {oc53 kV53 dc53 pm53 cd53 ct53 : Value} {f54 : Addr} {od54 an54 : Option Addr} {sl54 : Array (Option Value)} {oc54 kV54 dc54 pm54 cd54 ct54 : Value} {f55 : Addr} {od55 an55 : Option Addr} {sl55 : Array (Option Value)} {oc55 kV55 dc55 pm55 cd55 ct55 : Value} {t_MOST_KEY_rewriting : Tok} {t_MOST_LETTERS : Tok} {t_LETTERS : Tok} {t_MOST_KEY_words : Tok} {t_MOST_CELL : Tok} {t_MOST_CELLS : Tok} {t_MOST_RULES : Tok} {BK : Addr} {p_Book_table : Addr} {pp_Book_rules : Addr} {rr_Book_rules : List Value} {CH : Addr} {p_Chain_former : Addr} {p_Chain_latter : Addr} {pp_Chain_books : Addr} {rr_Chain_books : List Value} {TI18 : Addr} {ocT18 : Value} {odT18 : Option Addr} {nT18 : Nat} {slT18 : Array (Option Value)} {dI18_0 : Value} {f18 : Addr} {od18 an18 : Option Addr} {sl18 : Array (Option Value)} {oc18 kV18 dc18 pm18 cd18 ct18 : Value} {f19 : Addr} {od19 an19 : Option Addr} {sl19 : Array (Option Value)} {oc19 kV19 dc19 pm19 cd19 ct19 : Value} {f20 : Addr} {od20 an20 : Option Addr} {sl20 : Array (Option Value)} {oc20 kV20 dc20 pm20 cd20 ct20 : Value} {f21 : Addr} {od21 an21 : Option Addr} {sl21 : Array (Option Value)} {oc21 kV21 dc21 pm21 cd21 ct21 : Value} {f22 : Addr} {od22 an22 : Option Addr} {sl22 : Array (Option Value)} {oc22 kV22 dc22 pm22 cd22 ct22 : Value} {f23 : Addr} {od23 an23 : Option Addr} {sl23 : Array (Option Value)} {oc23 kV23 dc23 pm23 cd23 ct23 : Value} {f24 : Addr} {od24 an24 : Option Addr} {sl24 : Array (Option Value)} {oc24 kV24 dc24 pm24 cd24 ct24 : Value} {f25 : Addr} {od25 an25 : Option Addr} {sl25 : Array (Option Value)} {oc25 kV25 dc25 pm25 cd25 ct25 : Value} {f26 : Addr} {od26 an26 : Option Addr} {sl26 : Array (Option Value)} {oc26 kV26 dc26 pm26 cd26 ct26 : Value} {f27 : Addr} {od27 an27 : Option Addr} {sl27 : Array (Option Value)} {oc27 kV27 dc27 pm27 cd27 ct27 : Value} {f30 : Addr} {od30 an30 : Option Addr} {sl30 : Array (Option Value)} {oc30 kV30 dc30 pm30 cd30 ct30 : Value} {f31 : Addr} {od31 an31 : Option Addr} {sl31 : Array (Option Value)} {oc31 kV31 dc31 pm31 cd31 ct31 : Value} {f32 : Addr} {od32 an32 : Option Addr} {sl32 : Array (Option Value)} {oc32 kV32 dc32 pm32 cd32 ct32 : Value} {f33 : Addr} {od33 an33 : Option Addr} {sl33 : Array (Option Value)} {oc33 kV33 dc33 pm33 cd33 ct33 : Value} {f34 : Addr} {od34 an34 : Option Addr} {sl34 : Array (Option Value)} {oc34 kV34 dc34 pm34 cd34 ct34 : Value} {TIE_WideError___init__ : Addr} {ocTE_WideError___init__ : Value} {odTE_WideError___init__ : Option Addr} {nTE_WideError___init__ : Nat} {slTE_WideError___init__ : Array (Option Value)} {dIE_WideError___init__ : Value} {fE_WideError___init__ : Addr} {odE_WideError___init__ anE_WideError___init__ : Option Addr} {slE_WideError___init__ : Array (Option Value)} {ocE_WideError___init__ kVE_WideError___init__ dcE_WideError___init__ pmE_WideError___init__ cdE_WideError___init__ ctE_WideError___init__ : Value} {BT : Addr} {enm_BT : Str} {eq_BT : Str} {eN_BT : Addr} {ebs_BT : List Value} {ebm_BT : List Value} {esn_BT : List Str} {esub_BT : List Value} {eab_BT : Bool} {ecol_BT : Option Bool} {edd_BT : Option Addr} {ek0_BT : Option Value} {ek1_BT : Option Value} {ek2_BT : Option Value} {ek3_BT : Option Value} {ek5_BT : Option Value}
    (a0 : PySem.W.nsIn K mainGlobals "cells_of" = some (some (.ref f0)))
    (l0 : K.lookup f0 = some ⟨oc0, od0, .func (PySem.W.fnOf "cells_of" "cells_of" (defArgs s_cells_of) (defBody s_cells_of) (defScope s_cells_of) .none kV0 dc0 pm0 an0 cd0 ct0), sl0⟩)
    (c0 : PySem.W.codeIn K cd0 "cells_of" = true)
    (k0 : PySem.W.keepIn K (.ref f0) = true)
    (a1 : PySem.W.nsIn K mainGlobals "words_at" = some (some (.ref f1)))
    (l1 : K.lookup f1 = some ⟨oc1, od1, .func (PySem.W.fnOf "words_at" "words_at" (defArgs s_words_at) (defBody s_words_at) (defScope s_words_at) .none kV1 dc1 pm1 an1 cd1 ct1), sl1⟩)
    (c1 : PySem.W.codeIn K cd1 "words_at" = true)
    (k1 : PySem.W.keepIn K (.ref f1) = true)
    (a2 : PySem.W.nsIn K mainGlobals "key_at" = some (some (.ref f2)))
    (l2 : K.lookup f2 = some ⟨oc2, od2, .func (PySem.W.fnOf "key_at" "key_at" (defArgs s_key_at) (defBody s_key_at) (defScope s_key_at) .none kV2 dc2 pm2 an2 cd2 ct2), sl2⟩)
    (c2 : PySem.W.codeIn K cd2 "key_at" = true)
    (k2 : PySem.W.keepIn K (.ref f2) = true)
    (a3 : PySem.W.nsIn K mainGlobals "is_waiting" = some (some (.ref f3)))
    (l3 : K.lookup f3 = some ⟨oc3, od3, .func (PySem.W.fnOf "is_waiting" "is_waiting" (defArgs s_is_waiting) (defBody s_is_waiting) (defScope s_is_waiting) .none kV3 dc3 pm3 an3 cd3 ct3), sl3⟩)
    (c3 : PySem.W.codeIn K cd3 "is_waiting" = true)
    (k3 : PySem.W.keepIn K (.ref f3) = true)
    (a4 : PySem.W.nsIn K mainGlobals "rewritten" = some (some (.ref f4)))
    (l4 : K.lookup f4 = some ⟨oc4, od4, .func (PySem.W.fnOf "rewritten" "rewritten" (defArgs s_rewritten) (defBody s_rewritten) (defScope s_rewritten) .none kV4 dc4 pm4 an4 cd4 ct4), sl4⟩)
    (c4 : PySem.W.codeIn K cd4 "rewritten" = true)
    (k4 : PySem.W.keepIn K (.ref f4) = true)
    (a5 : PySem.W.nsIn K mainGlobals "through" = some (some (.ref f5)))
    (l5 : K.lookup f5 = some ⟨oc5, od5, .func (PySem.W.fnOf "through" "through" (defArgs s_through) (defBody s_through) (defScope s_through) .none kV5 dc5 pm5 an5 cd5 ct5), sl5⟩)
    (c5 : PySem.W.codeIn K cd5 "through" = true)
    (k5 : PySem.W.keepIn K (.ref f5) = true)
    (a6 : PySem.W.nsIn K mainGlobals "nothing_pending" = some (some (.ref f6)))
    (l6 : K.lookup f6 = some ⟨oc6, od6, .func (PySem.W.fnOf "nothing_pending" "nothing_pending" (defArgs s_nothing_pending) (defBody s_nothing_pending) (defScope s_nothing_pending) .none kV6 dc6 pm6 an6 cd6 ct6), sl6⟩)
    (c6 : PySem.W.codeIn K cd6 "nothing_pending" = true)
    (k6 : PySem.W.keepIn K (.ref f6) = true)
    (a7 : PySem.W.nsIn K mainGlobals "written" = some (some (.ref f7)))
    (l7 : K.lookup f7 = some ⟨oc7, od7, .func (PySem.W.fnOf "written" "written" (defArgs s_written) (defBody s_written) (defScope s_written) .none kV7 dc7 pm7 an7 cd7 ct7), sl7⟩)
    (c7 : PySem.W.codeIn K cd7 "written" = true)
    (k7 : PySem.W.keepIn K (.ref f7) = true)
    (a8 : PySem.W.nsIn K mainGlobals "is_word" = some (some (.ref f8)))
    (l8 : K.lookup f8 = some ⟨oc8, od8, .func (PySem.W.fnOf "is_word" "is_word" (defArgs s_is_word) (defBody s_is_word) (defScope s_is_word) .none kV8 dc8 pm8 an8 cd8 ct8), sl8⟩)
    (c8 : PySem.W.codeIn K cd8 "is_word" = true)
    (k8 : PySem.W.keepIn K (.ref f8) = true)
    (a9 : PySem.W.nsIn K mainGlobals "is_text" = some (some (.ref f9)))
    (l9 : K.lookup f9 = some ⟨oc9, od9, .func (PySem.W.fnOf "is_text" "is_text" (defArgs s_is_text) (defBody s_is_text) (defScope s_is_text) .none kV9 dc9 pm9 an9 cd9 ct9), sl9⟩)
    (c9 : PySem.W.codeIn K cd9 "is_text" = true)
    (k9 : PySem.W.keepIn K (.ref f9) = true)
    (a10 : PySem.W.nsIn K mainGlobals "is_key" = some (some (.ref f10)))
    (l10 : K.lookup f10 = some ⟨oc10, od10, .func (PySem.W.fnOf "is_key" "is_key" (defArgs s_is_key) (defBody s_is_key) (defScope s_is_key) .none kV10 dc10 pm10 an10 cd10 ct10), sl10⟩)
    (c10 : PySem.W.codeIn K cd10 "is_key" = true)
    (k10 : PySem.W.keepIn K (.ref f10) = true)
    (a11 : PySem.W.nsIn K mainGlobals "is_rising" = some (some (.ref f11)))
    (l11 : K.lookup f11 = some ⟨oc11, od11, .func (PySem.W.fnOf "is_rising" "is_rising" (defArgs s_is_rising) (defBody s_is_rising) (defScope s_is_rising) .none kV11 dc11 pm11 an11 cd11 ct11), sl11⟩)
    (c11 : PySem.W.codeIn K cd11 "is_rising" = true)
    (k11 : PySem.W.keepIn K (.ref f11) = true)
    (a12 : PySem.W.nsIn K mainGlobals "is_words" = some (some (.ref f12)))
    (l12 : K.lookup f12 = some ⟨oc12, od12, .func (PySem.W.fnOf "is_words" "is_words" (defArgs s_is_words) (defBody s_is_words) (defScope s_is_words) .none kV12 dc12 pm12 an12 cd12 ct12), sl12⟩)
    (c12 : PySem.W.codeIn K cd12 "is_words" = true)
    (k12 : PySem.W.keepIn K (.ref f12) = true)
    (a13 : PySem.W.nsIn K mainGlobals "is_cell" = some (some (.ref f13)))
    (l13 : K.lookup f13 = some ⟨oc13, od13, .func (PySem.W.fnOf "is_cell" "is_cell" (defArgs s_is_cell) (defBody s_is_cell) (defScope s_is_cell) .none kV13 dc13 pm13 an13 cd13 ct13), sl13⟩)
    (c13 : PySem.W.codeIn K cd13 "is_cell" = true)
    (k13 : PySem.W.keepIn K (.ref f13) = true)
    (a14 : PySem.W.nsIn K mainGlobals "is_cells" = some (some (.ref f14)))
    (l14 : K.lookup f14 = some ⟨oc14, od14, .func (PySem.W.fnOf "is_cells" "is_cells" (defArgs s_is_cells) (defBody s_is_cells) (defScope s_is_cells) .none kV14 dc14 pm14 an14 cd14 ct14), sl14⟩)
    (c14 : PySem.W.codeIn K cd14 "is_cells" = true)
    (k14 : PySem.W.keepIn K (.ref f14) = true)
    (a15 : PySem.W.nsIn K mainGlobals "is_rule" = some (some (.ref f15)))
    (l15 : K.lookup f15 = some ⟨oc15, od15, .func (PySem.W.fnOf "is_rule" "is_rule" (defArgs s_is_rule) (defBody s_is_rule) (defScope s_is_rule) .none kV15 dc15 pm15 an15 cd15 ct15), sl15⟩)
    (c15 : PySem.W.codeIn K cd15 "is_rule" = true)
    (k15 : PySem.W.keepIn K (.ref f15) = true)
    (a16 : PySem.W.nsIn K mainGlobals "is_rules" = some (some (.ref f16)))
    (l16 : K.lookup f16 = some ⟨oc16, od16, .func (PySem.W.fnOf "is_rules" "is_rules" (defArgs s_is_rules) (defBody s_is_rules) (defScope s_is_rules) .none kV16 dc16 pm16 an16 cd16 ct16), sl16⟩)
    (c16 : PySem.W.codeIn K cd16 "is_rules" = true)
    (k16 : PySem.W.keepIn K (.ref f16) = true)
    (a17 : PySem.W.nsIn K mainGlobals "in_order" = some (some (.ref f17)))
    (l17 : K.lookup f17 = some ⟨oc17, od17, .func (PySem.W.fnOf "in_order" "in_order" (defArgs s_in_order) (defBody s_in_order) (defScope s_in_order) .none kV17 dc17 pm17 an17 cd17 ct17), sl17⟩)
    (c17 : PySem.W.codeIn K cd17 "in_order" = true)
    (k17 : PySem.W.keepIn K (.ref f17) = true)
    (a28 : PySem.W.nsIn K mainGlobals "steps_by" = some (some (.ref f28)))
    (l28 : K.lookup f28 = some ⟨oc28, od28, .func (PySem.W.fnOf "steps_by" "steps_by" (defArgs s_steps_by) (defBody s_steps_by) (defScope s_steps_by) .none kV28 dc28 pm28 an28 cd28 ct28), sl28⟩)
    (c28 : PySem.W.codeIn K cd28 "steps_by" = true)
    (k28 : PySem.W.keepIn K (.ref f28) = true)
    (a29 : PySem.W.nsIn K mainGlobals "certain" = some (some (.ref f29)))
    (l29 : K.lookup f29 = some ⟨oc29, od29, .func (PySem.W.fnOf "certain" "certain" (defArgs s_certain) (defBody s_certain) (defScope s_certain) .none kV29 dc29 pm29 an29 cd29 ct29), sl29⟩)
    (c29 : PySem.W.codeIn K cd29 "certain" = true)
    (k29 : PySem.W.keepIn K (.ref f29) = true)
    (a35 : PySem.W.nsIn K mainGlobals "_law_side" = some (some (.ref f35)))
    (l35 : K.lookup f35 = some ⟨oc35, od35, .func (PySem.W.fnOf "_law_side" "_law_side" (defArgs s__law_side) (defBody s__law_side) (defScope s__law_side) .none kV35 dc35 pm35 an35 cd35 ct35), sl35⟩)
    (c35 : PySem.W.codeIn K cd35 "_law_side" = true)
    (k35 : PySem.W.keepIn K (.ref f35) = true)
    (a36 : PySem.W.nsIn K mainGlobals "_law_asked" = some (some (.ref f36)))
    (l36 : K.lookup f36 = some ⟨oc36, od36, .func (PySem.W.fnOf "_law_asked" "_law_asked" (defArgs s__law_asked) (defBody s__law_asked) (defScope s__law_asked) .none kV36 dc36 pm36 an36 cd36 ct36), sl36⟩)
    (c36 : PySem.W.codeIn K cd36 "_law_asked" = true)
    (k36 : PySem.W.keepIn K (.ref f36) = true)
    (a37 : PySem.W.nsIn K mainGlobals "_law_pot" = some (some (.ref f37)))
    (l37 : K.lookup f37 = some ⟨oc37, od37, .func (PySem.W.fnOf "_law_pot" "_law_pot" (defArgs s__law_pot) (defBody s__law_pot) (defScope s__law_pot) .none kV37 dc37 pm37 an37 cd37 ct37), sl37⟩)
    (c37 : PySem.W.codeIn K cd37 "_law_pot" = true)
    (k37 : PySem.W.keepIn K (.ref f37) = true)
    (a38 : PySem.W.nsIn K mainGlobals "_law_take" = some (some (.ref f38)))
    (l38 : K.lookup f38 = some ⟨oc38, od38, .func (PySem.W.fnOf "_law_take" "_law_take" (defArgs s__law_take) (defBody s__law_take) (defScope s__law_take) .none kV38 dc38 pm38 an38 cd38 ct38), sl38⟩)
    (c38 : PySem.W.codeIn K cd38 "_law_take" = true)
    (k38 : PySem.W.keepIn K (.ref f38) = true)
    (a39 : PySem.W.nsIn K mainGlobals "_law_of" = some (some (.ref f39)))
    (l39 : K.lookup f39 = some ⟨oc39, od39, .func (PySem.W.fnOf "_law_of" "_law_of" (defArgs s__law_of) (defBody s__law_of) (defScope s__law_of) .none kV39 dc39 pm39 an39 cd39 ct39), sl39⟩)
    (c39 : PySem.W.codeIn K cd39 "_law_of" = true)
    (k39 : PySem.W.keepIn K (.ref f39) = true)
    (a40 : PySem.W.nsIn K mainGlobals "_law_word" = some (some (.ref f40)))
    (l40 : K.lookup f40 = some ⟨oc40, od40, .func (PySem.W.fnOf "_law_word" "_law_word" (defArgs s__law_word) (defBody s__law_word) (defScope s__law_word) .none kV40 dc40 pm40 an40 cd40 ct40), sl40⟩)
    (c40 : PySem.W.codeIn K cd40 "_law_word" = true)
    (k40 : PySem.W.keepIn K (.ref f40) = true)
    (a41 : PySem.W.nsIn K mainGlobals "_law_names" = some (some (.ref f41)))
    (l41 : K.lookup f41 = some ⟨oc41, od41, .func (PySem.W.fnOf "_law_names" "_law_names" (defArgs s__law_names) (defBody s__law_names) (defScope s__law_names) .none kV41 dc41 pm41 an41 cd41 ct41), sl41⟩)
    (c41 : PySem.W.codeIn K cd41 "_law_names" = true)
    (k41 : PySem.W.keepIn K (.ref f41) = true)
    (a42 : PySem.W.nsIn K mainGlobals "_law_cell" = some (some (.ref f42)))
    (l42 : K.lookup f42 = some ⟨oc42, od42, .func (PySem.W.fnOf "_law_cell" "_law_cell" (defArgs s__law_cell) (defBody s__law_cell) (defScope s__law_cell) .none kV42 dc42 pm42 an42 cd42 ct42), sl42⟩)
    (c42 : PySem.W.codeIn K cd42 "_law_cell" = true)
    (k42 : PySem.W.keepIn K (.ref f42) = true)
    (a43 : PySem.W.nsIn K mainGlobals "_law_cells" = some (some (.ref f43)))
    (l43 : K.lookup f43 = some ⟨oc43, od43, .func (PySem.W.fnOf "_law_cells" "_law_cells" (defArgs s__law_cells) (defBody s__law_cells) (defScope s__law_cells) .none kV43 dc43 pm43 an43 cd43 ct43), sl43⟩)
    (c43 : PySem.W.codeIn K cd43 "_law_cells" = true)
    (k43 : PySem.W.keepIn K (.ref f43) = true)
    (a44 : PySem.W.nsIn K mainGlobals "_law_key" = some (some (.ref f44)))
    (l44 : K.lookup f44 = some ⟨oc44, od44, .func (PySem.W.fnOf "_law_key" "_law_key" (defArgs s__law_key) (defBody s__law_key) (defScope s__law_key) .none kV44 dc44 pm44 an44 cd44 ct44), sl44⟩)
    (c44 : PySem.W.codeIn K cd44 "_law_key" = true)
    (k44 : PySem.W.keepIn K (.ref f44) = true)
    (a45 : PySem.W.nsIn K mainGlobals "_law_book" = some (some (.ref f45)))
    (l45 : K.lookup f45 = some ⟨oc45, od45, .func (PySem.W.fnOf "_law_book" "_law_book" (defArgs s__law_book) (defBody s__law_book) (defScope s__law_book) .none kV45 dc45 pm45 an45 cd45 ct45), sl45⟩)
    (c45 : PySem.W.codeIn K cd45 "_law_book" = true)
    (k45 : PySem.W.keepIn K (.ref f45) = true)
    (a46 : PySem.W.nsIn K mainGlobals "_law_written" = some (some (.ref f46)))
    (l46 : K.lookup f46 = some ⟨oc46, od46, .func (PySem.W.fnOf "_law_written" "_law_written" (defArgs s__law_written) (defBody s__law_written) (defScope s__law_written) .none kV46 dc46 pm46 an46 cd46 ct46), sl46⟩)
    (c46 : PySem.W.codeIn K cd46 "_law_written" = true)
    (k46 : PySem.W.keepIn K (.ref f46) = true)
    (a47 : PySem.W.nsIn K mainGlobals "_law_fits_word" = some (some (.ref f47)))
    (l47 : K.lookup f47 = some ⟨oc47, od47, .func (PySem.W.fnOf "_law_fits_word" "_law_fits_word" (defArgs s__law_fits_word) (defBody s__law_fits_word) (defScope s__law_fits_word) .none kV47 dc47 pm47 an47 cd47 ct47), sl47⟩)
    (c47 : PySem.W.codeIn K cd47 "_law_fits_word" = true)
    (k47 : PySem.W.keepIn K (.ref f47) = true)
    (a48 : PySem.W.nsIn K mainGlobals "_law_made" = some (some (.ref f48)))
    (l48 : K.lookup f48 = some ⟨oc48, od48, .func (PySem.W.fnOf "_law_made" "_law_made" (defArgs s__law_made) (defBody s__law_made) (defScope s__law_made) .none kV48 dc48 pm48 an48 cd48 ct48), sl48⟩)
    (c48 : PySem.W.codeIn K cd48 "_law_made" = true)
    (k48 : PySem.W.keepIn K (.ref f48) = true)
    (a49 : PySem.W.nsIn K mainGlobals "_law_fits_words" = some (some (.ref f49)))
    (l49 : K.lookup f49 = some ⟨oc49, od49, .func (PySem.W.fnOf "_law_fits_words" "_law_fits_words" (defArgs s__law_fits_words) (defBody s__law_fits_words) (defScope s__law_fits_words) .none kV49 dc49 pm49 an49 cd49 ct49), sl49⟩)
    (c49 : PySem.W.codeIn K cd49 "_law_fits_words" = true)
    (k49 : PySem.W.keepIn K (.ref f49) = true)
    (a50 : PySem.W.nsIn K mainGlobals "_law_text" = some (some (.ref f50)))
    (l50 : K.lookup f50 = some ⟨oc50, od50, .func (PySem.W.fnOf "_law_text" "_law_text" (defArgs s__law_text) (defBody s__law_text) (defScope s__law_text) .none kV50 dc50 pm50 an50 cd50 ct50), sl50⟩)
    (c50 : PySem.W.codeIn K cd50 "_law_text" = true)
    (k50 : PySem.W.keepIn K (.ref f50) = true)
    (a51 : PySem.W.nsIn K mainGlobals "_law_odd" = some (some (.ref f51)))
    (l51 : K.lookup f51 = some ⟨oc51, od51, .func (PySem.W.fnOf "_law_odd" "_law_odd" (defArgs s__law_odd) (defBody s__law_odd) (defScope s__law_odd) .none kV51 dc51 pm51 an51 cd51 ct51), sl51⟩)
    (c51 : PySem.W.codeIn K cd51 "_law_odd" = true)
    (k51 : PySem.W.keepIn K (.ref f51) = true)
    (a52 : PySem.W.nsIn K mainGlobals "_law_spoilt" = some (some (.ref f52)))
    (l52 : K.lookup f52 = some ⟨oc52, od52, .func (PySem.W.fnOf "_law_spoilt" "_law_spoilt" (defArgs s__law_spoilt) (defBody s__law_spoilt) (defScope s__law_spoilt) .none kV52 dc52 pm52 an52 cd52 ct52), sl52⟩)
    (c52 : PySem.W.codeIn K cd52 "_law_spoilt" = true)
    (k52 : PySem.W.keepIn K (.ref f52) = true)
    (a53 : PySem.W.nsIn K mainGlobals "_law_thing" = some (some (.ref f53)))
    (l53 : K.lookup f53 = some ⟨oc53, od53, .func (PySem.W.fnOf "_law_thing" "_law_thing" (defArgs s__law_thing) (defBody s__law_thing) (defScope s__law_thing) .none kV53 dc53 pm53 an53 cd53 ct53), sl53⟩)
    (c53 : PySem.W.codeIn K cd53 "_law_thing" = true)
    (k53 : PySem.W.keepIn K (.ref f53) = true)
    (a54 : PySem.W.nsIn K mainGlobals "_law_right" = some (some (.ref f54)))
    (l54 : K.lookup f54 = some ⟨oc54, od54, .func (PySem.W.fnOf "_law_right" "_law_right" (defArgs s__law_right) (defBody s__law_right) (defScope s__law_right) .none kV54 dc54 pm54 an54 cd54 ct54), sl54⟩)
    (c54 : PySem.W.codeIn K cd54 "_law_right" = true)
    (k54 : PySem.W.keepIn K (.ref f54) = true)
    (a55 : PySem.W.nsIn K mainGlobals "law" = some (some (.ref f55)))
    (l55 : K.lookup f55 = some ⟨oc55, od55, .func (PySem.W.fnOf "law" "law" (defArgs s_law) (defBody s_law) (defScope s_law) .none kV55 dc55 pm55 an55 cd55 ct55), sl55⟩)
    (c55 : PySem.W.codeIn K cd55 "law" = true)
    (k55 : PySem.W.keepIn K (.ref f55) = true)
    (n_MOST_KEY_rewriting : PySem.W.nsIn K mainGlobals "MOST_KEY_rewriting" = some (some (.int 3 t_MOST_KEY_rewriting)))
    (n_MOST_LETTERS : PySem.W.nsIn K mainGlobals "MOST_LETTERS" = some (some (.int 8 t_MOST_LETTERS)))
    (n_LETTERS : PySem.W.nsIn K mainGlobals "LETTERS" = some (some (.str "abcdefghijklmnopqrstuvwxyz" t_LETTERS)))
    (n_MOST_KEY_words : PySem.W.nsIn K mainGlobals "MOST_KEY_words" = some (some (.int 3 t_MOST_KEY_words)))
    (n_MOST_CELL : PySem.W.nsIn K mainGlobals "MOST_CELL" = some (some (.int 3 t_MOST_CELL)))
    (n_MOST_CELLS : PySem.W.nsIn K mainGlobals "MOST_CELLS" = some (some (.int 2 t_MOST_CELLS)))
    (n_MOST_RULES : PySem.W.nsIn K mainGlobals "MOST_RULES" = some (some (.int 6 t_MOST_RULES)))
    (z_tuple : PySem.W.nsIn K mainGlobals "tuple" = some none)
    (z_list : PySem.W.nsIn K mainGlobals "list" = some none)
    (z_len : PySem.W.nsIn K mainGlobals "len" = some none)
    (z_any : PySem.W.nsIn K mainGlobals "any" = some none)
    (z_all : PySem.W.nsIn K mainGlobals "all" = some none)
    (z_range : PySem.W.nsIn K mainGlobals "range" = some none)
    (z_zip : PySem.W.nsIn K mainGlobals "zip" = some none)
    (z_isinstance : PySem.W.nsIn K mainGlobals "isinstance" = some none)
    (z_str : PySem.W.nsIn K mainGlobals "str" = some none)
    (z_sorted : PySem.W.nsIn K mainGlobals "sorted" = some none)
    (z_set : PySem.W.nsIn K mainGlobals "set" = some none)
    (z_dict : PySem.W.nsIn K mainGlobals "dict" = some none)
    (z_max : PySem.W.nsIn K mainGlobals "max" = some none)
    (z_min : PySem.W.nsIn K mainGlobals "min" = some none)
    (z_abs : PySem.W.nsIn K mainGlobals "abs" = some none)
    (z_int : PySem.W.nsIn K mainGlobals "int" = some none)
    (z_bool : PySem.W.nsIn K mainGlobals "bool" = some none)
    (z_sum : PySem.W.nsIn K mainGlobals "sum" = some none)
    (z_reversed : PySem.W.nsIn K mainGlobals "reversed" = some none)
    (z_repr : PySem.W.nsIn K mainGlobals "repr" = some none)
    (A_Book : PySem.W.nsIn K mainGlobals "Book" = some (some (.ref BK)))
    (Pg_Book : PySem.W.plainGet K BK Str.empty = true)
    (Ic_Book : PySem.W.isClsIn K BK = true)
    (Po_Book : PySem.W.plainOver K BK = true)
    (Sa_Book : PySem.W.findIn K (.ref BK) "__setattr__" = some (some (.builtin "object.__setattr__")))
    (sA_Book_table : PySem.W.findIn K (.ref BK) "table" = some (some (.ref p_Book_table)))
    (sG_Book_table : PySem.W.specialIn K (.ref p_Book_table) "__get__" = some (some (.builtin "member_descriptor.__get__")))
    (sT_Book_table : PySem.W.takesIn K (.ref p_Book_table) = some true)
    (sY_Book_table : PySem.W.typeIn K (.ref p_Book_table) = some (.type "member_descriptor"))
    (sI_Book_table : PySem.W.slotIn K p_Book_table BK = some 0)
    (Ja_Book : PySem.W.findIn K (.ref BK) "__class__" = some (some (.builtin "object.__class__")))
    (Jn : PySem.W.specialIn K (.builtin "object.__class__") "__get__" = some (some (.builtin "getset_descriptor.__get__")))
    (Jt : PySem.W.takesIn K (.builtin "object.__class__") = some true)
    (Jm_Book : PySem.W.mroIn K BK (.type "object") = some true)
    (mM_Book___init__ : PySem.W.makesIn K BK = true)
    (mA_Book___init__ : PySem.W.findIn K (.ref BK) "__init__" = some (some (.ref f18)))
    (mF_Book___init__ : PySem.W.isFn K (.ref f18) = true)
    (mK_Book___init__ : PySem.W.keepIn K (.ref BK) = true)
    (mA_Book_copy : PySem.W.findIn K (.ref BK) "copy" = some (some (.ref f20)))
    (mF_Book_copy : PySem.W.isFn K (.ref f20) = true)
    (mA_Book_stages : PySem.W.findIn K (.ref BK) "stages" = some (some (.ref f21)))
    (mF_Book_stages : PySem.W.isFn K (.ref f21) = true)
    (mA_Book_begun : PySem.W.findIn K (.ref BK) "begun" = some (some (.ref f31)))
    (mF_Book_begun : PySem.W.isFn K (.ref f31) = true)
    (mA_Book_steps : PySem.W.findIn K (.ref BK) "steps" = some (some (.ref f32)))
    (mF_Book_steps : PySem.W.isFn K (.ref f32) = true)
    (mA_Book_rules : PySem.W.findIn K (.ref BK) "rules" = some (some (.ref pp_Book_rules)))
    (mG_Book_rules : PySem.W.specialIn K (.ref pp_Book_rules) "__get__" = some (some (.builtin "property.__get__")))
    (mT_Book_rules : PySem.W.takesIn K (.ref pp_Book_rules) = some true)
    (mR_Book_rules : PySem.W.recIn K pp_Book_rules "property" = some (.ref f19 :: rr_Book_rules))
    (Sf_Book : PySem.W.selfFirst K BK = true)
    (mA_Book___rshift__ : PySem.W.findIn K (.ref BK) "__rshift__" = some (some (.ref f23)))
    (mF_Book___rshift__ : PySem.W.isFn K (.ref f23) = true)
    (mA_Book___eq__ : PySem.W.findIn K (.ref BK) "__eq__" = some (some (.ref f26)))
    (mF_Book___eq__ : PySem.W.isFn K (.ref f26) = true)
    (mA_Book___call__ : PySem.W.findIn K (.ref BK) "__call__" = some (some (.ref f30)))
    (mF_Book___call__ : PySem.W.isFn K (.ref f30) = true)
    (mI_Book___call__ : PySem.W.fnIn K f30 = true)
    (A_Chain : PySem.W.nsIn K mainGlobals "Chain" = some (some (.ref CH)))
    (Pg_Chain : PySem.W.plainGet K CH Str.empty = true)
    (Ic_Chain : PySem.W.isClsIn K CH = true)
    (Po_Chain : PySem.W.plainOver K CH = true)
    (Sa_Chain : PySem.W.findIn K (.ref CH) "__setattr__" = some (some (.builtin "object.__setattr__")))
    (sA_Chain_former : PySem.W.findIn K (.ref CH) "former" = some (some (.ref p_Chain_former)))
    (sG_Chain_former : PySem.W.specialIn K (.ref p_Chain_former) "__get__" = some (some (.builtin "member_descriptor.__get__")))
    (sT_Chain_former : PySem.W.takesIn K (.ref p_Chain_former) = some true)
    (sY_Chain_former : PySem.W.typeIn K (.ref p_Chain_former) = some (.type "member_descriptor"))
    (sI_Chain_former : PySem.W.slotIn K p_Chain_former CH = some 0)
    (sA_Chain_latter : PySem.W.findIn K (.ref CH) "latter" = some (some (.ref p_Chain_latter)))
    (sG_Chain_latter : PySem.W.specialIn K (.ref p_Chain_latter) "__get__" = some (some (.builtin "member_descriptor.__get__")))
    (sT_Chain_latter : PySem.W.takesIn K (.ref p_Chain_latter) = some true)
    (sY_Chain_latter : PySem.W.typeIn K (.ref p_Chain_latter) = some (.type "member_descriptor"))
    (sI_Chain_latter : PySem.W.slotIn K p_Chain_latter CH = some 1)
    (Ja_Chain : PySem.W.findIn K (.ref CH) "__class__" = some (some (.builtin "object.__class__")))
    (Jm_Chain : PySem.W.mroIn K CH (.type "object") = some true)
    (mM_Chain___init__ : PySem.W.makesIn K CH = true)
    (mA_Chain___init__ : PySem.W.findIn K (.ref CH) "__init__" = some (some (.ref f22)))
    (mF_Chain___init__ : PySem.W.isFn K (.ref f22) = true)
    (mK_Chain___init__ : PySem.W.keepIn K (.ref CH) = true)
    (mA_Chain_stages : PySem.W.findIn K (.ref CH) "stages" = some (some (.ref f24)))
    (mF_Chain_stages : PySem.W.isFn K (.ref f24) = true)
    (mA_Chain_begun : PySem.W.findIn K (.ref CH) "begun" = some (some (.ref f33)))
    (mF_Chain_begun : PySem.W.isFn K (.ref f33) = true)
    (mA_Chain_books : PySem.W.findIn K (.ref CH) "books" = some (some (.ref pp_Chain_books)))
    (mG_Chain_books : PySem.W.specialIn K (.ref pp_Chain_books) "__get__" = some (some (.builtin "property.__get__")))
    (mT_Chain_books : PySem.W.takesIn K (.ref pp_Chain_books) = some true)
    (mR_Chain_books : PySem.W.recIn K pp_Chain_books "property" = some (.ref f25 :: rr_Chain_books))
    (mA_Chain___call__ : PySem.W.findIn K (.ref CH) "__call__" = some (some (.ref f34)))
    (mF_Chain___call__ : PySem.W.isFn K (.ref f34) = true)
    (mI_Chain___call__ : PySem.W.fnIn K f34 = true)
    (mA_Chain___eq__ : PySem.W.findIn K (.ref CH) "__eq__" = some (some (.ref f27)))
    (mF_Chain___eq__ : PySem.W.isFn K (.ref f27) = true)
    (l18 : K.lookup f18 = some ⟨oc18, od18, .func (PySem.W.fnOf "__init__" "Book.__init__" (defArgs s_Book___init__) (defBody s_Book___init__) (defScope s_Book___init__) (.ref TI18) kV18 dc18 pm18 an18 cd18 ct18), sl18⟩)
    (c18 : PySem.W.codeIn K cd18 "Book.__init__" = true)
    (k18 : PySem.W.keepIn K (.ref f18) = true)
    (lT18 : K.lookup TI18 = some ⟨ocT18, odT18, .seq #[dI18_0] nT18, slT18⟩)
    (l19 : K.lookup f19 = some ⟨oc19, od19, .func (PySem.W.fnOf "rules" "Book.rules" (defArgs s_Book_rules) (defBody s_Book_rules) (defScope s_Book_rules) .none kV19 dc19 pm19 an19 cd19 ct19), sl19⟩)
    (c19 : PySem.W.codeIn K cd19 "Book.rules" = true)
    (k19 : PySem.W.keepIn K (.ref f19) = true)
    (l20 : K.lookup f20 = some ⟨oc20, od20, .func (PySem.W.fnOf "copy" "Book.copy" (defArgs s_Book_copy) (defBody s_Book_copy) (defScope s_Book_copy) .none kV20 dc20 pm20 an20 cd20 ct20), sl20⟩)
    (c20 : PySem.W.codeIn K cd20 "Book.copy" = true)
    (k20 : PySem.W.keepIn K (.ref f20) = true)
    (l21 : K.lookup f21 = some ⟨oc21, od21, .func (PySem.W.fnOf "stages" "Book.stages" (defArgs s_Book_stages) (defBody s_Book_stages) (defScope s_Book_stages) .none kV21 dc21 pm21 an21 cd21 ct21), sl21⟩)
    (c21 : PySem.W.codeIn K cd21 "Book.stages" = true)
    (k21 : PySem.W.keepIn K (.ref f21) = true)
    (l22 : K.lookup f22 = some ⟨oc22, od22, .func (PySem.W.fnOf "__init__" "Chain.__init__" (defArgs s_Chain___init__) (defBody s_Chain___init__) (defScope s_Chain___init__) .none kV22 dc22 pm22 an22 cd22 ct22), sl22⟩)
    (c22 : PySem.W.codeIn K cd22 "Chain.__init__" = true)
    (k22 : PySem.W.keepIn K (.ref f22) = true)
    (l23 : K.lookup f23 = some ⟨oc23, od23, .func (PySem.W.fnOf "__rshift__" "Book.__rshift__" (defArgs s_Book___rshift__) (defBody s_Book___rshift__) (defScope s_Book___rshift__) .none kV23 dc23 pm23 an23 cd23 ct23), sl23⟩)
    (c23 : PySem.W.codeIn K cd23 "Book.__rshift__" = true)
    (k23 : PySem.W.keepIn K (.ref f23) = true)
    (l24 : K.lookup f24 = some ⟨oc24, od24, .func (PySem.W.fnOf "stages" "Chain.stages" (defArgs s_Chain_stages) (defBody s_Chain_stages) (defScope s_Chain_stages) .none kV24 dc24 pm24 an24 cd24 ct24), sl24⟩)
    (c24 : PySem.W.codeIn K cd24 "Chain.stages" = true)
    (k24 : PySem.W.keepIn K (.ref f24) = true)
    (l25 : K.lookup f25 = some ⟨oc25, od25, .func (PySem.W.fnOf "books" "Chain.books" (defArgs s_Chain_books) (defBody s_Chain_books) (defScope s_Chain_books) .none kV25 dc25 pm25 an25 cd25 ct25), sl25⟩)
    (c25 : PySem.W.codeIn K cd25 "Chain.books" = true)
    (k25 : PySem.W.keepIn K (.ref f25) = true)
    (l26 : K.lookup f26 = some ⟨oc26, od26, .func (PySem.W.fnOf "__eq__" "Book.__eq__" (defArgs s_Book___eq__) (defBody s_Book___eq__) (defScope s_Book___eq__) .none kV26 dc26 pm26 an26 cd26 ct26), sl26⟩)
    (c26 : PySem.W.codeIn K cd26 "Book.__eq__" = true)
    (k26 : PySem.W.keepIn K (.ref f26) = true)
    (l27 : K.lookup f27 = some ⟨oc27, od27, .func (PySem.W.fnOf "__eq__" "Chain.__eq__" (defArgs s_Chain___eq__) (defBody s_Chain___eq__) (defScope s_Chain___eq__) .none kV27 dc27 pm27 an27 cd27 ct27), sl27⟩)
    (c27 : PySem.W.codeIn K cd27 "Chain.__eq__" = true)
    (k27 : PySem.W.keepIn K (.ref f27) = true)
    (l30 : K.lookup f30 = some ⟨oc30, od30, .func (PySem.W.fnOf "__call__" "Book.__call__" (defArgs s_Book___call__) (defBody s_Book___call__) (defScope s_Book___call__) .none kV30 dc30 pm30 an30 cd30 ct30), sl30⟩)
    (c30 : PySem.W.codeIn K cd30 "Book.__call__" = true)
    (k30 : PySem.W.keepIn K (.ref f30) = true)
    (l31 : K.lookup f31 = some ⟨oc31, od31, .func (PySem.W.fnOf "begun" "Book.begun" (defArgs s_Book_begun) (defBody s_Book_begun) (defScope s_Book_begun) .none kV31 dc31 pm31 an31 cd31 ct31), sl31⟩)
    (c31 : PySem.W.codeIn K cd31 "Book.begun" = true)
    (k31 : PySem.W.keepIn K (.ref f31) = true)
    (l32 : K.lookup f32 = some ⟨oc32, od32, .func (PySem.W.fnOf "steps" "Book.steps" (defArgs s_Book_steps) (defBody s_Book_steps) (defScope s_Book_steps) .none kV32 dc32 pm32 an32 cd32 ct32), sl32⟩)
    (c32 : PySem.W.codeIn K cd32 "Book.steps" = true)
    (k32 : PySem.W.keepIn K (.ref f32) = true)
    (l33 : K.lookup f33 = some ⟨oc33, od33, .func (PySem.W.fnOf "begun" "Chain.begun" (defArgs s_Chain_begun) (defBody s_Chain_begun) (defScope s_Chain_begun) .none kV33 dc33 pm33 an33 cd33 ct33), sl33⟩)
    (c33 : PySem.W.codeIn K cd33 "Chain.begun" = true)
    (k33 : PySem.W.keepIn K (.ref f33) = true)
    (l34 : K.lookup f34 = some ⟨oc34, od34, .func (PySem.W.fnOf "__call__" "Chain.__call__" (defArgs s_Chain___call__) (defBody s_Chain___call__) (defScope s_Chain___call__) .none kV34 dc34 pm34 an34 cd34 ct34), sl34⟩)
    (c34 : PySem.W.codeIn K cd34 "Chain.__call__" = true)
    (k34 : PySem.W.keepIn K (.ref f34) = true)
    (eA_BT : PySem.W.nsIn K mainGlobals "BadText" = some (some (.ref BT)))
    (eI_BT : PySem.W.findIn K (.ref BT) "__init__" = some (some (.ref fE_WideError___init__)))
    (lE_WideError___init__ : K.lookup fE_WideError___init__ = some ⟨ocE_WideError___init__, odE_WideError___init__, .func (PySem.W.fnOf "__init__" "WideError.__init__" (defArgs s_WideError___init__) (defBody s_WideError___init__) (defScope s_WideError___init__) (.ref TIE_WideError___init__) kVE_WideError___init__ dcE_WideError___init__ pmE_WideError___init__ anE_WideError___init__ cdE_WideError___init__ ctE_WideError___init__), slE_WideError___init__⟩)
    (cE_WideError___init__ : PySem.W.codeIn K cdE_WideError___init__ "WideError.__init__" = true)
    (kE_WideError___init__ : PySem.W.keepIn K (.ref fE_WideError___init__) = true)
    (lTE_WideError___init__ : K.lookup TIE_WideError___init__ = some ⟨ocTE_WideError___init__, odTE_WideError___init__, .seq #[dIE_WideError___init__] nTE_WideError___init__, slTE_WideError___init__⟩)
    (eT_E_WideError___init__ : PySem.W.typeIn K (.ref fE_WideError___init__) = some (.type "function"))
    (eL_BT : K.lookup BT = some (excClassObj enm_BT eq_BT BT eN_BT ebs_BT ebm_BT true esn_BT esub_BT eab_BT ecol_BT edd_BT ek0_BT ek1_BT ek2_BT ek3_BT ek5_BT "ValueError.__new__"))
    (eR_BT : PySem.HandSPX.refsVE ebm_BT = true)
    (eS_BT : PySem.W.findIn K (.ref BT) "__setattr__" = some (some (.builtin "object.__setattr__")))
    (eX_BT : PySem.W.subIn K (.ref BT) (.type "BaseException") = some true)
    (eY_BT : PySem.W.typeIn K (.ref BT) = some (.type "type"))
    (eK_BT : PySem.W.keepIn K (.ref BT) = true)
    (eN_value_BT : PySem.W.findIn K (.ref BT) "value" = some none)
    (eG_BT : PySem.W.findIn K (.ref BT) "__getattribute__" = some (some (.builtin "BaseException.__getattribute__")))
    (eH_BT : PySem.W.findIn K (.ref BT) "__getattr__" = some none)
    (eD_BT : PySem.W.hasDictIn K BT = true)
    (eM_BT : PySem.W.subIn K (.ref BT) (.ref BT) = some true)
    : ∀ base : Heap, K.In base → base.Ns mainGlobals mg → (∃ o, base.get? sysModules = some o) → FnG l.prog w K mg base 18 fa sp_law := by
  have e := hfa.symm.trans (PySem.W.mg_of X G a55)
  cases e
  intro base _ _ hsy
  have B : Bl mg := ⟨PySem.W.mg_none_of X G z_tuple, PySem.W.mg_none_of X G z_list, PySem.W.mg_none_of X G z_len, PySem.W.mg_none_of X G z_any, PySem.W.mg_none_of X G z_all, PySem.W.mg_none_of X G z_range, PySem.W.mg_none_of X G z_zip, PySem.W.mg_none_of X G z_isinstance, PySem.W.mg_none_of X G z_str, PySem.W.mg_none_of X G z_sorted, PySem.W.mg_none_of X G z_set, PySem.W.mg_none_of X G z_dict, PySem.W.mg_none_of X G z_max, PySem.W.mg_none_of X G z_min, PySem.W.mg_none_of X G z_abs, PySem.W.mg_none_of X G z_int, PySem.W.mg_none_of X G z_bool, PySem.W.mg_none_of X G z_sum, PySem.W.mg_none_of X G z_reversed, PySem.W.mg_none_of X G z_repr⟩
  have g_MOST_KEY_rewriting : GI mg "MOST_KEY_rewriting" 3 := ⟨_, PySem.W.mg_of X G n_MOST_KEY_rewriting⟩
  have g_MOST_LETTERS : GI mg "MOST_LETTERS" 8 := ⟨_, PySem.W.mg_of X G n_MOST_LETTERS⟩
  have g_LETTERS : GS mg "LETTERS" "abcdefghijklmnopqrstuvwxyz" := ⟨_, PySem.W.mg_of X G n_LETTERS⟩
  have g_MOST_KEY_words : GI mg "MOST_KEY_words" 3 := ⟨_, PySem.W.mg_of X G n_MOST_KEY_words⟩
  have g_MOST_CELL : GI mg "MOST_CELL" 3 := ⟨_, PySem.W.mg_of X G n_MOST_CELL⟩
  have g_MOST_CELLS : GI mg "MOST_CELLS" 2 := ⟨_, PySem.W.mg_of X G n_MOST_CELLS⟩
  have g_MOST_RULES : GI mg "MOST_RULES" 6 := ⟨_, PySem.W.mg_of X G n_MOST_RULES⟩
  have FE_WideError___init__ : FunX K "__init__" "WideError.__init__" s_WideError___init__ fE_WideError___init__ _ := ⟨⟨_, _, _, _, _, _, _, _, _, _, rfl, lE_WideError___init__, cE_WideError___init__⟩, kE_WideError___init__⟩
  have bE_WideError___init__ : Binds K (PySem.W.fnOf "__init__" "WideError.__init__" (defArgs s_WideError___init__) (defBody s_WideError___init__) (defScope s_WideError___init__) (.ref TIE_WideError___init__) kVE_WideError___init__ dcE_WideError___init__ pmE_WideError___init__ anE_WideError___init__ cdE_WideError___init__ ctE_WideError___init__) ["self", "value"] [] := binds_d lTE_WideError___init__ rfl fun us hl => match us, hl with | [_, _], _ => ⟨_, rfl, rfl⟩
  have BT1 : BtX l.prog w K mg base BT := bt_mk FE_WideError___init__ bE_WideError___init__ ⟨⟨_, _, _, _, _, _, _, _, _, _, _, _, _, _, _, eL_BT, eR_BT⟩, eS_BT, eX_BT, eY_BT, eK_BT⟩ (PySem.W.mg_of X G eA_BT) eI_BT eT_E_WideError___init__ eN_value_BT ⟨eG_BT, eH_BT, eX_BT, eD_BT⟩ (PySem.W.exm_ref eX_BT eD_BT eY_BT eM_BT)
  have bc : BkC K BK p_Book_table := ⟨⟨Pg_Book, Ic_Book, Po_Book, Sa_Book⟩, ⟨sA_Book_table, sG_Book_table, sT_Book_table, sY_Book_table, sI_Book_table, by decide⟩⟩
  have cc : ChC K CH p_Chain_former p_Chain_latter := ⟨⟨Pg_Chain, Ic_Chain, Po_Chain, Sa_Chain⟩, ⟨sA_Chain_former, sG_Chain_former, sT_Chain_former, sY_Chain_former, sI_Chain_former, by decide⟩, ⟨sA_Chain_latter, sG_Chain_latter, sT_Chain_latter, sY_Chain_latter, sI_Chain_latter, by decide⟩⟩
  have F0 := fun_mk (st := s_cells_of) l0 c0 k0
  have b0 := F0.binds (ps := ["words"]) fun _ _ _ _ _ _ us hl => match us, hl with | [_], _ => rfl
  have d_cells_of : Def l.prog w K mg base "cells_of" 1 sp_cells_of := ⟨f0, PySem.W.mg_of X G a0, k0, ok_cells_of F0 b0 B⟩
  have F1 := fun_mk (st := s_words_at) l1 c1 k1
  have b1 := F1.binds (ps := ["cells", "at", "many"]) fun _ _ _ _ _ _ us hl => match us, hl with | [_, _, _], _ => rfl
  have d_words_at : Def l.prog w K mg base "words_at" 1 sp_words_at := ⟨f1, PySem.W.mg_of X G a1, k1, ok_words_at F1 b1 B⟩
  have F2 := fun_mk (st := s_key_at) l2 c2 k2
  have b2 := F2.binds (ps := ["rules", "cells", "at"]) fun _ _ _ _ _ _ us hl => match us, hl with | [_, _, _], _ => rfl
  have d_key_at : Def l.prog w K mg base "key_at" 2 sp_key_at := ⟨f2, PySem.W.mg_of X G a2, k2, ok_key_at F2 b2 B g_MOST_KEY_rewriting d_words_at⟩
  have F3 := fun_mk (st := s_is_waiting) l3 c3 k3
  have b3 := F3.binds (ps := ["rules", "cells", "at"]) fun _ _ _ _ _ _ us hl => match us, hl with | [_, _, _], _ => rfl
  have d_is_waiting : Def l.prog w K mg base "is_waiting" 2 sp_is_waiting := ⟨f3, PySem.W.mg_of X G a3, k3, ok_is_waiting F3 b3 B g_MOST_KEY_rewriting d_words_at⟩
  have F4 := fun_mk (st := s_rewritten) l4 c4 k4
  have b4 := F4.binds (ps := ["rules", "cells", "is_whole"]) fun _ _ _ _ _ _ us hl => match us, hl with | [_, _, _], _ => rfl
  have d_rewritten : Def l.prog w K mg base "rewritten" 3 sp_rewritten := ⟨f4, PySem.W.mg_of X G a4, k4, ok_rewritten F4 b4 B d_key_at d_is_waiting⟩
  have F5 := fun_mk (st := s_through) l5 c5 k5
  have b5 := F5.binds (ps := ["stages", "pending", "cells", "is_whole"]) fun _ _ _ _ _ _ us hl => match us, hl with | [_, _, _, _], _ => rfl
  have d_through : Def l.prog w K mg base "through" 4 sp_through := ⟨f5, PySem.W.mg_of X G a5, k5, ok_through F5 b5 B d_cells_of d_rewritten⟩
  have F6 := fun_mk (st := s_nothing_pending) l6 c6 k6
  have b6 := F6.binds (ps := ["stages"]) fun _ _ _ _ _ _ us hl => match us, hl with | [_], _ => rfl
  have d_nothing_pending : Def l.prog w K mg base "nothing_pending" 1 sp_nothing_pending := ⟨f6, PySem.W.mg_of X G a6, k6, ok_nothing_pending F6 b6 B⟩
  have F7 := fun_mk (st := s_written) l7 c7 k7
  have b7 := F7.binds (ps := ["stages", "text"]) fun _ _ _ _ _ _ us hl => match us, hl with | [_, _], _ => rfl
  have d_written : Def l.prog w K mg base "written" 5 sp_written := ⟨f7, PySem.W.mg_of X G a7, k7, ok_written F7 b7 B d_cells_of d_nothing_pending d_through⟩
  have F8 := fun_mk (st := s_is_word) l8 c8 k8
  have b8 := F8.binds (ps := ["value"]) fun _ _ _ _ _ _ us hl => match us, hl with | [_], _ => rfl
  have d_is_word : Def l.prog w K mg base "is_word" 1 sp_is_word := ⟨f8, PySem.W.mg_of X G a8, k8, ok_is_word F8 b8 B g_MOST_LETTERS g_LETTERS⟩
  have F9 := fun_mk (st := s_is_text) l9 c9 k9
  have b9 := F9.binds (ps := ["value"]) fun _ _ _ _ _ _ us hl => match us, hl with | [_], _ => rfl
  have d_is_text : Def l.prog w K mg base "is_text" 2 sp_is_text := ⟨f9, PySem.W.mg_of X G a9, k9, ok_is_text F9 b9 B d_is_word⟩
  have F10 := fun_mk (st := s_is_key) l10 c10 k10
  have b10 := F10.binds (ps := ["value"]) fun _ _ _ _ _ _ us hl => match us, hl with | [_], _ => rfl
  have d_is_key : Def l.prog w K mg base "is_key" 3 sp_is_key := ⟨f10, PySem.W.mg_of X G a10, k10, ok_is_key F10 b10 B g_MOST_KEY_words d_is_text⟩
  have F11 := fun_mk (st := s_is_rising) l11 c11 k11
  have b11 := F11.binds (ps := ["values"]) fun _ _ _ _ _ _ us hl => match us, hl with | [_], _ => rfl
  have d_is_rising : Def l.prog w K mg base "is_rising" 1 sp_is_rising := ⟨f11, PySem.W.mg_of X G a11, k11, ok_is_rising F11 b11 B⟩
  have F12 := fun_mk (st := s_is_words) l12 c12 k12
  have b12 := F12.binds (ps := ["value", "most"]) fun _ _ _ _ _ _ us hl => match us, hl with | [_, _], _ => rfl
  have d_is_words : Def l.prog w K mg base "is_words" 3 sp_is_words := ⟨f12, PySem.W.mg_of X G a12, k12, ok_is_words F12 b12 B d_is_text d_is_rising⟩
  have F13 := fun_mk (st := s_is_cell) l13 c13 k13
  have b13 := F13.binds (ps := ["value"]) fun _ _ _ _ _ _ us hl => match us, hl with | [_], _ => rfl
  have d_is_cell : Def l.prog w K mg base "is_cell" 4 sp_is_cell := ⟨f13, PySem.W.mg_of X G a13, k13, ok_is_cell F13 b13 g_MOST_CELL d_is_words⟩
  have F14 := fun_mk (st := s_is_cells) l14 c14 k14
  have b14 := F14.binds (ps := ["value"]) fun _ _ _ _ _ _ us hl => match us, hl with | [_], _ => rfl
  have d_is_cells : Def l.prog w K mg base "is_cells" 5 sp_is_cells := ⟨f14, PySem.W.mg_of X G a14, k14, ok_is_cells F14 b14 B g_MOST_CELLS d_is_cell⟩
  have F15 := fun_mk (st := s_is_rule) l15 c15 k15
  have b15 := F15.binds (ps := ["value"]) fun _ _ _ _ _ _ us hl => match us, hl with | [_], _ => rfl
  have d_is_rule : Def l.prog w K mg base "is_rule" 6 sp_is_rule := ⟨f15, PySem.W.mg_of X G a15, k15, ok_is_rule F15 b15 B d_is_key d_is_cells⟩
  have F16 := fun_mk (st := s_is_rules) l16 c16 k16
  have b16 := F16.binds (ps := ["value"]) fun _ _ _ _ _ _ us hl => match us, hl with | [_], _ => rfl
  have d_is_rules : Def l.prog w K mg base "is_rules" 7 sp_is_rules := ⟨f16, PySem.W.mg_of X G a16, k16, ok_is_rules F16 b16 B g_MOST_RULES d_is_rule⟩
  have F17 := fun_mk (st := s_in_order) l17 c17 k17
  have b17 := F17.binds (ps := ["table"]) fun _ _ _ _ _ _ us hl => match us, hl with | [_], _ => rfl
  have d_in_order : Def l.prog w K mg base "in_order" 1 sp_in_order := ⟨f17, PySem.W.mg_of X G a17, k17, ok_in_order F17 b17 B⟩
  have F18 : FunX K "__init__" "Book.__init__" s_Book___init__ f18 _ := ⟨⟨_, _, _, _, _, _, _, _, _, _, rfl, l18, c18⟩, k18⟩
  have b18 : Binds K (PySem.W.fnOf "__init__" "Book.__init__" (defArgs s_Book___init__) (defBody s_Book___init__) (defScope s_Book___init__) (.ref TI18) kV18 dc18 pm18 an18 cd18 ct18) ["self", "rules"] [] := binds_d lT18 rfl fun us hl => match us, hl with | [_, _], _ => ⟨_, rfl, rfl⟩
  have m18 : FnA l.prog w K mg base 8 f18 (sp_Book_init BK) := ok_Book_init F18 b18 bc d_is_rules
  have F19 := fun_mk (st := s_Book_rules) l19 c19 k19
  have b19 := F19.binds (ps := ["self"]) fun _ _ _ _ _ _ us hl => match us, hl with | [_], _ => rfl
  have m19 : FnA l.prog w K mg base 2 f19 (sp_Book_rules BK) := ok_Book_rules F19 b19 bc d_in_order
  have F20 := fun_mk (st := s_Book_copy) l20 c20 k20
  have b20 := F20.binds (ps := ["self"]) fun _ _ _ _ _ _ us hl => match us, hl with | [_], _ => rfl
  have m20 : FnA l.prog w K mg base 10 f20 (sp_Book_copy BK) := ok_Book_copy F20 b20 bc ⟨mM_Book___init__, mA_Book___init__, mF_Book___init__, mK_Book___init__⟩ m18 (PySem.W.mg_of X G A_Book) d_in_order
  have F21 := fun_mk (st := s_Book_stages) l21 c21 k21
  have b21 := F21.binds (ps := ["self"]) fun _ _ _ _ _ _ us hl => match us, hl with | [_], _ => rfl
  have m21 : FnA l.prog w K mg base 1 f21 (sp_Book_stages BK) := ok_Book_stages F21 b21 bc
  have F22 := fun_mk (st := s_Chain___init__) l22 c22 k22
  have b22 := F22.binds (ps := ["self", "former", "latter"]) fun _ _ _ _ _ _ us hl => match us, hl with | [_, _, _], _ => rfl
  have m22 : FnA l.prog w K mg base 11 f22 (sp_Chain_init CH BK) := ok_Chain_init F22 b22 bc cc ⟨mA_Book_copy, mF_Book_copy, k20⟩ m20
  have F23 := fun_mk (st := s_Book___rshift__) l23 c23 k23
  have b23 := F23.binds (ps := ["self", "other"]) fun _ _ _ _ _ _ us hl => match us, hl with | [_, _], _ => rfl
  have m23 : FnA l.prog w K mg base 13 f23 (sp_Book_rshift BK CH) := ok_Book_rshift F23 b23 B bc ⟨Ja_Book, Jn, Jt, Jm_Book⟩ (PySem.W.mg_of X G A_Book) (PySem.W.mg_of X G A_Chain) ⟨mM_Chain___init__, mA_Chain___init__, mF_Chain___init__, mK_Chain___init__⟩ m22
  have F24 := fun_mk (st := s_Chain_stages) l24 c24 k24
  have b24 := F24.binds (ps := ["self"]) fun _ _ _ _ _ _ us hl => match us, hl with | [_], _ => rfl
  have m24 : FnA l.prog w K mg base 3 f24 (sp_Chain_stages CH BK) := ok_Chain_stages F24 b24 bc cc ⟨mA_Book_stages, mF_Book_stages, k21⟩ m21
  have F25 := fun_mk (st := s_Chain_books) l25 c25 k25
  have b25 := F25.binds (ps := ["self"]) fun _ _ _ _ _ _ us hl => match us, hl with | [_], _ => rfl
  have m25 : FnA l.prog w K mg base 11 f25 (sp_Chain_books CH BK) := ok_Chain_books F25 b25 bc cc ⟨mA_Book_copy, mF_Book_copy, k20⟩ m20
  have F26 := fun_mk (st := s_Book___eq__) l26 c26 k26
  have b26 := F26.binds (ps := ["self", "other"]) fun _ _ _ _ _ _ us hl => match us, hl with | [_, _], _ => rfl
  have m26 : FnA l.prog w K mg base 4 f26 (sp_Book_eq K BK) := ok_Book_eq F26 b26 B bc ⟨Ja_Book, Jn, Jt, Jm_Book⟩ (PySem.W.mg_of X G A_Book) ⟨mA_Book_rules, mG_Book_rules, mT_Book_rules, _, mR_Book_rules⟩ m19
  have F27 := fun_mk (st := s_Chain___eq__) l27 c27 k27
  have b27 := F27.binds (ps := ["self", "other"]) fun _ _ _ _ _ _ us hl => match us, hl with | [_, _], _ => rfl
  have m27 : FnA l.prog w K mg base 13 f27 (sp_Chain_eq K CH BK) := ok_Chain_eq F27 b27 B cc ⟨Ja_Chain, Jn, Jt, Jm_Chain⟩ (PySem.W.mg_of X G A_Chain) ⟨mA_Chain_books, mG_Chain_books, mT_Chain_books, _, mR_Chain_books⟩ m25 mA_Book___eq__ mF_Book___eq__ m26
  have RE : RwE l.prog w K mg base BK CH _ _ := ⟨⟨Ja_Book, Jn, Jt, Jm_Book⟩, ⟨Ja_Chain, Jn, Jt, Jm_Chain⟩, mA_Book___eq__, mF_Book___eq__, m26, mA_Chain___eq__, mF_Chain___eq__, m27⟩
  have F28 := fun_mk (st := s_steps_by) l28 c28 k28
  have b28 := F28.binds (ps := ["rules", "text"]) fun _ _ _ _ _ _ us hl => match us, hl with | [_, _], _ => rfl
  have d_steps_by : Def l.prog w K mg base "steps_by" 3 sp_steps_by := ⟨f28, PySem.W.mg_of X G a28, k28, ok_steps_by F28 b28 B d_cells_of d_key_at⟩
  have F29 := fun_mk (st := s_certain) l29 c29 k29
  have b29 := F29.binds (ps := ["stages", "text"]) fun _ _ _ _ _ _ us hl => match us, hl with | [_, _], _ => rfl
  have d_certain : Def l.prog w K mg base "certain" 5 sp_certain := ⟨f29, PySem.W.mg_of X G a29, k29, ok_certain F29 b29 B d_cells_of d_nothing_pending d_through⟩
  have F30 := fun_mk (st := s_Book___call__) l30 c30 k30
  have b30 := F30.binds (ps := ["self", "text"]) fun _ _ _ _ _ _ us hl => match us, hl with | [_, _], _ => rfl
  have m30 : FnA l.prog w K mg base 6 f30 (sp_Book_call BK BT) := ok_Book_call F30 b30 bc BT1.e d_is_text d_written
  have F31 := fun_mk (st := s_Book_begun) l31 c31 k31
  have b31 := F31.binds (ps := ["self", "text"]) fun _ _ _ _ _ _ us hl => match us, hl with | [_, _], _ => rfl
  have m31 : FnA l.prog w K mg base 6 f31 (sp_Book_begun BK BT) := ok_Book_begun F31 b31 bc BT1.e d_is_text d_certain
  have F32 := fun_mk (st := s_Book_steps) l32 c32 k32
  have b32 := F32.binds (ps := ["self", "text"]) fun _ _ _ _ _ _ us hl => match us, hl with | [_, _], _ => rfl
  have m32 : FnA l.prog w K mg base 4 f32 (sp_Book_steps BK BT) := ok_Book_steps F32 b32 bc BT1.e d_is_text d_steps_by
  have F33 := fun_mk (st := s_Chain_begun) l33 c33 k33
  have b33 := F33.binds (ps := ["self", "text"]) fun _ _ _ _ _ _ us hl => match us, hl with | [_, _], _ => rfl
  have m33 : FnA l.prog w K mg base 6 f33 (sp_Chain_begun CH BK BT) := ok_Chain_begun F33 b33 cc BT1.e ⟨mA_Chain_stages, mF_Chain_stages, k24⟩ m24 d_is_text d_certain
  have F34 := fun_mk (st := s_Chain___call__) l34 c34 k34
  have b34 := F34.binds (ps := ["self", "text"]) fun _ _ _ _ _ _ us hl => match us, hl with | [_, _], _ => rfl
  have m34 : FnA l.prog w K mg base 6 f34 (sp_Chain_call CH BK BT) := ok_Chain_call F34 b34 cc BT1.e ⟨mA_Chain_stages, mF_Chain_stages, k24⟩ m24 d_is_text d_written
  have RD : RwD l.prog w K mg base BK CH BT p_Book_table p_Chain_former p_Chain_latter _ _ _ _ _ _ _ := ⟨bc, cc, BT1, (PySem.W.mg_of X G A_Book), ⟨mM_Book___init__, mA_Book___init__, mF_Book___init__, mK_Book___init__⟩, m18, Sf_Book, mA_Book___rshift__, mF_Book___rshift__, m23, ⟨mA_Book_begun, mF_Book_begun, k31⟩, m31, ⟨mA_Chain_begun, mF_Chain_begun, k33⟩, m33, ⟨mA_Book___call__, mF_Book___call__, mI_Book___call__⟩, m30, ⟨mA_Chain___call__, mF_Chain___call__, mI_Chain___call__⟩, m34, ⟨mA_Book_steps, mF_Book_steps, k32⟩, m32⟩
  have F35 := fun_mk (st := s__law_side) l35 c35 k35
  have b35 := F35.binds (ps := ["_law_side_here"]) fun _ _ _ _ _ _ us hl => match us, hl with | [_], _ => rfl
  have d__law_side : Def l.prog w K mg base "_law_side" 14 (sp_side CH BK) := ⟨f35, PySem.W.mg_of X G a35, k35, ok_side F35 b35 B RD⟩
  have F36 := fun_mk (st := s__law_asked) l36 c36 k36
  have b36 := F36.binds (ps := ["_law_rewriter", "_law_value", "_law_way"]) fun _ _ _ _ _ _ us hl => match us, hl with | [_, _, _], _ => rfl
  have d__law_asked : Def l.prog w K mg base "_law_asked" 8 (sp_asked CH BK) := ⟨f36, PySem.W.mg_of X G a36, k36, ok_asked F36 b36 B RD⟩
  have F37 := fun_mk (st := s__law_pot) l37 c37 k37
  have b37 := F37.binds (ps := ["_law_script", "_law_k"]) fun _ _ _ _ _ _ us hl => match us, hl with | [_, _], _ => rfl
  have d__law_pot : Def l.prog w K mg base "_law_pot" 1 sp_pot := ⟨f37, PySem.W.mg_of X G a37, k37, ok_pot F37 b37 B⟩
  have F38 := fun_mk (st := s__law_take) l38 c38 k38
  have b38 := F38.binds (ps := ["_law_pot_here", "_law_upto"]) fun _ _ _ _ _ _ us hl => match us, hl with | [_, _], _ => rfl
  have d__law_take : Def l.prog w K mg base "_law_take" 1 sp_take := ⟨f38, PySem.W.mg_of X G a38, k38, ok_take F38 b38 B⟩
  have F39 := fun_mk (st := s__law_of) l39 c39 k39
  have b39 := F39.binds (ps := ["_law_pot_here", "_law_some"]) fun _ _ _ _ _ _ us hl => match us, hl with | [_, _], _ => rfl
  have d__law_of : Def l.prog w K mg base "_law_of" 2 sp_of := ⟨f39, PySem.W.mg_of X G a39, k39, ok_of F39 b39 B d__law_take⟩
  have F40 := fun_mk (st := s__law_word) l40 c40 k40
  have b40 := F40.binds (ps := ["_law_pot_here"]) fun _ _ _ _ _ _ us hl => match us, hl with | [_], _ => rfl
  have d__law_word : Def l.prog w K mg base "_law_word" 3 sp_word := ⟨f40, PySem.W.mg_of X G a40, k40, ok_word F40 b40 B d__law_take d__law_of⟩
  have F41 := fun_mk (st := s__law_names) l41 c41 k41
  have b41 := F41.binds (ps := ["_law_pot_here", "_law_many"]) fun _ _ _ _ _ _ us hl => match us, hl with | [_, _], _ => rfl
  have d__law_names : Def l.prog w K mg base "_law_names" 4 sp_names := ⟨f41, PySem.W.mg_of X G a41, k41, ok_names F41 b41 B d__law_take d__law_word⟩
  have F42 := fun_mk (st := s__law_cell) l42 c42 k42
  have b42 := F42.binds (ps := ["_law_pot_here", "_law_names_here"]) fun _ _ _ _ _ _ us hl => match us, hl with | [_, _], _ => rfl
  have d__law_cell : Def l.prog w K mg base "_law_cell" 3 sp_cell := ⟨f42, PySem.W.mg_of X G a42, k42, ok_cell F42 b42 B d__law_of⟩
  have F43 := fun_mk (st := s__law_cells) l43 c43 k43
  have b43 := F43.binds (ps := ["_law_pot_here", "_law_names_here"]) fun _ _ _ _ _ _ us hl => match us, hl with | [_, _], _ => rfl
  have d__law_cells : Def l.prog w K mg base "_law_cells" 4 sp_cells := ⟨f43, PySem.W.mg_of X G a43, k43, ok_cells F43 b43 B d__law_of d__law_cell⟩
  have F44 := fun_mk (st := s__law_key) l44 c44 k44
  have b44 := F44.binds (ps := ["_law_pot_here", "_law_names_here"]) fun _ _ _ _ _ _ us hl => match us, hl with | [_, _], _ => rfl
  have d__law_key : Def l.prog w K mg base "_law_key" 3 sp_key := ⟨f44, PySem.W.mg_of X G a44, k44, ok_key F44 b44 B d__law_of⟩
  have F45 := fun_mk (st := s__law_book) l45 c45 k45
  have b45 := F45.binds (ps := ["_law_pot_here", "_law_names_here", "_law_most"]) fun _ _ _ _ _ _ us hl => match us, hl with | [_, _, _], _ => rfl
  have d__law_book : Def l.prog w K mg base "_law_book" 5 sp_book := ⟨f45, PySem.W.mg_of X G a45, k45, ok_book F45 b45 B d__law_take d__law_key d__law_cells⟩
  have F46 := fun_mk (st := s__law_written) l46 c46 k46
  have b46 := F46.binds (ps := ["_law_book_here", "_law_cells_here"]) fun _ _ _ _ _ _ us hl => match us, hl with | [_, _], _ => rfl
  have d__law_written : Def l.prog w K mg base "_law_written" 1 sp_lwritten := ⟨f46, PySem.W.mg_of X G a46, k46, ok_lwritten F46 b46 B⟩
  have F47 := fun_mk (st := s__law_fits_word) l47 c47 k47
  have b47 := F47.binds (ps := ["_law_value"]) fun _ _ _ _ _ _ us hl => match us, hl with | [_], _ => rfl
  have d__law_fits_word : Def l.prog w K mg base "_law_fits_word" 1 sp_fits_word := ⟨f47, PySem.W.mg_of X G a47, k47, ok_fits_word F47 b47 B⟩
  have F48 := fun_mk (st := s__law_made) l48 c48 k48
  have b48 := F48.binds (ps := ["_law_side_here", "_law_text_here"]) fun _ _ _ _ _ _ us hl => match us, hl with | [_, _], _ => rfl
  have d__law_made : Def l.prog w K mg base "_law_made" 2 sp_made := ⟨f48, PySem.W.mg_of X G a48, k48, ok_made F48 b48 B d__law_written⟩
  have F49 := fun_mk (st := s__law_fits_words) l49 c49 k49
  have b49 := F49.binds (ps := ["_law_value", "_law_least", "_law_most"]) fun _ _ _ _ _ _ us hl => match us, hl with | [_, _, _], _ => rfl
  have d__law_fits_words : Def l.prog w K mg base "_law_fits_words" 2 sp_fits_words := ⟨f49, PySem.W.mg_of X G a49, k49, ok_fits_words F49 b49 B d__law_fits_word⟩
  have F50 := fun_mk (st := s__law_text) l50 c50 k50
  have b50 := F50.binds (ps := ["_law_pot_here", "_law_names_here", "_law_most"]) fun _ _ _ _ _ _ us hl => match us, hl with | [_, _, _], _ => rfl
  have d__law_text : Def l.prog w K mg base "_law_text" 4 sp_text := ⟨f50, PySem.W.mg_of X G a50, k50, ok_text F50 b50 B d__law_take d__law_of d__law_word⟩
  have F51 := fun_mk (st := s__law_odd) l51 c51 k51
  have b51 := F51.binds (ps := ["_law_pot_here"]) fun _ _ _ _ _ _ us hl => match us, hl with | [_], _ => rfl
  have d__law_odd : Def l.prog w K mg base "_law_odd" 3 sp_odd := ⟨f51, PySem.W.mg_of X G a51, k51, ok_odd F51 b51 B d__law_of⟩
  have F52 := fun_mk (st := s__law_spoilt) l52 c52 k52
  have b52 := F52.binds (ps := ["_law_pot_here", "_law_value"]) fun _ _ _ _ _ _ us hl => match us, hl with | [_, _], _ => rfl
  have d__law_spoilt : Def l.prog w K mg base "_law_spoilt" 14 sp_spoiltA := ⟨f52, PySem.W.mg_of X G a52, k52, ok_spoilt F52 b52 B (PySem.W.mg_of X G a52) k52 d__law_take d__law_of d__law_odd⟩
  have F53 := fun_mk (st := s__law_thing) l53 c53 k53
  have b53 := F53.binds (ps := ["_law_pot_here", "_law_names_here"]) fun _ _ _ _ _ _ us hl => match us, hl with | [_, _], _ => rfl
  have d__law_thing : Def l.prog w K mg base "_law_thing" 15 sp_thing := ⟨f53, PySem.W.mg_of X G a53, k53, ok_thing F53 b53 B d__law_take d__law_of d__law_odd d__law_text d__law_spoilt⟩
  have F54 := fun_mk (st := s__law_right) l54 c54 k54
  have b54 := F54.binds (ps := ["_law_pot_here"]) fun _ _ _ _ _ _ us hl => match us, hl with | [_], _ => rfl
  have d__law_right : DefG l.prog w K mg base "_law_right" 17 (sp_right CH BK) := ⟨f54, PySem.W.mg_of X G a54, k54, right_ok F54 b54 B hsy RD RE d__law_take d__law_names d__law_book d__law_side d__law_thing d__law_fits_words d__law_asked d__law_made⟩
  have FL := fun_mk (st := s_law) l55 c55 k55
  have bL := FL.binds (ps := ["_law_script"]) fun _ _ _ _ _ _ us hl => match us, hl with | [_], _ => rfl
  exact law_ok FL bL B d__law_pot d__law_right
theorem walkL {l : PySem.W.OpenLaw} {q : Program} {loose : List Str} {XP : (Str → Option Value) → Heap → Prop} {YP : World → Heap → Prop} {d : DefRec} {K : Params → PySem.W.Frag} (hn : l.most = some 63) (hdf : d.params.defaults = [])
    (hY : ∀ (w : World) (h : Heap), YP w h → (K w.params).In h)
    (F : ∀ (w : World) (mg : Str → Option Value) (fa : Addr) (h : Heap), (K w.params).In h → h.Ns mainGlobals mg → mg d.name = some (.ref fa) → ∀ base : Heap, (K w.params).In base → base.Ns mainGlobals mg → (∃ o, base.get? sysModules = some o) → FnG l.prog w (K w.params) mg base 18 fa sp_law) (hin : importsNone q = true) :
    PySem.W.WalkO q loose XP YP l.row.toRowW d [] (fun f vs => PySem.call f vs) :=
  walk_G (n := 63) (k := 18) (sp := sp_law) hn (by decide) hdf ⟨rfl, by decide, by decide⟩ hY F (fun ns Q R q => ⟨ns, rfl, q⟩) hin
end K
open PySem PySem.W PyProof.Rows in
set_option maxRecDepth 100000 in
set_option maxHeartbeats 0 in
theorem PySem.Challenge.cw_widenedwords_k09_values_that_are_no_text_holds : PySem.Challenge.rw_widenedwords_k09_values_that_are_no_text.Holds := by
  w_on; o_law; k_head; (case hw => w_witness2)
  k_fill
  refine K.walkL (l := PySem.Challenge.rw_widenedwords_k09_values_that_are_no_text) rfl rfl (fun w h Y => PySem.W.kIn_of Y) ?F rfl
  case F =>
    intro w mg fa h KX G hmg
    intro base kb nb hsy
    refine' K.all_mk KX G hmg ?a0 ?l0 ?c0 ?k0 ?a1 ?l1 ?c1 ?k1 ?a2 ?l2 ?c2 ?k2 ?a3 ?l3 ?c3 ?k3 ?a4 ?l4 ?c4 ?k4 ?a5 ?l5 ?c5 ?k5 ?a6 ?l6 ?c6 ?k6 ?a7 ?l7 ?c7 ?k7 ?a8 ?l8 ?c8 ?k8 ?a9 ?l9 ?c9 ?k9 ?a10 ?l10 ?c10 ?k10 ?a11 ?l11 ?c11 ?k11 ?a12 ?l12 ?c12 ?k12 ?a13 ?l13 ?c13 ?k13 ?a14 ?l14 ?c14 ?k14 ?a15 ?l15 ?c15 ?k15 ?a16 ?l16 ?c16 ?k16 ?a17 ?l17 ?c17 ?k17 ?a28 ?l28 ?c28 ?k28 ?a29 ?l29 ?c29 ?k29 ?a35 ?l35 ?c35 ?k35 ?a36 ?l36 ?c36 ?k36 ?a37 ?l37 ?c37 ?k37 ?a38 ?l38 ?c38 ?k38 ?a39 ?l39 ?c39 ?k39 ?a40 ?l40 ?c40 ?k40 ?a41 ?l41 ?c41 ?k41 ?a42 ?l42 ?c42 ?k42 ?a43 ?l43 ?c43 ?k43 ?a44 ?l44 ?c44 ?k44 ?a45 ?l45 ?c45 ?k45 ?a46 ?l46 ?c46 ?k46 ?a47 ?l47 ?c47 ?k47 ?a48 ?l48 ?c48 ?k48 ?a49 ?l49 ?c49 ?k49 ?a50 ?l50 ?c50 ?k50 ?a51 ?l51 ?c51 ?k51 ?a52 ?l52 ?c52 ?k52 ?a53 ?l53 ?c53 ?k53 ?a54 ?l54 ?c54 ?k54 ?a55 ?l55 ?c55 ?k55 ?n_MOST_KEY_rewriting ?n_MOST_LETTERS ?n_LETTERS ?n_MOST_KEY_words ?n_MOST_CELL ?n_MOST_CELLS ?n_MOST_RULES ?z_tuple ?z_list ?z_len ?z_any ?z_all ?z_range ?z_zip ?z_isinstance ?z_str ?z_sorted ?z_set ?z_dict ?z_max ?z_min ?z_abs ?z_int ?z_bool ?z_sum ?z_reversed ?z_repr ?A_Book ?Pg_Book ?Ic_Book ?Po_Book ?Sa_Book ?sA_Book_table ?sG_Book_table ?sT_Book_table ?sY_Book_table ?sI_Book_table ?Ja_Book ?Jn ?Jt ?Jm_Book ?mM_Book___init__ ?mA_Book___init__ ?mF_Book___init__ ?mK_Book___init__ ?mA_Book_copy ?mF_Book_copy ?mA_Book_stages ?mF_Book_stages ?mA_Book_begun ?mF_Book_begun ?mA_Book_steps ?mF_Book_steps ?mA_Book_rules ?mG_Book_rules ?mT_Book_rules ?mR_Book_rules ?Sf_Book ?mA_Book___rshift__ ?mF_Book___rshift__ ?mA_Book___eq__ ?mF_Book___eq__ ?mA_Book___call__ ?mF_Book___call__ ?mI_Book___call__ ?A_Chain ?Pg_Chain ?Ic_Chain ?Po_Chain ?Sa_Chain ?sA_Chain_former ?sG_Chain_former ?sT_Chain_former ?sY_Chain_former ?sI_Chain_former ?sA_Chain_latter ?sG_Chain_latter ?sT_Chain_latter ?sY_Chain_latter ?sI_Chain_latter ?Ja_Chain ?Jm_Chain ?mM_Chain___init__ ?mA_Chain___init__ ?mF_Chain___init__ ?mK_Chain___init__ ?mA_Chain_stages ?mF_Chain_stages ?mA_Chain_begun ?mF_Chain_begun ?mA_Chain_books ?mG_Chain_books ?mT_Chain_books ?mR_Chain_books ?mA_Chain___call__ ?mF_Chain___call__ ?mI_Chain___call__ ?mA_Chain___eq__ ?mF_Chain___eq__ ?l18 ?c18 ?k18 ?lT18 ?l19 ?c19 ?k19 ?l20 ?c20 ?k20 ?l21 ?c21 ?k21 ?l22 ?c22 ?k22 ?l23 ?c23 ?k23 ?l24 ?c24 ?k24 ?l25 ?c25 ?k25 ?l26 ?c26 ?k26 ?l27 ?c27 ?k27 ?l30 ?c30 ?k30 ?l31 ?c31 ?k31 ?l32 ?c32 ?k32 ?l33 ?c33 ?k33 ?l34 ?c34 ?k34 ?eA_BT ?eI_BT ?lE_WideError___init__ ?cE_WideError___init__ ?kE_WideError___init__ ?lTE_WideError___init__ ?eT_E_WideError___init__ ?eL_BT ?eR_BT ?eS_BT ?eX_BT ?eY_BT ?eK_BT ?eN_value_BT ?eG_BT ?eH_BT ?eD_BT ?eM_BT base kb nb hsy
    (case a0 => k_is)
    (case l0 => k_is)
    (case c0 => k_is)
    (case k0 => k_is)
    (case a1 => k_is)
    (case l1 => k_is)
    (case c1 => k_is)
    (case k1 => k_is)
    (case a2 => k_is)
    (case l2 => k_is)
    (case c2 => k_is)
    (case k2 => k_is)
    (case a3 => k_is)
    (case l3 => k_is)
    (case c3 => k_is)
    (case k3 => k_is)
    (case a4 => k_is)
    (case l4 => k_is)
    (case c4 => k_is)
    (case k4 => k_is)
    (case a5 => k_is)
    (case l5 => k_is)
    (case c5 => k_is)
    (case k5 => k_is)
    (case a6 => k_is)
    (case l6 => k_is)
    (case c6 => k_is)
    (case k6 => k_is)
    (case a7 => k_is)
    (case l7 => k_is)
    (case c7 => k_is)
    (case k7 => k_is)
    (case a8 => k_is)
    (case l8 => k_is)
    (case c8 => k_is)
    (case k8 => k_is)
    (case a9 => k_is)
    (case l9 => k_is)
    (case c9 => k_is)
    (case k9 => k_is)
    (case a10 => k_is)
    (case l10 => k_is)
    (case c10 => k_is)
    (case k10 => k_is)
    (case a11 => k_is)
    (case l11 => k_is)
    (case c11 => k_is)
    (case k11 => k_is)
    (case a12 => k_is)
    (case l12 => k_is)
    (case c12 => k_is)
    (case k12 => k_is)
    (case a13 => k_is)
    (case l13 => k_is)
    (case c13 => k_is)
    (case k13 => k_is)
    (case a14 => k_is)
    (case l14 => k_is)
    (case c14 => k_is)
    (case k14 => k_is)
    (case a15 => k_is)
    (case l15 => k_is)
    (case c15 => k_is)
    (case k15 => k_is)
    (case a16 => k_is)
    (case l16 => k_is)
    (case c16 => k_is)
    (case k16 => k_is)
    (case a17 => k_is)
    (case l17 => k_is)
    (case c17 => k_is)
    (case k17 => k_is)
    (case a28 => k_is)
    (case l28 => k_is)
    (case c28 => k_is)
    (case k28 => k_is)
    (case a29 => k_is)
    (case l29 => k_is)
    (case c29 => k_is)
    (case k29 => k_is)
    (case a35 => k_is)
    (case l35 => k_is)
    (case c35 => k_is)
    (case k35 => k_is)
    (case a36 => k_is)
    (case l36 => k_is)
    (case c36 => k_is)
    (case k36 => k_is)
    (case a37 => k_is)
    (case l37 => k_is)
    (case c37 => k_is)
    (case k37 => k_is)
    (case a38 => k_is)
    (case l38 => k_is)
    (case c38 => k_is)
    (case k38 => k_is)
    (case a39 => k_is)
    (case l39 => k_is)
    (case c39 => k_is)
    (case k39 => k_is)
    (case a40 => k_is)
    (case l40 => k_is)
    (case c40 => k_is)
    (case k40 => k_is)
    (case a41 => k_is)
    (case l41 => k_is)
    (case c41 => k_is)
    (case k41 => k_is)
    (case a42 => k_is)
    (case l42 => k_is)
    (case c42 => k_is)
    (case k42 => k_is)
    (case a43 => k_is)
    (case l43 => k_is)
    (case c43 => k_is)
    (case k43 => k_is)
    (case a44 => k_is)
    (case l44 => k_is)
    (case c44 => k_is)
    (case k44 => k_is)
    (case a45 => k_is)
    (case l45 => k_is)
    (case c45 => k_is)
    (case k45 => k_is)
    (case a46 => k_is)
    (case l46 => k_is)
    (case c46 => k_is)
    (case k46 => k_is)
    (case a47 => k_is)
    (case l47 => k_is)
    (case c47 => k_is)
    (case k47 => k_is)
    (case a48 => k_is)
    (case l48 => k_is)
    (case c48 => k_is)
    (case k48 => k_is)
    (case a49 => k_is)
    (case l49 => k_is)
    (case c49 => k_is)
    (case k49 => k_is)
    (case a50 => k_is)
    (case l50 => k_is)
    (case c50 => k_is)
    (case k50 => k_is)
    (case a51 => k_is)
    (case l51 => k_is)
    (case c51 => k_is)
    (case k51 => k_is)
    (case a52 => k_is)
    (case l52 => k_is)
    (case c52 => k_is)
    (case k52 => k_is)
    (case a53 => k_is)
    (case l53 => k_is)
    (case c53 => k_is)
    (case k53 => k_is)
    (case a54 => k_is)
    (case l54 => k_is)
    (case c54 => k_is)
    (case k54 => k_is)
    (case a55 => k_is)
    (case l55 => k_is)
    (case c55 => k_is)
    (case k55 => k_is)
    (case n_MOST_KEY_rewriting => k_is)
    (case n_MOST_LETTERS => k_is)
    (case n_LETTERS => k_is)
    (case n_MOST_KEY_words => k_is)
    (case n_MOST_CELL => k_is)
    (case n_MOST_CELLS => k_is)
    (case n_MOST_RULES => k_is)
    (case z_tuple => k_is)
    (case z_list => k_is)
    (case z_len => k_is)
    (case z_any => k_is)
    (case z_all => k_is)
    (case z_range => k_is)
    (case z_zip => k_is)
    (case z_isinstance => k_is)
    (case z_str => k_is)
    (case z_sorted => k_is)
    (case z_set => k_is)
    (case z_dict => k_is)
    (case z_max => k_is)
    (case z_min => k_is)
    (case z_abs => k_is)
    (case z_int => k_is)
    (case z_bool => k_is)
    (case z_sum => k_is)
    (case z_reversed => k_is)
    (case z_repr => k_is)
    (case A_Book => k_is)
    (case Pg_Book => k_is)
    (case Ic_Book => k_is)
    (case Po_Book => k_is)
    (case Sa_Book => k_is)
    (case sA_Book_table => k_is)
    (case sG_Book_table => k_is)
    (case sT_Book_table => k_is)
    (case sY_Book_table => k_is)
    (case sI_Book_table => k_is)
    (case Ja_Book => k_is)
    (case Jn => k_is)
    (case Jt => k_is)
    (case Jm_Book => k_is)
    (case mM_Book___init__ => k_is)
    (case mA_Book___init__ => k_is)
    (case mF_Book___init__ => k_is)
    (case mK_Book___init__ => k_is)
    (case mA_Book_copy => k_is)
    (case mF_Book_copy => k_is)
    (case mA_Book_stages => k_is)
    (case mF_Book_stages => k_is)
    (case mA_Book_begun => k_is)
    (case mF_Book_begun => k_is)
    (case mA_Book_steps => k_is)
    (case mF_Book_steps => k_is)
    (case mA_Book_rules => k_is)
    (case mG_Book_rules => k_is)
    (case mT_Book_rules => k_is)
    (case mR_Book_rules => k_is)
    (case Sf_Book => k_is)
    (case mA_Book___rshift__ => k_is)
    (case mF_Book___rshift__ => k_is)
    (case mA_Book___eq__ => k_is)
    (case mF_Book___eq__ => k_is)
    (case mA_Book___call__ => k_is)
    (case mF_Book___call__ => k_is)
    (case mI_Book___call__ => k_is)
    (case A_Chain => k_is)
    (case Pg_Chain => k_is)
    (case Ic_Chain => k_is)
    (case Po_Chain => k_is)
    (case Sa_Chain => k_is)
    (case sA_Chain_former => k_is)
    (case sG_Chain_former => k_is)
    (case sT_Chain_former => k_is)
    (case sY_Chain_former => k_is)
    (case sI_Chain_former => k_is)
    (case sA_Chain_latter => k_is)
    (case sG_Chain_latter => k_is)
    (case sT_Chain_latter => k_is)
    (case sY_Chain_latter => k_is)
    (case sI_Chain_latter => k_is)
    (case Ja_Chain => k_is)
    (case Jm_Chain => k_is)
    (case mM_Chain___init__ => k_is)
    (case mA_Chain___init__ => k_is)
    (case mF_Chain___init__ => k_is)
    (case mK_Chain___init__ => k_is)
    (case mA_Chain_stages => k_is)
    (case mF_Chain_stages => k_is)
    (case mA_Chain_begun => k_is)
    (case mF_Chain_begun => k_is)
    (case mA_Chain_books => k_is)
    (case mG_Chain_books => k_is)
    (case mT_Chain_books => k_is)
    (case mR_Chain_books => k_is)
    (case mA_Chain___call__ => k_is)
    (case mF_Chain___call__ => k_is)
    (case mI_Chain___call__ => k_is)
    (case mA_Chain___eq__ => k_is)
    (case mF_Chain___eq__ => k_is)
    (case l18 => k_is)
    (case c18 => k_is)
    (case k18 => k_is)
    (case lT18 => k_is)
    (case l19 => k_is)
    (case c19 => k_is)
    (case k19 => k_is)
    (case l20 => k_is)
    (case c20 => k_is)
    (case k20 => k_is)
    (case l21 => k_is)
    (case c21 => k_is)
    (case k21 => k_is)
    (case l22 => k_is)
    (case c22 => k_is)
    (case k22 => k_is)
    (case l23 => k_is)
    (case c23 => k_is)
    (case k23 => k_is)
    (case l24 => k_is)
    (case c24 => k_is)
    (case k24 => k_is)
    (case l25 => k_is)
    (case c25 => k_is)
    (case k25 => k_is)
    (case l26 => k_is)
    (case c26 => k_is)
    (case k26 => k_is)
    (case l27 => k_is)
    (case c27 => k_is)
    (case k27 => k_is)
    (case l30 => k_is)
    (case c30 => k_is)
    (case k30 => k_is)
    (case l31 => k_is)
    (case c31 => k_is)
    (case k31 => k_is)
    (case l32 => k_is)
    (case c32 => k_is)
    (case k32 => k_is)
    (case l33 => k_is)
    (case c33 => k_is)
    (case k33 => k_is)
    (case l34 => k_is)
    (case c34 => k_is)
    (case k34 => k_is)
    (case eA_BT => k_is)
    (case eI_BT => k_is)
    (case lE_WideError___init__ => k_is)
    (case cE_WideError___init__ => k_is)
    (case kE_WideError___init__ => k_is)
    (case lTE_WideError___init__ => k_is)
    (case eT_E_WideError___init__ => k_is)
    (case eL_BT => k_is)
    (case eR_BT => rfl)
    (case eS_BT => k_is)
    (case eX_BT => k_is)
    (case eY_BT => k_is)
    (case eK_BT => k_is)
    (case eN_value_BT => k_is)
    (case eG_BT => k_is)
    (case eH_BT => k_is)
    (case eD_BT => k_is)
    (case eM_BT => k_is)
