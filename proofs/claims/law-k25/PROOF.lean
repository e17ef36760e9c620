import PyProof.Rows.All
import Wide.All
import OpenK.AllK
import Wide.FinOn
import HandS.ForMost
import HandS.ForExc
import KE.SortData
import KE.DataEq
import KE.DataFind
import KE.DataIsa
import KE.DataMinMax
import KE.DataAny
import KE.KDictKeyed
import HandS.Walk
import HandS.Conv
import HandS.TupAny
import KE.KIndexOf
import HandS.Style
import HandS.IsInst
import KE.GoesEnum
import HandS.SetFor
import HandS.TupLen
import KE.KDictDisplayH
import KE.KDictPairs
import KE.KDictWalk
import KE.KDictCopyH
import KE.KRevSl
import HandS.ListEq
import HandS.Codes
import HandS.TupMul
import HandS.Replace
import PyProof.IsRules
import HandS.Set
import HandS.Strs
import HandS.List
import HandS.DictEq
import HandS.TupSets
import PySem.Challenge.RW_shortdeeds_k25_least_net_papers
set_option Elab.async false
set_option linter.all false
set_option maxRecDepth 100000
set_option maxHeartbeats 4000000
/-! DLa: pure data over the hand layer: values of the program as data without addresses, what is mutable by address. -/
namespace DL
open PySem L2

/-- a value: data (that nobody changes any more), or an object by its address -/
inductive Va where
  | dat (d : PyData)
  | ref (a : Addr)

/-- an object that may be changed -/
inductive MO where
  | lst (xs : List Va)
  | dct (kvs : List (PyData × Va))
  | ins (C : Addr) (fs : List (Str × Va))

abbrev Gp := Addr → Option MO
abbrev Ts := List (Option Va)
abbrev VQ := Va → Gp → Prop
abbrev DE := Ts → Gp → VQ → Prop
abbrev DT := Ts → Gp → (Bool → Gp → Prop) → Prop
abbrev DA := Ts → Gp → (List Va → Gp → Prop) → Prop
structure DEnds where
  nx : Ts → Gp → Prop
  rt : VQ
  bk : Ts → Gp → Prop := fun _ _ => False
  ct : Ts → Gp → Prop := fun _ _ => False
abbrev DS := DEnds → Ts → Gp → Prop
abbrev DSp := List Va → Gp → VQ → Prop

def gup (G : Gp) (a : Addr) (o : MO) : Gp := fun b => if b = a then some o else G b
theorem gup_same {G : Gp} {a : Addr} {o : MO} : gup G a o a = some o := if_pos rfl
theorem gup_ne {G : Gp} {a b : Addr} {o : MO} (h : b ≠ a) : gup G a o b = G b := if_neg h
theorem gup_gup {G : Gp} {a : Addr} {o u : MO} : gup (gup G a o) a u = gup G a u := by
  funext b; unfold gup; split <;> rfl

/-- data that stand in a list of values -/
def see1 : Va → Option PyData
  | .dat d => some d
  | .ref _ => none
def seeL : List Va → Option (List PyData)
  | [] => some []
  | .dat d :: r => (seeL r).map (d :: ·)
  | .ref _ :: _ => none
def seeKV : List (PyData × Va) → Option (List (PyData × PyData))
  | [] => some []
  | (k, .dat d) :: r => (seeKV r).map ((k, d) :: ·)
  | (_, .ref _) :: _ => none
/-- a value as data, as it stands now -/
def see (G : Gp) : Va → Option PyData
  | .dat d => some d
  | .ref a => match G a with
    | some (.lst xs) => (seeL xs).map .list
    | some (.dct kvs) => (seeKV kvs).map .dict
    | _ => none
theorem see_dat {G : Gp} {d : PyData} : see G (.dat d) = some d := rfl
theorem seeL_dats : ∀ ds : List PyData, seeL (ds.map Va.dat) = some ds
  | [] => rfl
  | d :: ds => by rw [List.map_cons, seeL, seeL_dats ds]; rfl
theorem seeL_some : ∀ {xs : List Va} {ds : List PyData}, seeL xs = some ds → xs = ds.map Va.dat
  | [], ds, h => by cases h; rfl
  | .dat d :: r, ds, h => by
    cases e : seeL r with
    | none => rw [seeL, e] at h; cases h
    | some es =>
      rw [seeL, e] at h
      cases h
      rw [seeL_some e]; rfl
  | .ref _ :: _, _, h => by cases h
theorem seeKV_dats : ∀ kvs : List (PyData × PyData), seeKV (kvs.map fun p => (p.1, Va.dat p.2)) = some kvs
  | [] => rfl
  | (k, d) :: r => by rw [List.map_cons, seeKV, seeKV_dats r]; rfl
theorem seeKV_some : ∀ {xs : List (PyData × Va)} {ds : List (PyData × PyData)}, seeKV xs = some ds → xs = ds.map fun p => (p.1, Va.dat p.2)
  | [], ds, h => by cases h; rfl
  | (k, .dat d) :: r, ds, h => by
    cases e : seeKV r with
    | none => rw [seeKV, e] at h; cases h
    | some es =>
      rw [seeKV, e] at h
      cases h
      rw [seeKV_some e]; rfl
  | (_, .ref _) :: _, _, h => by cases h

/-! ### keys -/
mutual
def nkey : PyData → Option NestedKey
  | .none => some .none
  | .bool b => some (.num (if b = true then 1 else 0))
  | .int i => some (.num i)
  | .str x => some (.text x)
  | .tuple xs => (nkeys xs).map .tup
  | .list _ => none
  | .dict _ => none
def nkeys : List PyData → Option (List NestedKey)
  | [] => some []
  | d :: ds => match nkey d, nkeys ds with
    | some k, some ks => some (k :: ks)
    | _, _ => none
end

/-! ### data in the abstract heap -/
def exactly (a : Addr) (o : Obj) : Heap → Prop := fun h => h.get? a = some o
/-- a dict object of these entries -/
def DObj (o : Obj) (es : List DictEntry) : Prop := ∃ (a : Array DictEntry) (ep : Nat), o.ExactDict ∧ o.data = .dict a ep ∧ a.toList = es

/-- a tuple that has no names of its own -/
def TupN (K : PySem.W.Frag) (H : Hp) (a : Addr) (vs : List V) : Prop :=
  (∃ o, H a = some (.frz o (.tup vs)) ∧ o.dict = none) ∨ ∃ (o : Obj) (its : Array Value) (n : Nat), K.lookup a = some o ∧ o.cls = .type "tuple" ∧ o.dict = none ∧ o.data = .seq its n ∧ its.size ≤ sizeLine ∧ Vals vs its.toList
theorem TupN.sq {K : PySem.W.Frag} {H : Hp} {a : Addr} {vs : List V} (h : TupN K H a vs) : SqT K H a vs := by
  rcases h with ⟨o, h, _⟩ | ⟨o, its, n, h1, h2, _, h3, h4, h5⟩
  · exact .inl (.inr ⟨o, h⟩)
  · exact .inr ⟨o, its, n, h1, h2, h3, h4, h5⟩
mutual
/-- the value v is the data d, for good -/
inductive Rel (w : World) (K : PySem.W.Frag) (H : Hp) : PyData → V → Prop
  | non : Rel w K H .none .non
  | bl (b : Bool) : Rel w K H (.bool b) (.bl b)
  | int (i : Int) : Rel w K H (.int i) (.int i)
  | str (x : Str) : Rel w K H (.str x) (.str x)
  | tup {a : Addr} {vs : List V} {ds : List PyData} : TupN K H a vs → RelAll w K H ds vs → Rel w K H (.tuple ds) (.ref a)
  | lst {a : Addr} {o : Obj} {vs : List V} {ds : List PyData} : H a = some (.frz o (.lst vs)) → RelAll w K H ds vs → Rel w K H (.list ds) (.ref a)
  | dct {a : Addr} {o : Obj} {u : HO} {es : List DictEntry} {kvs : List (PyData × PyData)} : H a = some (.frz o u) → DObj o es → a ≠ sysModules → es.length ≤ sizeLine → (kvs.map fun p => nkey p.1).Nodup → RelKV w K H kvs es → Rel w K H (.dict kvs) (.ref a)
inductive RelAll (w : World) (K : PySem.W.Frag) (H : Hp) : List PyData → List V → Prop
  | nil : RelAll w K H [] []
  | cons {d : PyData} {ds : List PyData} {v : V} {vs : List V} : Rel w K H d v → RelAll w K H ds vs → RelAll w K H (d :: ds) (v :: vs)
inductive RelKV (w : World) (K : PySem.W.Frag) (H : Hp) : List (PyData × PyData) → List DictEntry → Prop
  | nil : RelKV w K H [] []
  | cons {k d : PyData} {kv dv : V} {n : NestedKey} {e : DictEntry} {kvs : List (PyData × PyData)} {es : List DictEntry} : Rel w K H k kv → RelV kv e.key → nkey k = some n → e.hash = n.hash w → Rel w K H d dv → RelV dv e.val → RelKV w K H kvs es → RelKV w K H ((k, d) :: kvs) (e :: es)
end

/-- what stood stands: tuples, frozen things -/
structure Ext (H H' : Hp) : Prop where
  tups : ∀ b xs, H b = some (.tup xs) → H' b = some (.tup xs)
  frzs : ∀ b o u, H b = some (.frz o u) → H' b = some (.frz o u)
theorem Ext.refl {H : Hp} : Ext H H := ⟨fun _ _ h => h, fun _ _ _ h => h⟩
theorem Ext.trans {H H1 H2 : Hp} (a : Ext H H1) (b : Ext H1 H2) : Ext H H2 := ⟨fun c xs h => b.tups c xs (a.tups c xs h), fun c o u h => b.frzs c o u (a.frzs c o u h)⟩
theorem Ext.rd {H H' : Hp} {a : Addr} {xs : List V} (e : Ext H H') (h : Rd H a (.tup xs)) : Rd H' a (.tup xs) := by
  rcases h with h | ⟨o, h⟩
  · exact .inl (e.tups _ _ h)
  · exact .inr ⟨o, e.frzs _ _ _ h⟩
theorem Ext.sqT {K : PySem.W.Frag} {H H' : Hp} {a : Addr} {xs : List V} (e : Ext H H') (h : SqT K H a xs) : SqT K H' a xs := by
  rcases h with h | h
  · exact .inl (e.rd h)
  · exact .inr h
theorem Ext.tupN {K : PySem.W.Frag} {H H' : Hp} {a : Addr} {xs : List V} (e : Ext H H') (h : TupN K H a xs) : TupN K H' a xs := by
  rcases h with ⟨o, h, hd⟩ | h
  · exact .inl ⟨o, e.frzs _ _ _ h, hd⟩
  · exact .inr h
section
variable {w : World} {K : PySem.W.Frag} {H H' : Hp}
mutual
theorem Rel.ext (e : Ext H H') : ∀ {d : PyData} {v : V}, Rel w K H d v → Rel w K H' d v
  | _, _, .non => .non
  | _, _, .bl b => .bl b
  | _, _, .int i => .int i
  | _, _, .str x => .str x
  | _, _, .tup h1 h2 => .tup (e.tupN h1) (RelAll.ext e h2)
  | _, _, .lst h1 h2 => .lst (e.frzs _ _ _ h1) (RelAll.ext e h2)
  | _, _, .dct h1 h2 h3 h4 h5 h6 => .dct (e.frzs _ _ _ h1) h2 h3 h4 h5 (RelKV.ext e h6)
theorem RelAll.ext (e : Ext H H') : ∀ {ds : List PyData} {vs : List V}, RelAll w K H ds vs → RelAll w K H' ds vs
  | _, _, .nil => .nil
  | _, _, .cons h1 h2 => .cons (Rel.ext e h1) (RelAll.ext e h2)
theorem RelKV.ext (e : Ext H H') : ∀ {ds : List (PyData × PyData)} {vs : List DictEntry}, RelKV w K H ds vs → RelKV w K H' ds vs
  | _, _, .nil => .nil
  | _, _, .cons h1 h2 h3 h4 h5 h6 h7 => .cons (Rel.ext e h1) h2 h3 h4 (Rel.ext e h5) h6 (RelKV.ext e h7)
end
theorem RelAll.length : ∀ {ds : List PyData} {vs : List V}, RelAll w K H ds vs → ds.length = vs.length
  | _, _, .nil => rfl
  | _, _, .cons _ h2 => by rw [List.length_cons, List.length_cons, RelAll.length h2]
theorem RelAll.get : ∀ {ds : List PyData} {vs : List V} {i : Nat} {d : PyData}, RelAll w K H ds vs → ds[i]? = some d → ∃ v, vs[i]? = some v ∧ Rel w K H d v
  | _, _, _, _, .nil, e => by simp at e
  | _, _, 0, _, .cons h _, e => by
    cases (Option.some.inj (by simpa using e) : _ = _)
    exact ⟨_, rfl, h⟩
  | _, _, i + 1, d, .cons _ t, e => by
    obtain ⟨v, h1, h2⟩ := RelAll.get (i := i) (d := d) t (by simpa using e)
    exact ⟨v, by simpa using h1, h2⟩
theorem RelAll.getV : ∀ {ds : List PyData} {vs : List V} {i : Nat} {v : V}, RelAll w K H ds vs → vs[i]? = some v → ∃ d, ds[i]? = some d ∧ Rel w K H d v
  | _, _, _, _, .nil, e => by simp at e
  | _, _, 0, _, .cons h _, e => by
    cases (Option.some.inj (by simpa using e) : _ = _)
    exact ⟨_, rfl, h⟩
  | _, _, i + 1, d, .cons _ t, e => by
    obtain ⟨v, h1, h2⟩ := RelAll.getV (i := i) (v := d) t (by simpa using e)
    exact ⟨v, by simpa using h1, h2⟩
theorem RelAll.append : ∀ {ds es : List PyData} {vs us : List V}, RelAll w K H ds vs → RelAll w K H es us → RelAll w K H (ds ++ es) (vs ++ us)
  | _, _, _, _, .nil, s => s
  | _, _, _, _, .cons r t, s => .cons r (RelAll.append t s)
theorem RelAll.take : ∀ {ds : List PyData} {vs : List V} (n : Nat), RelAll w K H ds vs → RelAll w K H (ds.take n) (vs.take n)
  | _, _, 0, _ => .nil
  | _, _, _ + 1, .nil => .nil
  | _, _, n + 1, .cons r t => .cons r (RelAll.take n t)
theorem RelAll.drop : ∀ {ds : List PyData} {vs : List V} (n : Nat), RelAll w K H ds vs → RelAll w K H (ds.drop n) (vs.drop n)
  | _, _, 0, r => r
  | _, _, _ + 1, .nil => .nil
  | _, _, n + 1, .cons _ t => RelAll.drop n t

/-- a value, an object by its address -/
def RelA (w : World) (K : PySem.W.Frag) (H : Hp) : Va → V → Prop
  | .dat d, v => Rel w K H d v
  | .ref a, v => v = .ref a
abbrev RelAs (w : World) (K : PySem.W.Frag) (H : Hp) : List Va → List V → Prop := Paired (RelA w K H)
theorem RelA.ext {x : Va} {v : V} (e : Ext H H') (r : RelA w K H x v) : RelA w K H' x v := by
  cases x with
  | dat d => exact Rel.ext e r
  | ref a => exact r
theorem RelAs.ext {xs : List Va} {vs : List V} (e : Ext H H') (r : RelAs w K H xs vs) : RelAs w K H' xs vs := Paired.mapP r fun _ _ q => q.ext e
theorem RelAs.dats : ∀ {ds : List PyData} {vs : List V}, RelAs w K H (ds.map Va.dat) vs → RelAll w K H ds vs
  | [], _, r => by cases r; exact .nil
  | d :: ds, _, r => by
    cases r with
    | cons h t => exact .cons h (RelAs.dats t)
theorem RelAll.vas : ∀ {ds : List PyData} {vs : List V}, RelAll w K H ds vs → RelAs w K H (ds.map Va.dat) vs
  | _, _, .nil => .nil
  | _, _, .cons h t => .cons h (RelAll.vas t)

/-- the entries of a dict that may be changed -/
structure EntOk (w : World) (K : PySem.W.Frag) (H : Hp) (p : PyData × Va) (e : DictEntry) : Prop where
  key : ∃ kv, Rel w K H p.1 kv ∧ RelV kv e.key
  hash : ∃ n, nkey p.1 = some n ∧ e.hash = n.hash w
  val : ∃ dv, RelA w K H p.2 dv ∧ RelV dv e.val
theorem EntOk.ext {p : PyData × Va} {d : DictEntry} (e : Ext H H') (r : EntOk w K H p d) : EntOk w K H' p d :=
  ⟨let ⟨kv, h1, h2⟩ := r.key; ⟨kv, h1.ext e, h2⟩, r.hash, let ⟨kv, h1, h2⟩ := r.val; ⟨kv, h1.ext e, h2⟩⟩
theorem RelKV.ents : ∀ {kvs : List (PyData × PyData)} {es : List DictEntry}, RelKV w K H kvs es → Paired (EntOk w K H) (kvs.map fun p => (p.1, Va.dat p.2)) es
  | _, _, .nil => .nil
  | _, _, .cons h1 h2 h3 h4 h5 h6 t => .cons ⟨⟨_, h1, h2⟩, ⟨_, h3, h4⟩, ⟨_, h5, h6⟩⟩ (RelKV.ents t)
theorem RelKV.of_ents : ∀ {kvs : List (PyData × PyData)} {es : List DictEntry}, Paired (EntOk w K H) (kvs.map fun p => (p.1, Va.dat p.2)) es → RelKV w K H kvs es
  | [], _, r => by cases r; exact .nil
  | (k, d) :: kvs, _, r => by
    cases r with
    | cons h t =>
      obtain ⟨⟨_, h1, h2⟩, ⟨_, h3, h4⟩, ⟨_, h5, h6⟩⟩ := h
      exact .cons h1 h2 h3 h4 h5 h6 (RelKV.of_ents t)

/-- what stands at a mutable object's address -/
def MOk (w : World) (K : PySem.W.Frag) (H : Hp) (a : Addr) : MO → Prop
  | .lst xs => ∃ vs, H a = some (.lst vs) ∧ RelAs w K H xs vs
  | .dct kvs => ∃ (o : Obj) (es : List DictEntry), H a = some (.ext (exactly a o)) ∧ DObj o es ∧ a ≠ sysModules ∧ es.length ≤ sizeLine ∧ (kvs.map fun p => nkey p.1).Nodup ∧ Paired (EntOk w K H) kvs es
  | .ins C fs => ∃ (dx : Addr) (gs : List (Str × V)), H a = some (.ins C dx gs) ∧ Paired (fun (p : Str × Va) (q : Str × V) => p.1 = q.1 ∧ RelA w K H p.2 q.2) fs gs
def AbsG (w : World) (K : PySem.W.Frag) (H : Hp) (G : Gp) : Prop := ∀ a o, G a = some o → MOk w K H a o
theorem MOk.tracked {a : Addr} {o : MO} (h : MOk w K H a o) : ∃ u, H a = some u ∧ Mut (some u) := by
  cases o with
  | lst xs => obtain ⟨_, e, _⟩ := h; exact ⟨_, e, True.intro⟩
  | dct kvs => obtain ⟨_, _, e, _⟩ := h; exact ⟨_, e, True.intro⟩
  | ins C fs => obtain ⟨_, _, e, _⟩ := h; exact ⟨_, e, True.intro⟩
theorem MOk.keep {a : Addr} {o : MO} (e : Ext H H') (s : H' a = H a) (h : MOk w K H a o) : MOk w K H' a o := by
  cases o with
  | lst xs => obtain ⟨vs, e1, r⟩ := h; exact ⟨vs, s.trans e1, r.ext e⟩
  | dct kvs => obtain ⟨o, es, e1, r1, r2, r3, r4, r5⟩ := h; exact ⟨o, es, s.trans e1, r1, r2, r3, r4, Paired.mapP r5 fun _ _ q => q.ext e⟩
  | ins C fs => obtain ⟨dx, gs, e1, r⟩ := h; exact ⟨dx, gs, s.trans e1, Paired.mapP r fun _ _ q => ⟨q.1, q.2.ext e⟩⟩
theorem AbsG.off {G : Gp} (A : AbsG w K H G) {a : Addr} (h : H a = none) : G a = none := by
  cases q : G a with
  | none => rfl
  | some o =>
    obtain ⟨u, e, _⟩ := (A a o q).tracked
    rw [h] at e; cases e
theorem AbsG.imm {G : Gp} (A : AbsG w K H G) {a : Addr} {u : HO} (h : H a = some u) (m : ¬ Mut (some u)) : G a = none := by
  cases q : G a with
  | none => rfl
  | some o =>
    obtain ⟨u', e, m'⟩ := (A a o q).tracked
    rw [h] at e; cases e
    exact absurd m' m
/-- a step: what is tracked but not told by G is as it was -/
structure Step (H : Hp) (G : Gp) (H' : Hp) (G' : Gp) : Prop where
  keep : ∀ a o, H a = some o → G a = none → H' a = some o ∧ G' a = none
  ext : Ext H H'
theorem Step.refl {G : Gp} : Step H G H G := ⟨fun _ _ h g => ⟨h, g⟩, .refl⟩
theorem Step.trans {H1 H2 : Hp} {G G1 G2 : Gp} (a : Step H G H1 G1) (b : Step H1 G1 H2 G2) : Step H G H2 G2 :=
  ⟨fun c o h g => let ⟨h1, g1⟩ := a.keep c o h g; b.keep c o h1 g1, a.ext.trans b.ext⟩
/-- a new object, not told by G -/
theorem Step.new {G : Gp} {p : Addr} {o : HO} (hp : H p = none) : Step H G (upd H p o) G := by
  refine ⟨fun a u h g => ⟨?_, g⟩, fun b xs h => ?_, fun b ob u h => ?_⟩
  all_goals
    rw [upd_ne (ne_of_none h hp)]
    exact h
theorem AbsG.new {G : Gp} {p : Addr} {o : HO} (A : AbsG w K H G) (hp : H p = none) : AbsG w K (upd H p o) G := fun a m g => by
  obtain ⟨u, e, _⟩ := (A a m g).tracked
  exact (A a m g).keep (Step.new (G := G) hp).ext (upd_ne (ne_of_none e hp))
/-- a new object, told by G -/
theorem Step.newG {G : Gp} {p : Addr} {o : HO} {m : MO} (hp : H p = none) : Step H G (upd H p o) (gup G p m) := by
  refine ⟨fun a u h g => ⟨?_, ?_⟩, fun b xs h => ?_, fun b ob u h => ?_⟩
  · rw [upd_ne (ne_of_none h hp)]; exact h
  · rw [gup_ne (ne_of_none h hp)]; exact g
  all_goals
    rw [upd_ne (ne_of_none h hp)]
    exact h
theorem AbsG.newG {G : Gp} {p : Addr} {o : HO} {m : MO} (A : AbsG w K H G) (hp : H p = none) (hm : MOk w K (upd H p o) p m) : AbsG w K (upd H p o) (gup G p m) := fun a m' g => by
  by_cases e : a = p
  · subst e
    rw [gup_same] at g; cases g
    exact hm
  · rw [gup_ne e] at g
    exact A.new hp a m' g
/-- a mutable object is written -/
theorem Step.put {G : Gp} {p : Addr} {o u : HO} {m m' : MO} (g : G p = some m) (hp : H p = some u) (mu : Mut (some u)) : Step H G (upd H p o) (gup G p m') := by
  have nt : ∀ b x, H b = some x → ¬ Mut (some x) → b ≠ p := fun b x h nm e => by
    subst e
    rw [hp] at h; cases h
    exact nm mu
  refine ⟨fun a x h g' => ?_, fun b xs h => ?_, fun b ob x h => ?_⟩
  · have ne : a ≠ p := fun e => by rw [e, g] at g'; cases g'
    rw [upd_ne ne, gup_ne ne]
    exact ⟨h, g'⟩
  · rw [upd_ne (nt b _ h fun z => z)]; exact h
  · rw [upd_ne (nt b _ h fun z => z)]; exact h
theorem AbsG.put {G : Gp} {p : Addr} {o : HO} {m m' : MO} (A : AbsG w K H G) (g : G p = some m) (hm : MOk w K (upd H p o) p m') : AbsG w K (upd H p o) (gup G p m') := fun a x gx => by
  by_cases e : a = p
  · subst e
    rw [gup_same] at gx; cases gx
    exact hm
  · rw [gup_ne e] at gx
    obtain ⟨u, hp, mu⟩ := (A p m g).tracked
    exact (A a x gx).keep (Step.put (m' := m') (o := o) g hp mu).ext (upd_ne e)
/-- G may forget -/
def SubG (G' G : Gp) : Prop := ∀ a o, G' a = some o → G a = some o
theorem AbsG.sub {G G' : Gp} (A : AbsG w K H G) (s : SubG G' G) : AbsG w K H G' := fun a o g => A a o (s a o g)
theorem Step.sub {G G1 G2 : Gp} (st : Step H G H' G1) (s : SubG G2 G1) : Step H G H' G2 := by
  refine ⟨fun a o h g => ?_, st.ext⟩
  obtain ⟨h1, g1⟩ := st.keep a o h g
  refine ⟨h1, ?_⟩
  cases q : G2 a with
  | none => rfl
  | some m => rw [s a m q] at g1; cases g1

/-- the slots -/
structure Abs (w : World) (K : PySem.W.Frag) (σ : St) (H : Hp) (τ : Ts) (G : Gp) : Prop where
  len : τ.length = σ.length
  slot : ∀ (i : Nat) x, τ[i]? = some (some x) → ∃ v, σ[i]? = some (some v) ∧ RelA w K H x v
  obj : AbsG w K H G
theorem Abs.step {σ : St} {τ : Ts} {G G' : Gp} (A : Abs w K σ H τ G) (s : Ext H H') (g : AbsG w K H' G') : Abs w K σ H' τ G' :=
  ⟨A.len, fun i x e => let ⟨v, h1, h2⟩ := A.slot i x e; ⟨v, h1, h2.ext s⟩, g⟩
theorem Abs.set {σ : St} {τ : Ts} {G : Gp} (A : Abs w K σ H τ G) {x : Va} {v : V} (r : RelA w K H x v) (i : Nat) : Abs w K (σ.set i (some v)) H (τ.set i (some x)) G := by
  refine ⟨by rw [List.length_set, List.length_set, A.len], fun j y e => ?_, A.obj⟩
  by_cases hj : i = j
  · subst hj
    by_cases hl : i < τ.length
    · rw [List.getElem?_set_self hl] at e
      cases e
      exact ⟨v, by rw [List.getElem?_set_self (by rw [← A.len]; exact hl)], r⟩
    · rw [List.getElem?_eq_none (by rw [List.length_set]; omega)] at e
      cases e
  · rw [List.getElem?_set_ne hj] at e ⊢
    exact A.slot j y e
end

/-! ### readings lifted -/
section
variable (w : World) (K : PySem.W.Frag)
/-- what follows a value -/
def upQ (H : Hp) (G : Gp) (Q0 : VQ) (Q : VK) : Prop := ∀ x G' v H', Q0 x G' → RelA w K H' x v → AbsG w K H' G' → Step H G H' G' → Q v H'
def upE (t : DE) : TE := fun σ H Q => ∃ τ G Q0, Abs w K σ H τ G ∧ t τ G Q0 ∧ upQ w K H G Q0 Q
def upT (t : DT) : TT := fun σ H Q => ∃ τ G Q0, Abs w K σ H τ G ∧ t τ G Q0 ∧ ∀ b G' H', Q0 b G' → AbsG w K H' G' → Step H G H' G' → Q b H'
def upA (t : DA) : TA := fun σ H Q => ∃ τ G Q0, Abs w K σ H τ G ∧ t τ G Q0 ∧ ∀ xs G' vs H', Q0 xs G' → RelAs w K H' xs vs → AbsG w K H' G' → Step H G H' G' → Q vs H'
/-- what follows a statement -/
structure UpD (H : Hp) (G : Gp) (D0 : DEnds) (D : Ends) : Prop where
  nx : ∀ τ' G' σ' H', D0.nx τ' G' → Abs w K σ' H' τ' G' → Step H G H' G' → D.nx σ' H'
  rt : upQ w K H G D0.rt D.rt
  bk : ∀ τ' G' σ' H', D0.bk τ' G' → Abs w K σ' H' τ' G' → Step H G H' G' → D.bk σ' H'
  ct : ∀ τ' G' σ' H', D0.ct τ' G' → Abs w K σ' H' τ' G' → Step H G H' G' → D.ct σ' H'
def upS (t : DS) : TS := fun D σ H => ∃ τ G D0, Abs w K σ H τ G ∧ t D0 τ G ∧ UpD w K H G D0 D
end
theorem upQ.step {w : World} {K : PySem.W.Frag} {H H1 : Hp} {G G1 : Gp} {Q0 : VQ} {Q : VK} (u : upQ w K H G Q0 Q) (s : Step H G H1 G1) : upQ w K H1 G1 Q0 Q :=
  fun x G' v H' q r a st => u x G' v H' q r a (s.trans st)
theorem UpD.step {w : World} {K : PySem.W.Frag} {H H1 : Hp} {G G1 : Gp} {D0 : DEnds} {D : Ends} (u : UpD w K H G D0 D) (s : Step H G H1 G1) : UpD w K H1 G1 D0 D :=
  ⟨fun τ' G' σ' H' q a st => u.nx τ' G' σ' H' q a (s.trans st), u.rt.step s, fun τ' G' σ' H' q a st => u.bk τ' G' σ' H' q a (s.trans st), fun τ' G' σ' H' q a st => u.ct τ' G' σ' H' q a (s.trans st)⟩
theorem _root_.L2.PE.imp {X : Cx} {e : Expr} {t t' : TE} (h : PE X e t) (i : ∀ σ H Q, t' σ H Q → t σ H Q) : PE X e t' := ⟨fun pins s σ H Q I q => h.run pins s σ H Q I (i σ H Q q)⟩
theorem _root_.L2.PT.imp {X : Cx} {e : Expr} {t t' : TT} (h : PT X e t) (i : ∀ σ H Q, t' σ H Q → t σ H Q) : PT X e t' := ⟨fun pins s σ H Q I q => h.run pins s σ H Q I (i σ H Q q)⟩
theorem _root_.L2.PA.imp {X : Cx} {es : List Expr} {t t' : TA} (h : PA X es t) (i : ∀ σ H Q, t' σ H Q → t σ H Q) : PA X es t' := ⟨fun p pins s σ H Q I q => h.run p pins s σ H Q I (i σ H Q q)⟩
theorem _root_.L2.PS.imp {X : Cx} {st : Stmt} {t t' : TS} (h : PS X st t) (i : ∀ D σ H, t' D σ H → t D σ H) : PS X st t' := ⟨fun pins s σ H D I q => h.run pins s σ H D I (i D σ H q)⟩
theorem _root_.L2.PSs.imp {X : Cx} {st : List Stmt} {t t' : TS} (h : PSs X st t) (i : ∀ D σ H, t' D σ H → t D σ H) : PSs X st t' := ⟨fun pins s σ H D I q => h.run pins s σ H D I (i D σ H q)⟩
end DL

/-! DLb: defs and their contracts over data, names, calls, statements, loops. -/
namespace DL
open PySem PySem.Spec PyProof.Rows L2

/-! ### contracts -/
structure FnD (P : Program) (w : World) (K : PySem.W.Frag) (mg : Str → Option Value) (base : Heap) (k : Nat) (f : Addr) (fd : FuncData) (ps : List Str) (sp : DSp) : Prop where
  len : ∀ xs G Q, sp xs G Q → xs.length = ps.length
  run : ∀ (A : Around) (outer : List Env) (s : Shared) (H : Hp) (args : Args) (us : List Value) (vs : List V) (xs : List Va) (G : Gp) (Q0 : VQ) (Q : VK), Room k A → A.guards = some [] → Env0 P w K mg base A outer s H →
    BindsTo s fd args (ps.zip us) → Vals vs us → RelAs w K H xs vs → AbsG w K H G → sp xs G Q0 → upQ w K H G Q0 Q → codeAny (model P w) A (.call (.ref f) args) (CR CX0 outer P w H s Q E0) s
theorem FnD.mono {P : Program} {w : World} {K : PySem.W.Frag} {mg : Str → Option Value} {base : Heap} {j k : Nat} {f : Addr} {fd : FuncData} {ps : List Str} {sp : DSp} (F : FnD P w K mg base j f fd ps sp) (h : j ≤ k) : FnD P w K mg base k f fd ps sp :=
  ⟨F.len, fun A outer s H args us vs xs G Q0 Q hr => F.run A outer s H args us vs xs G Q0 Q (hr.mono h)⟩
theorem Paired.len {α β : Type} {F : α → β → Prop} {xs : List α} {ys : List β} (h : Paired F xs ys) : xs.length = ys.length := Paired.length h

/-- the context of a def's body in which nothing is raised -/
abbrev cx (P : Program) (w : World) (K : PySem.W.Frag) (mg : Str → Option Value) (base : Heap) (N : List Str) (qual : Str) (scope : Scope) (f : Addr) (cd : Value) (A : Around) (outer : List Env) (s : Shared) (H : Hp) : Cx :=
  (cxOf CX0 P w K mg base N qual scope f cd A outer s H E0).nox

theorem start_abs {w : World} {K : PySem.W.Frag} {H : Hp} {G : Gp} {N : List Str} {xs : List Va} {vs : List V} (r : RelAs w K H xs vs) (g : AbsG w K H G) : Abs w K (L2.start N vs) H (xs.map some ++ List.replicate (N.length - xs.length) none) G := by
  have hl := Paired.len r
  refine ⟨?_, fun i x e => ?_, g⟩
  · unfold L2.start
    rw [List.length_append, List.length_append, List.length_map, List.length_map, List.length_replicate, List.length_replicate, hl]
  · have hi : i < xs.length := by
      by_cases hi : i < xs.length
      · exact hi
      · rw [List.getElem?_append_right (by rw [List.length_map]; omega), List.getElem?_replicate] at e
        split at e <;> cases e
    rw [List.getElem?_append_left (by rw [List.length_map]; exact hi), List.getElem?_map] at e
    have ex : xs[i]? = some xs[i] := by simp [hi]
    rw [ex] at e
    cases e
    have : ∀ {xs : List Va} {vs : List V} {i : Nat} {x : Va}, RelAs w K H xs vs → xs[i]? = some x → ∃ v, vs[i]? = some v ∧ RelA w K H x v := by
      intro xs vs i x r
      induction r generalizing i with
      | nil => intro e; simp at e
      | cons h t ih =>
        intro e
        cases i with
        | zero => cases (Option.some.inj (by simpa using e) : _ = _); exact ⟨_, rfl, h⟩
        | succ j => obtain ⟨v, h1, h2⟩ := ih (i := j) (by simpa using e); exact ⟨v, by simpa using h1, h2⟩
    obtain ⟨v, h1, h2⟩ := this r ex
    refine ⟨v, ?_, h2⟩
    unfold L2.start
    rw [List.getElem?_append_left (by rw [List.length_map, ← hl]; exact hi), List.getElem?_map, h1]
    rfl

/-- what a body is to reach: some part of what is told may be forgotten -/
def endQ (Q : VQ) : VQ := fun x G => ∃ G', SubG G' G ∧ Q x G'
def bodyEnds (Q : VQ) : DEnds := { nx := fun _ G => endQ Q (.dat .none) G, rt := endQ Q }
theorem SubG.refl {G : Gp} : SubG G G := fun _ _ h => h
theorem endQ.of {Q : VQ} {x : Va} {G : Gp} (h : Q x G) : endQ Q x G := ⟨G, SubG.refl, h⟩

/-- THE RULE for a def: its body's reading -/
theorem fn_mk {P : Program} {w : World} {K : PySem.W.Frag} {mg : Str → Option Value} {base : Heap} {k : Nat} {f : Addr} {name qual : Str} {st : Stmt} {fd : FuncData} {N ps : List Str} {sp : DSp} {t : DS}
    (F : Fun K name qual st f fd) (S : FnScope N ps (defScope st)) (len : ∀ xs G Q, sp xs G Q → xs.length = ps.length)
    (body : ∀ (cdv : Value) (A : Around) (outer : List Env) (s : Shared) (H : Hp), Room k (A.deeper (envOfC qual (defScope st) s.heap.objs.size f cdv)) → A.guards = some [] → PSs (cx P w K mg base N qual (defScope st) f cdv A outer s H) (defBody st) (upS w K t))
    (read : ∀ xs G Q, sp xs G Q → t (bodyEnds Q) (xs.map some ++ List.replicate (N.length - ps.length) none) G) : FnD P w K mg base (k + 1) f fd ps sp := by
  obtain ⟨oc, od, kV, doc, pm, an, cdv, ct, osl, rfl, lk, hcd⟩ := F.ex
  refine ⟨len, fun A outer s H args us vs xs G Q0 Q hr hgd e0 hb r ra ag hsp hQ => ?_⟩
  have hlx := len _ _ _ hsp
  have hl : vs.length = ps.length := by rw [← Paired.len ra]; exact hlx
  have KX : K.In s.heap := e0.mod.kin.keeps fun b o e => (e0.bs b o e).1
  have lim : s.heap.NoLimit := e0.mod.nolimit.keeps fun b o e => (e0.bs b o e).1
  refine codeAny_call_function hr.depth (KX _ _ lk) rfl S.co S.gen rfl (PySem.W.codeRec_of KX hcd) (hb _ _ _ _ ?_)
  have hkind : ∀ y ∈ ps.zip us, (defScope st).names.lookup y.1 = some .local ∨ ((defScope st).names.lookup y.1 = some .cell ∧ ((cellsFrom (s.heap.objs.size + 1) (defScope st).names []).lookup y.1).isSome = true) := by
    intro y hy
    rcases S.par y.1 (List.of_mem_zip hy).1 with q | q
    · exact .inl q
    · exact .inr ⟨q, PySem.W.cellsFrom_some _ _ _ (.inl q)⟩
  refine wpAny_newFunctionEnv_cells S.kind hkind fun env he s1 x => ?_
  subst he
  refine ⟨lim.keeps x.toInCall.keep, codeAny_func ?_⟩
  have hB := body cdv A outer s H (hr.deeper _) hgd
  have I0 : Inv (cxOf CX0 P w K mg base N qual (defScope st) f cdv A outer s H E0) [] (L2.start N vs) H s1 := inv_start S hr.hd e0 hl r x
  have I : Inv (cx P w K mg base N qual (defScope st) f cdv A outer s H) [] (L2.start N vs) H s1 := I0.wish _
  have hT := read xs G Q0 hsp
  rw [show N.length - ps.length = N.length - xs.length by rw [hlx]] at hT
  refine wpAny_mono (hB.run [] s1 (L2.start N vs) H { nx := fun _ H' => Q .non H', rt := Q } I ⟨_, G, bodyEnds Q0, start_abs ra ag, hT, ?_⟩) (fun fl s' hs => ?_) fun e s' hs => hs.elim
  · refine ⟨fun τ' G' σ' H' q a st' => ?_, fun x' G' v H' q rx a st' => ?_, fun _ _ _ _ q _ _ => q.elim, fun _ _ _ _ q _ _ => q.elim⟩
    · obtain ⟨G2, s2, q2⟩ := q
      exact hQ (.dat .none) G2 .non H' q2 Rel.non (a.obj.sub s2) (st'.sub s2)
    · obtain ⟨G2, s2, q2⟩ := q
      exact hQ x' G2 v H' q2 rx (a.sub s2) (st'.sub s2)
  · have fin : ∀ {σ' : L2.St} {H' : Hp} {v : V} {u : Value}, Inv (cx P w K mg base N qual (defScope st) f cdv A outer s H) [] σ' H' s' → RelV v u → Q v H' → CE outer P w H s Q u s' :=
      fun {σ' H' v u} J rv q => ⟨v, H', J.os, J.bare, J.base, J.hok, rv, q⟩
    cases fl with
    | ret u =>
      obtain ⟨v, σ', H', J, rv, q⟩ := hs
      exact fin J rv q
    | next =>
      obtain ⟨σ', H', J, q⟩ := hs
      exact fin (v := V.non) (u := Value.none) J rfl q
    | brk => obtain ⟨_, _, _, q⟩ := hs; exact q.elim
    | cont => obtain ⟨_, _, _, q⟩ := hs; exact q.elim

section
variable {X : Cx} {k : Nat} {f : Addr} {fd : FuncData} {ps : List Str} {sp : DSp} {x : Str} {p pos : Pos} {e : Expr} {es : List Expr}
def dCall (sp : DSp) (t : DA) : DE := fun τ G Q => t τ G fun xs G1 => sp xs G1 Q
theorem run_fnD {pins : List (Addr × Obj)} {σ : L2.St} {H : Hp} {s : Shared} {Q : VK} {us : List Value} {vs : List V} {xs : List Va} {G : Gp} {Q0 : VQ} (F : FnD X.prog X.w X.K X.mg X.base k f fd ps sp) (hr : Room k X.A) (hgd : X.A.guards = some []) (hb : Binds X.K fd ps [])
    (I : Inv X pins σ H s) (r : Vals vs us) (ra : RelAs X.w X.K H xs vs) (ag : AbsG X.w X.K H G) (h : sp xs G Q0) (hQ : upQ X.w X.K H G Q0 Q) : wpAny (model X.prog X.w) X.A (call (.ref f) us) (EP X pins σ Q) X.xe s := by
  have hl : us.length = ps.length := by rw [← r.length, ← Paired.len ra]; exact F.len _ _ _ h
  have b := hb s us I.kIn (by rw [List.append_nil]; exact hl)
  rw [List.append_nil] at b
  refine wpAny_call (codeAny_mono (F.run X.A X.stack s H ⟨us, []⟩ us vs xs G Q0 Q hr hgd I.env0 b r ra ag h hQ) fun r s' hq => ?_)
  cases r with
  | error e => exact hq.elim
  | ok fl =>
    cases fl with
    | ret u => exact I.after hq
    | next => exact hq.elim
    | brk => exact hq.elim
    | cont => exact hq.elim
theorem q_call {t : DA} (F : FnD X.prog X.w X.K X.mg X.base k f fd ps sp) (hr : Room k X.A) (hgd : X.A.guards = some []) (hm : X.mg x = some (.ref f)) (hk : PySem.W.keepIn X.K (.ref f) = true) (hb : Binds X.K fd ps []) (hg : Gl X x)
    (ha : PA X (e :: es) (upA X.w X.K t)) (hdb : (x == ("__debug__" : Str)) = false := by decide) (he : starEach (e :: es) X.env = (false, eval e X.env) :: starEach es X.env := by rfl) (hpl : (backTo pos (starEach es X.env)).any (·.1) = false := by rfl) :
    PE X (.Call (.Name x p) (e :: es) [] pos) (upE X.w X.K (dCall sp t)) := by
  refine ⟨fun pins s σ H Q I h => ?_⟩
  obtain ⟨τ, G, Q0, ab, h, hQ⟩ := h
  refine wpAny_Call_Name_kw (ld_glob I hg hm ?_ hdb)
  refine PySem.W.callWith_K (h₀ := X.base) I.ok.mod.kin hk (thn (ha.run pos pins s σ H (fun vs H' => ∃ xs G', RelAs X.w X.K H' xs vs ∧ AbsG X.w X.K H' G' ∧ Step H G H' G' ∧ sp xs G' Q0) I ⟨τ, G, _, ab, h, fun xs G' vs H' q r a st => ⟨xs, G', r, a, st, q⟩⟩) fun us s1 ⟨vs, H1, I1, r, xs, G', ra, ag, st, q⟩ => ⟨I1.kIn, ?_⟩) he hpl
  exact run_fnD F hr hgd hb I1 r ra ag q (hQ.step st)
end

/-! ### names, constants -/
section
variable {X : Cx} {pos : Pos}
def dVar (i : Nat) : DE := fun τ G Q => ∃ x, τ[i]? = some (some x) ∧ Q x G
def dC (d : PyData) : DE := fun _ G Q => Q (.dat d) G
theorem q_of {e : Expr} {i : Nat} (h : PE X e (tVar i)) : PE X e (upE X.w X.K (dVar i)) := h.imp fun σ H Q ⟨τ, G, Q0, ab, ⟨x, e1, q⟩, hQ⟩ => by
  obtain ⟨v, e2, r⟩ := ab.slot i x e1
  exact ⟨v, e2, hQ x G v H q r ab.obj .refl⟩
theorem qv (i : Nat) {x : Str} {pos : Pos} (hN : X.N[i]? = some x := by rfl) (hv : Vis X.env.scope x := by first | exact Or.inl rfl | exact Or.inr (Or.inl rfl) | exact Or.inr (Or.inr rfl)) (hd : (x == ("__debug__" : Str)) = false := by decide)
    (hcd : (x == ("__classdict__" : Str)) = false := by decide) : PE X (.Name x pos) (upE X.w X.K (dVar i)) := q_of (pe_var hN hv hd hcd)
theorem q_c {e : Expr} {v : V} {d : PyData} (h : PE X e (tC v)) (r : ∀ H, Rel X.w X.K H d v) : PE X e (upE X.w X.K (dC d)) := h.imp fun σ H Q ⟨τ, G, Q0, ab, q, hQ⟩ => hQ (.dat d) G v H q (r H) ab.obj .refl
theorem q_int {i j} : PE X (.Constant (.int i) j pos) (upE X.w X.K (dC (.int i))) := q_c pe_int fun _ => .int i
theorem q_bl {b j} : PE X (.Constant (.bool b) j pos) (upE X.w X.K (dC (.bool b))) := q_c pe_bl fun _ => .bl b
theorem q_non {j} : PE X (.Constant .none j pos) (upE X.w X.K (dC .none)) := q_c pe_non fun _ => .non
theorem q_str {x j} : PE X (.Constant (.str x) j pos) (upE X.w X.K (dC (.str x))) := q_c pe_str fun _ => .str x
theorem q_glob {x : Str} {v : V} {u : Value} {d : PyData} (hm : X.mg x = some u) (r : RelV v u) (rd : ∀ H, Rel X.w X.K H d v) (hg : Gl X x := by rfl) (hd : (x == ("__debug__" : Str)) = false := by decide) : PE X (.Name x pos) (upE X.w X.K (dC d)) := q_c (pe_glob hg hm r hd) rd
end

/-! ### arguments -/
section
variable {X : Cx} {e : Expr} {es : List Expr} {t : DE} {u : DA}
def dNil : DA := fun _ G Q => Q [] G
def dCons (t : DE) (u : DA) : DA := fun τ G Q => t τ G fun x G1 => u τ G1 fun xs G2 => Q (x :: xs) G2
theorem qa_nil : PA X [] (upA X.w X.K dNil) := pa_nil.imp fun σ H Q ⟨τ, G, Q0, ab, q, hQ⟩ => hQ [] G [] H q .nil ab.obj .refl
theorem qa_cons (ha : PE X e (upE X.w X.K t)) (hr : PA X es (upA X.w X.K u)) (hs : starEach (e :: es) X.env = (false, eval e X.env) :: starEach es X.env := by rfl) : PA X (e :: es) (upA X.w X.K (dCons t u)) :=
  (pa_cons ha hr hs).imp fun σ H Q ⟨τ, G, Q0, ab, q, hQ⟩ => ⟨τ, G, _, ab, q, fun x G1 v H1 q1 r1 a1 s1 =>
    ⟨τ, G1, _, ab.step s1.ext a1, q1, fun xs G2 vs H2 q2 r2 a2 s2 => hQ (x :: xs) G2 (v :: vs) H2 q2 (.cons (r1.ext s2.ext) r2) a2 (s1.trans s2)⟩⟩
end

/-! ### statements -/
section
variable {X : Cx} {st : Stmt} {rest : List Stmt} {t u : DS} {e : Expr} {te : DE} {pos : Pos}
def dNext : DS := fun D τ G => D.nx τ G
def dSeq (t u : DS) : DS := fun D τ G => t { D with nx := u D } τ G
theorem qss_nil : PSs X [] (upS X.w X.K dNext) := pss_nil.imp fun D σ H ⟨τ, G, D0, ab, q, u⟩ => u.nx τ G σ H q ab .refl
theorem qss_cons (h1 : PS X st (upS X.w X.K t)) (h2 : PSs X rest (upS X.w X.K u)) : PSs X (st :: rest) (upS X.w X.K (dSeq t u)) :=
  (pss_cons h1 h2).imp fun D σ H ⟨τ, G, D0, ab, q, U⟩ => ⟨τ, G, { D0 with nx := u D0 }, ab, q,
    ⟨fun τ' G' σ' H' q' a' s' => ⟨τ', G', D0, a', q', U.step s'⟩, U.rt, U.bk, U.ct⟩⟩
theorem qss_one (h1 : PS X st (upS X.w X.K t)) : PSs X [st] (upS X.w X.K t) := pss_one h1
def dBreak : DS := fun D τ G => D.bk τ G
def dCont : DS := fun D τ G => D.ct τ G
theorem qs_pass : PS X (.Pass pos) (upS X.w X.K dNext) := ps_pass.imp fun D σ H ⟨τ, G, D0, ab, q, u⟩ => u.nx τ G σ H q ab .refl
theorem qs_break : PS X (.Break pos) (upS X.w X.K dBreak) := ps_break.imp fun D σ H ⟨τ, G, D0, ab, q, u⟩ => u.bk τ G σ H q ab .refl
theorem qs_continue : PS X (.Continue pos) (upS X.w X.K dCont) := ps_continue.imp fun D σ H ⟨τ, G, D0, ab, q, u⟩ => u.ct τ G σ H q ab .refl
def dDrop (te : DE) : DS := fun D τ G => te τ G fun _ G1 => D.nx τ G1
theorem qs_expr (he : PE X e (upE X.w X.K te)) (hs : swapsWith e none pos.line X.env = pure false := by rfl) : PS X (.Expr e pos) (upS X.w X.K (dDrop te)) :=
  (ps_expr he hs).imp fun D σ H ⟨τ, G, D0, ab, q, u⟩ => ⟨τ, G, _, ab, q, fun x G1 v H1 q1 r1 a1 s1 => u.nx τ G1 σ H1 q1 (ab.step s1.ext a1) s1⟩
def dRet (te : DE) : DS := fun D τ G => te τ G D.rt
theorem qs_ret (he : PE X e (upE X.w X.K te)) : PS X (.Return (some e) pos) (upS X.w X.K (dRet te)) :=
  (ps_ret he).imp fun D σ H ⟨τ, G, D0, ab, q, u⟩ => ⟨τ, G, D0.rt, ab, q, u.rt⟩
def dRetN : DS := fun D _ G => D.rt (.dat .none) G
theorem qs_retN : PS X (.Return none pos) (upS X.w X.K dRetN) := ps_retN.imp fun D σ H ⟨τ, G, D0, ab, q, u⟩ => u.rt (.dat .none) G .non H q Rel.non ab.obj .refl
def dIf (c : DT) (t u : DS) : DS := fun D τ G => c τ G fun b G1 => if b = true then t D τ G1 else u D τ G1
theorem qs_if {c : Expr} {a b : List Stmt} {tc : DT} (hc : PT X c (upT X.w X.K tc)) (ha : PSs X a (upS X.w X.K t)) (hb : PSs X b (upS X.w X.K u)) : PS X (.If c a b pos) (upS X.w X.K (dIf tc t u)) :=
  (ps_if hc ha hb).imp fun D σ H ⟨τ, G, D0, ab, q, U⟩ => ⟨τ, G, _, ab, q, fun bb G1 H1 q1 a1 s1 => by
    cases bb with
    | true => rw [if_pos rfl]; rw [if_pos rfl] at q1; exact ⟨τ, G1, D0, ab.step s1.ext a1, q1, U.step s1⟩
    | false => rw [if_neg Bool.false_ne_true]; rw [if_neg Bool.false_ne_true] at q1; exact ⟨τ, G1, D0, ab.step s1.ext a1, q1, U.step s1⟩⟩
def dNever : DS := fun _ _ _ => False
theorem qs_never : PS X st (upS X.w X.K dNever) := ps_never.imp fun D σ H ⟨τ, G, D0, ab, q, u⟩ => q
theorem qss_never {sts : List Stmt} : PSs X sts (upS X.w X.K dNever) := pss_never.imp fun D σ H ⟨τ, G, D0, ab, q, u⟩ => q

/-! ### targets -/
abbrev DG := Va → Ts → Gp → (Ts → Gp → Prop) → Prop
def upG (w : World) (K : PySem.W.Frag) (t : DG) : TG := fun v σ H Q => ∃ x τ G Q0, RelA w K H x v ∧ Abs w K σ H τ G ∧ t x τ G Q0 ∧ ∀ τ' G' σ' H', Q0 τ' G' → Abs w K σ' H' τ' G' → Step H G H' G' → Q σ' H'
theorem _root_.L2.PG.imp {target : Expr} {t t' : TG} (h : PG X target t) (i : ∀ v σ H Q, t' v σ H Q → t v σ H Q) : PG X target t' := ⟨fun pins s σ H v u Q I r q => h.run pins s σ H v u Q I r (i v σ H Q q)⟩
def gN (i : Nat) : DG := fun x τ G Q => Q (τ.set i (some x)) G
theorem qg_name {i : Nat} {x : Str} (hN : X.N.Nodup) (hi : X.N[i]? = some x := by rfl) (hx : Loc X.env.scope x := by first | exact Or.inl rfl | exact Or.inr rfl) (hf : X.fn x = true ∨ X.env.scope.names.lookup x = some .local := by first | exact .inl rfl | exact .inr rfl | assumption) :
    PG X (.Name x pos) (upG X.w X.K (gN i)) := (pg_name hN hi hx hf).imp fun v σ H Q ⟨x, τ, G, Q0, r, ab, q, hq⟩ => hq _ G _ H q (ab.set r i) .refl
def dAsg (te : DE) (g : DG) : DS := fun D τ G => te τ G fun x G1 => g x τ G1 D.nx
theorem asg_imp {te : DE} {g : DG} {D : Ends} {σ : L2.St} {H : Hp} (h : upS X.w X.K (dAsg te g) D σ H) : tAsg (upE X.w X.K te) (upG X.w X.K g) D σ H := by
  obtain ⟨τ, G, D0, ab, q, u⟩ := h
  exact ⟨τ, G, _, ab, q, fun x G1 v H1 q1 r1 a1 s1 => ⟨x, τ, G1, _, r1, ab.step s1.ext a1, q1, fun τ' G' σ' H' q' a' s' => u.nx τ' G' σ' H' q' a' (s1.trans s')⟩⟩
theorem qs_asg {tg : Expr} {g : DG} (he : PE X e (upE X.w X.K te)) (hg : PG X tg (upG X.w X.K g)) (hs : swapsWithSole [tg] e pos.line X.env = pure false := by rfl) (hw : swappedStores [tg] e X.env = pure none := by rfl)
    (h1 : (assignEach [tg] X.env).map (·.2) = [assign tg X.env] := by rfl) : PS X (.Assign [tg] e pos) (upS X.w X.K (dAsg te g)) := (ps_asg he hg hs hw h1).imp fun D σ H h => asg_imp h
def dSet (i : Nat) (te : DE) : DS := fun D τ G => te τ G fun x G1 => D.nx (τ.set i (some x)) G1
theorem set_imp {te : DE} {i : Nat} {D : Ends} {σ : L2.St} {H : Hp} (h : upS X.w X.K (dSet i te) D σ H) : tAsg (upE X.w X.K te) (gName i) D σ H := by
  obtain ⟨τ, G, D0, ab, q, u⟩ := h
  exact ⟨τ, G, _, ab, q, fun x G1 v H1 q1 r1 a1 s1 => u.nx _ G1 _ H1 q1 ((ab.step s1.ext a1).set r1 i) s1⟩
theorem qs_set {i : Nat} {x : Str} {pos' : Pos} (hN : X.N.Nodup) (he : PE X e (upE X.w X.K te)) (hi : X.N[i]? = some x := by rfl) (hx : Loc X.env.scope x := by first | exact Or.inl rfl | exact Or.inr rfl) (hs : swapsWith e (some (.Name x pos')) pos.line X.env = pure false := by rfl)
    (hf : X.fn x = true ∨ X.env.scope.names.lookup x = some .local := by first | exact .inl rfl | exact .inr rfl | assumption) : PS X (.Assign [.Name x pos'] e pos) (upS X.w X.K (dSet i te)) := (ps_set hN hi hx he hs hf).imp fun D σ H h => set_imp h
end

/-! ### tests -/
section
variable {X : Cx} {pos : Pos} {a b c : Expr} {rest : List Expr} {tA tB : DT} {ta tb : DE}
def dB (t : DE) : DT := fun τ G Q => t τ G fun x G1 => ∃ c, x = .dat (.bool c) ∧ Q c G1
theorem qt_val {e : Expr} {t : DE} (h : PE X e (upE X.w X.K t)) (he : ∀ whole, isTrue e X.env whole = (do let v ← whole; standAt e.pos; holding [v] (truthy v)) := by intro _; rfl) : PT X e (upT X.w X.K (dB t)) :=
  (pt_val h he).imp fun σ H Q ⟨τ, G, Q0, ab, q, hQ⟩ => ⟨τ, G, _, ab, q, fun x G1 v H1 q1 r1 a1 s1 => by
    obtain ⟨c, rfl, q2⟩ := q1
    have r1' : Rel X.w X.K H1 (.bool c) v := r1
    cases r1'
    exact ⟨c, rfl, hQ c G1 H1 q2 a1 s1⟩⟩
def dAnd (t u : DT) : DT := fun τ G Q => t τ G fun c G1 => if c = true then u τ G1 Q else Q false G1
def dOr (t u : DT) : DT := fun τ G Q => t τ G fun c G1 => if c = true then Q true G1 else u τ G1 Q
def dNot (t : DT) : DT := fun τ G Q => t τ G fun c G1 => Q (!c) G1
theorem _root_.L2.PW.imp {X : Cx} {e : Expr} {t t' : TT} (h : PW X e t) (i : ∀ σ H Q, t' σ H Q → t σ H Q) : PW X e t' := ⟨fun wh pins s σ H Q I q => h.run wh pins s σ H Q I (i σ H Q q)⟩
theorem qw_and1 (ha : PT X a (upT X.w X.K tA)) : PW X (.BoolOp .And [a] pos) (upT X.w X.K tA) := pw_and1 ha
theorem qw_or1 (ha : PT X a (upT X.w X.K tA)) : PW X (.BoolOp .Or [a] pos) (upT X.w X.K tA) := pw_or1 ha
theorem qw_and (ha : PT X a (upT X.w X.K tA)) (hb : PW X (.BoolOp .And (b :: rest) pos) (upT X.w X.K tB)) : PW X (.BoolOp .And (a :: b :: rest) pos) (upT X.w X.K (dAnd tA tB)) :=
  PW.imp (pw_and ha hb) fun σ H Q ⟨τ, G, Q0, ab, q, hQ⟩ => ⟨τ, G, _, ab, q, fun c G1 H1 q1 a1 s1 => by
    cases c with
    | true => rw [if_pos rfl]; rw [if_pos rfl] at q1; exact ⟨τ, G1, Q0, ab.step s1.ext a1, q1, fun b G' H' q' a' s' => hQ b G' H' q' a' (s1.trans s')⟩
    | false => rw [if_neg Bool.false_ne_true]; rw [if_neg Bool.false_ne_true] at q1; exact hQ false G1 H1 q1 a1 s1⟩
theorem qw_or (ha : PT X a (upT X.w X.K tA)) (hb : PW X (.BoolOp .Or (b :: rest) pos) (upT X.w X.K tB)) : PW X (.BoolOp .Or (a :: b :: rest) pos) (upT X.w X.K (dOr tA tB)) :=
  PW.imp (pw_or ha hb) fun σ H Q ⟨τ, G, Q0, ab, q, hQ⟩ => ⟨τ, G, _, ab, q, fun c G1 H1 q1 a1 s1 => by
    cases c with
    | false => rw [if_neg Bool.false_ne_true]; rw [if_neg Bool.false_ne_true] at q1; exact ⟨τ, G1, Q0, ab.step s1.ext a1, q1, fun b G' H' q' a' s' => hQ b G' H' q' a' (s1.trans s')⟩
    | true => rw [if_pos rfl]; rw [if_pos rfl] at q1; exact hQ true G1 H1 q1 a1 s1⟩
theorem qt_not (ha : PT X a (upT X.w X.K tA)) : PT X (.UnaryOp .Not a pos) (upT X.w X.K (dNot tA)) :=
  PT.imp (pt_not ha) fun σ H Q ⟨τ, G, Q0, ab, q, hQ⟩ => ⟨τ, G, _, ab, q, fun c G1 H1 q1 a1 s1 => hQ (!c) G1 H1 q1 a1 s1⟩
/-- as values -/
def dAndV (ta tb : DE) : DE := fun τ G Q => ta τ G fun x G1 => ∃ c, x = .dat (.bool c) ∧ if c = true then tb τ G1 Q else Q (.dat (.bool false)) G1
def dOrV (ta tb : DE) : DE := fun τ G Q => ta τ G fun x G1 => ∃ c, x = .dat (.bool c) ∧ if c = true then Q (.dat (.bool true)) G1 else tb τ G1 Q
def dNotV (ta : DE) : DE := fun τ G Q => ta τ G fun x G1 => ∃ c, x = .dat (.bool c) ∧ Q (.dat (.bool (!c))) G1
theorem q_one {op} {t : DE} (h : PE X a (upE X.w X.K t)) : PE X (.BoolOp op [a] pos) (upE X.w X.K t) := pe_one h
theorem q_and (ha : PE X a (upE X.w X.K ta)) (hb : PE X (.BoolOp .And (b :: rest) pos) (upE X.w X.K tb)) : PE X (.BoolOp .And (a :: b :: rest) pos) (upE X.w X.K (dAndV ta tb)) :=
  (pe_and ha hb).imp fun σ H Q ⟨τ, G, Q0, ab, q, hQ⟩ => ⟨τ, G, _, ab, q, fun x G1 v H1 q1 r1 a1 s1 => by
    obtain ⟨c, rfl, q2⟩ := q1
    have r1' : Rel X.w X.K H1 (.bool c) v := r1
    cases r1'
    refine ⟨c, rfl, ?_⟩
    cases c with
    | true => rw [if_pos rfl]; rw [if_pos rfl] at q2; exact ⟨τ, G1, Q0, ab.step s1.ext a1, q2, hQ.step s1⟩
    | false => rw [if_neg Bool.false_ne_true]; rw [if_neg Bool.false_ne_true] at q2; exact hQ (.dat (.bool false)) G1 (.bl false) H1 q2 (Rel.bl false) a1 s1⟩
theorem q_or (ha : PE X a (upE X.w X.K ta)) (hb : PE X (.BoolOp .Or (b :: rest) pos) (upE X.w X.K tb)) : PE X (.BoolOp .Or (a :: b :: rest) pos) (upE X.w X.K (dOrV ta tb)) :=
  (pe_or ha hb).imp fun σ H Q ⟨τ, G, Q0, ab, q, hQ⟩ => ⟨τ, G, _, ab, q, fun x G1 v H1 q1 r1 a1 s1 => by
    obtain ⟨c, rfl, q2⟩ := q1
    have r1' : Rel X.w X.K H1 (.bool c) v := r1
    cases r1'
    refine ⟨c, rfl, ?_⟩
    cases c with
    | false => rw [if_neg Bool.false_ne_true]; rw [if_neg Bool.false_ne_true] at q2; exact ⟨τ, G1, Q0, ab.step s1.ext a1, q2, hQ.step s1⟩
    | true => rw [if_pos rfl]; rw [if_pos rfl] at q2; exact hQ (.dat (.bool true)) G1 (.bl true) H1 q2 (Rel.bl true) a1 s1⟩
theorem q_not (ha : PE X a (upE X.w X.K ta)) : PE X (.UnaryOp .Not a pos) (upE X.w X.K (dNotV ta)) :=
  (pe_not ha).imp fun σ H Q ⟨τ, G, Q0, ab, q, hQ⟩ => ⟨τ, G, _, ab, q, fun x G1 v H1 q1 r1 a1 s1 => by
    obtain ⟨c, rfl, q2⟩ := q1
    have r1' : Rel X.w X.K H1 (.bool c) v := r1
    cases r1'
    exact ⟨c, rfl, hQ (.dat (.bool (!c))) G1 (.bl (!c)) H1 q2 (Rel.bl _) a1 s1⟩⟩
def dIfE (t : DT) (ta tb : DE) : DE := fun τ G Q => t τ G fun c G1 => if c = true then ta τ G1 Q else tb τ G1 Q
theorem q_ifExp (hc : PT X c (upT X.w X.K tA)) (ha : PE X a (upE X.w X.K ta)) (hb : PE X b (upE X.w X.K tb)) : PE X (.IfExp c a b pos) (upE X.w X.K (dIfE tA ta tb)) :=
  (pe_ifExp hc ha hb).imp fun σ H Q ⟨τ, G, Q0, ab, q, hQ⟩ => ⟨τ, G, _, ab, q, fun c G1 H1 q1 a1 s1 => by
    cases c with
    | true => rw [if_pos rfl]; rw [if_pos rfl] at q1; exact ⟨τ, G1, Q0, ab.step s1.ext a1, q1, hQ.step s1⟩
    | false => rw [if_neg Bool.false_ne_true]; rw [if_neg Bool.false_ne_true] at q1; exact ⟨τ, G1, Q0, ab.step s1.ext a1, q1, hQ.step s1⟩⟩
end
end DL

/-! DLc: what is walked, for, while, comprehensions. -/
namespace DL
open PySem PySem.Spec PyProof.Rows L2

/-- at H1 the walk J will give the items xs -/
structure IsSrc (w : World) (K : PySem.W.Frag) (J : It) (H1 : Hp) (xs : List Va) : Prop where
  len : xs.length ≤ sizeLine
  ex : ∃ (S : Hp → Prop) (Y : Nat → Hp → V → Hp → Prop), Walk J xs.length S Y ∧ (∀ H', Ext H1 H' → S H') ∧ ∀ i H x H', i < xs.length → Ext H1 H → Y i H x H' → Same H H' ∧ ∃ it, xs[i]? = some it ∧ RelA w K H' it x
abbrev DI := Ts → Gp → (List Va → Gp → Prop) → Prop
def upI (w : World) (K : PySem.W.Frag) (t : DI) : TI := fun σ H R => ∃ τ G R0, Abs w K σ H τ G ∧ t τ G R0 ∧ ∀ xs G' J H', R0 xs G' → AbsG w K H' G' → Step H G H' G' → IsSrc w K J H' xs → R J H'

theorem Same.step {H H' : Hp} {G : Gp} (s : Same H H') : Step H G H' G := ⟨fun a o h g => ⟨s a o h, g⟩, fun b xs h => s b _ h, fun b o u h => s b _ h⟩
theorem AbsG.same {w : World} {K : PySem.W.Frag} {H H' : Hp} {G : Gp} (A : AbsG w K H G) (s : Same H H') : AbsG w K H' G := fun a m g => by
  obtain ⟨u, e, _⟩ := (A a m g).tracked
  exact (A a m g).keep (Same.step (G := G) s).ext ((s a u e).trans e.symm)

/-! ### for -/
def loopG (g : DG) (tb : DS) (D : DEnds) : List Va → Ts → Gp → Prop
  | [], τ, G => D.nx τ G
  | x :: xs, τ, G => g x τ G fun τ1 G1 => tb { D with nx := loopG g tb D xs, ct := loopG g tb D xs, bk := D.nx } τ1 G1
def dFor (src : DI) (g : DG) (tb : DS) : DS := fun D τ G => src τ G fun xs G1 => loopG g tb D xs τ G1
section
variable {X : Cx} {pos : Pos}
theorem for_imp {w : World} {K : PySem.W.Frag} {src : DI} {g : DG} {tb : DS} {D : Ends} {σ : L2.St} {H : Hp} (h : upS w K (dFor src g tb) D σ H) : tFor (upI w K src) (upG w K g) (upS w K tb) D σ H := by
  obtain ⟨τ, G, D0, ab, q, U⟩ := h
  refine ⟨τ, G, _, ab, q, fun xs G1 J H1 q1 a1 s1 is => ?_⟩
  obtain ⟨S, Y, wk, hS, hY⟩ := is.ex
  refine for_it wk (fun i σ' H' => ∃ τ' G', Abs w K σ' H' τ' G' ∧ loopG g tb D0 (xs.drop i) τ' G' ∧ Step H G H' G' ∧ Ext H1 H') ⟨τ, G1, ab.step s1.ext a1, by simpa using q1, s1, .refl⟩ (fun i σ' H' _ ⟨_, _, _, _, _, e⟩ => hS H' e) ?_ ?_
  · rintro i x σ' H' H'' hi ⟨τ', G', ab', q', s', e'⟩ y
    obtain ⟨sm, it, hit, rx⟩ := hY i H' x H'' hi e' y
    have hd : xs.drop i = it :: xs.drop (i + 1) := by
      rw [List.drop_eq_getElem_cons hi]
      have : xs[i]? = some xs[i] := by simp [hi]
      rw [this] at hit; cases hit; rfl
    rw [hd] at q'
    refine ⟨it, τ', G', _, rx, ab'.step (Same.step (G := G') sm).ext (ab'.obj.same sm), q', fun τ2 G2 σ2 H2 q2 ab2 s2 => ?_⟩
    have s02 : Step H G H2 G2 := (s'.trans (Same.step sm)).trans s2
    have e02 : Ext H1 H2 := (e'.trans (Same.step (G := G') sm).ext).trans s2.ext
    refine ⟨τ2, G2, _, ab2, q2, ⟨fun τ3 G3 σ3 H3 q3 ab3 s3 => ⟨τ3, G3, ab3, q3, s02.trans s3, e02.trans s3.ext⟩, fun x3 G3 v3 H3 q3 r3 a3 s3 => U.rt x3 G3 v3 H3 q3 r3 a3 (s02.trans s3),
      fun τ3 G3 σ3 H3 q3 ab3 s3 => U.nx τ3 G3 σ3 H3 q3 ab3 (s02.trans s3), fun τ3 G3 σ3 H3 q3 ab3 s3 => ⟨τ3, G3, ab3, q3, s02.trans s3, e02.trans s3.ext⟩⟩⟩
  · rintro σ' H' ⟨τ', G', ab', q', s', e'⟩
    rw [List.drop_length] at q'
    exact U.nx τ' G' σ' H' q' ab' s'
theorem qs_for {tg iter : Expr} {body : List Stmt} {src : DI} {g : DG} {tb : DS} (hp : PassesOwn (model X.prog X.w) X.A X.env X.xe) (hc : X.calm = true) (hi : PI X tg iter (upI X.w X.K src)) (hg : PG X tg (upG X.w X.K g)) (hb : PSs X body (upS X.w X.K tb))
    (hs : ∀ x, foldedSetIterable iter X.env x = pure x := by intro _; rfl) : PS X (.For tg iter body [] pos) (upS X.w X.K (dFor src g tb)) :=
  (ps_for hp hc hi hg hb hs).imp fun D σ H h => for_imp h

/-! ### while -/
/-- by a word and a measure over the slots and what is told -/
def dWhile (c : DT) (tb : DS) : DS := fun D τ G => ∃ (Pv : Ts → Gp → Prop) (μ : Ts → Gp → Nat), Pv τ G ∧ ∀ τ G, Pv τ G → c τ G fun b G1 => if b = true then tb { D with nx := fun τ' G' => Pv τ' G' ∧ μ τ' G' < μ τ G, ct := fun τ' G' => Pv τ' G' ∧ μ τ' G' < μ τ G, bk := D.nx } τ G1 else D.nx τ G1
theorem while_imp {w : World} {K : PySem.W.Frag} {c : DT} {tb : DS} {D : Ends} {σ : L2.St} {H : Hp} (h : upS w K (dWhile c tb) D σ H) : tWhile (upT w K c) (upS w K tb) D σ H := by
  obtain ⟨τ, G, D0, ab, ⟨Pv, μ, p0, turn⟩, U⟩ := h
  refine ⟨fun m σ' H' => ∃ τ' G', Abs w K σ' H' τ' G' ∧ Pv τ' G' ∧ m = μ τ' G' ∧ Step H G H' G', ⟨_, τ, G, ab, p0, rfl, .refl⟩, ?_⟩
  rintro m σ' H' ⟨τ', G', ab', p', rfl, s'⟩
  refine ⟨τ', G', _, ab', turn τ' G' p', fun b G1 H1 q1 a1 s1 => ?_⟩
  cases b with
  | false =>
    rw [if_neg Bool.false_ne_true] at q1 ⊢
    exact U.nx τ' G1 σ' H1 q1 (ab'.step s1.ext a1) (s'.trans s1)
  | true =>
    rw [if_pos rfl] at q1 ⊢
    refine ⟨fun σ2 H2 => ∃ τ2 G2, Abs w K σ2 H2 τ2 G2 ∧ (Pv τ2 G2 ∧ μ τ2 G2 < μ τ' G') ∧ Step H G H2 G2, fun σ2 H2 ⟨τ2, G2, ab2, p2, s2⟩ => ⟨_, p2.2, τ2, G2, ab2, p2.1, rfl, s2⟩, ?_⟩
    have s01 := s'.trans s1
    exact ⟨τ', G1, _, ab'.step s1.ext a1, q1, ⟨fun τ3 G3 σ3 H3 q3 ab3 s3 => ⟨τ3, G3, ab3, q3, s01.trans s3⟩, fun x3 G3 v3 H3 q3 r3 a3 s3 => U.rt x3 G3 v3 H3 q3 r3 a3 (s01.trans s3),
      fun τ3 G3 σ3 H3 q3 ab3 s3 => U.nx τ3 G3 σ3 H3 q3 ab3 (s01.trans s3), fun τ3 G3 σ3 H3 q3 ab3 s3 => ⟨τ3, G3, ab3, q3, s01.trans s3⟩⟩⟩
theorem qs_while {c : Expr} {body : List Stmt} {tc : DT} {tb : DS} (hp : PassesOwn (model X.prog X.w) X.A X.env X.xe) (hc : PT X c (upT X.w X.K tc)) (hb : PSs X body (upS X.w X.K tb)) : PS X (.While c body [] pos) (upS X.w X.K (dWhile tc tb)) :=
  (ps_while hp hc hb).imp fun D σ H h => while_imp h
end

/-! ### comprehensions -/
def wipeD (τ : Ts) : List Nat → Ts
  | [] => τ
  | v :: vs => (wipeD τ vs).set v none
theorem Abs.wipe {w : World} {K : PySem.W.Frag} {σ : L2.St} {H : Hp} {τ : Ts} {G : Gp} (A : Abs w K σ H τ G) : ∀ vs : List Nat, Abs w K (L2.wipe σ vs) H (wipeD τ vs) G
  | [] => A
  | v :: vs => by
    have B := A.wipe vs
    refine ⟨by unfold L2.wipe wipeD; rw [List.length_set, List.length_set, B.len], fun j y e => ?_, B.obj⟩
    unfold wipeD at e
    unfold L2.wipe
    by_cases hj : v = j
    · subst hj
      by_cases hl : v < (wipeD τ vs).length
      · rw [List.getElem?_set_self hl] at e; cases e
      · rw [List.getElem?_eq_none (by rw [List.length_set]; omega)] at e; cases e
    · rw [List.getElem?_set_ne hj] at e ⊢
      exact B.slot j y e
/-- a target that stores at the slots vs alone -/
def upGw (w : World) (K : PySem.W.Frag) (vs : List Nat) (t : DG) : TG := fun v σ H Q => ∃ x τ G Q0, RelA w K H x v ∧ Abs w K σ H τ G ∧ t x τ G Q0 ∧ ∀ τ' G' σ' H', Q0 τ' G' → Abs w K σ' H' τ' G' → Step H G H' G' → L2.wipe σ' vs = L2.wipe σ vs → Q σ' H'
theorem wipe_set {i : Nat} {o : Option V} : ∀ {σ : L2.St} {vs : List Nat}, i ∈ vs → L2.wipe (σ.set i o) vs = L2.wipe σ vs
  | σ, [], h => by simp at h
  | σ, v :: vs, h => by
    unfold L2.wipe
    by_cases hm : i ∈ vs
    · rw [wipe_set hm]
    · have e : i = v := by
        rcases List.mem_cons.mp h with e | e
        · exact e
        · exact absurd e hm
      subst e
      have : ∀ (σ : L2.St) (us : List Nat), i ∉ us → (L2.wipe (σ.set i o) us) = (L2.wipe σ us).set i o := by
        intro σ us hu
        induction us with
        | nil => rfl
        | cons u us ih =>
          simp only [List.mem_cons, not_or] at hu
          unfold L2.wipe
          rw [ih hu.2, List.set_comm _ _ (fun e => hu.1 e)]
      rw [this σ vs hm, List.set_set]
theorem wipe_wipe {σ : L2.St} : ∀ {us vs : List Nat}, (∀ v ∈ us, v ∈ vs) → L2.wipe (L2.wipe σ us) vs = L2.wipe σ vs
  | [], vs, _ => rfl
  | u :: us, vs, h => by
    show L2.wipe ((L2.wipe σ us).set u none) vs = _
    rw [wipe_set (h u List.mem_cons_self)]
    exact wipe_wipe fun v hv => h v (List.mem_cons_of_mem _ hv)
section
variable {X : Cx} {pos : Pos}
theorem qgw_name {i : Nat} {vs : List Nat} {x : Str} (hN : X.N.Nodup) (hm : i ∈ vs) (hi : X.N[i]? = some x := by rfl) (hx : Loc X.env.scope x := by first | exact Or.inl rfl | exact Or.inr rfl) (hf : X.fn x = true ∨ X.env.scope.names.lookup x = some .local := by first | exact .inl rfl | exact .inr rfl | assumption) :
    PG X (.Name x pos) (upGw X.w X.K vs (gN i)) := (pg_name hN hi hx hf).imp fun v σ H Q ⟨x, τ, G, Q0, r, ab, q, hq⟩ => hq _ G _ H q (ab.set r i) .refl (wipe_set hm)

def lcG (g : DG) (tt : DT) (te : DE) (τ : Ts) (Q : List Va → Gp → Prop) : List Va → List Va → Gp → Prop
  | [], acc, G => Q acc G
  | x :: xs, acc, G => g x τ G fun τ1 G1 => tt τ1 G1 fun b G2 => if b = true then te τ1 G2 fun y G3 => lcG g tt te τ Q xs (acc ++ [y]) G3 else lcG g tt te τ Q xs acc G2
/-- what a comprehension gives, ahead of saying whether it may be changed -/
def dLc0 (src : DI) (g : DG) (tt : DT) (te : DE) (vs : List Nat) : DA := fun τ G Q => src τ G fun xs G1 => lcG g tt te (wipeD τ vs) Q xs [] G1
/-- a new list -/
def upL (w : World) (K : PySem.W.Frag) (t : DA) : TE := fun σ H Q => ∃ τ G Q0, Abs w K σ H τ G ∧ t τ G Q0 ∧ ∀ xs G' vs p H', Q0 xs G' → RelAs w K H' xs vs → H' p = some (.lst vs) → vs.length ≤ sizeLine → G' p = none → AbsG w K H' G' → (∀ a o, a ≠ p → H a = some o → G a = none → H' a = some o ∧ G' a = none) → Ext H H' → (G p = none → H p = none) → Q (.ref p) H'
theorem lc_imp {w : World} {K : PySem.W.Frag} {src : DI} {g : DG} {tt : DT} {te : DE} {vs : List Nat} {σ : L2.St} {H : Hp} {Q : VK} (h : upL w K (dLc0 src g tt te vs) σ H Q) : tLc (upI w K src) (upGw w K vs g) (upT w K tt) (upE w K te) vs σ H Q := by
  obtain ⟨τ, G, Q0, ab, q, hQ⟩ := h
  refine ⟨τ, G, _, ab, q, fun xs G1 J H1 q1 a1 s1 is D hD => ?_⟩
  obtain ⟨S, Y, wk, hS, hY⟩ := is.ex
  have gD : G1 D = none := a1.off hD
  refine lc_it wk (fun i H' => ∃ G' acc av, AbsG w K H' G' ∧ G' D = none ∧ H' D = some (.lst av) ∧ RelAs w K H' acc av ∧ acc.length ≤ i ∧ lcG g tt te (wipeD τ vs) Q0 (xs.drop i) acc G' ∧ (∀ a o, a ≠ D → H a = some o → G a = none → H' a = some o ∧ G' a = none) ∧ Ext H H' ∧ Ext H1 H')
    ⟨G1, [], [], a1.new hD, gD, upd_same, .nil, Nat.zero_le _, by simpa using q1, ?_, ?_, (Step.new (G := G1) hD).ext⟩ (fun i H' _ ⟨_, _, _, _, _, _, _, _, _, _, _, e⟩ => hS H' e) ?_ ?_
  · intro a o ne ha ga
    obtain ⟨h1, g1⟩ := s1.keep a o ha ga
    exact ⟨by rw [upd_ne ne]; exact h1, g1⟩
  · exact s1.ext.trans (Step.new (G := G1) hD).ext
  · rintro i x H' H'' hi ⟨G', acc, av, ag, gd, hd, ra, hl, q', kp, e', e1'⟩ y
    obtain ⟨sm, it, hit, rx⟩ := hY i H' x H'' hi e1' y
    have hdr : xs.drop i = it :: xs.drop (i + 1) := by
      rw [List.drop_eq_getElem_cons hi]
      have : xs[i]? = some xs[i] := by simp [hi]
      rw [this] at hit; cases hit; rfl
    rw [hdr] at q'
    have sS : Step H' G' H'' G' := Same.step sm
    have hext : Ext H H'' := e'.trans sS.ext
    have aw : Abs w K (L2.wipe σ vs) H'' (wipeD τ vs) G' := (ab.wipe vs).step hext (ag.same sm)
    refine ⟨it, wipeD τ vs, G', _, rx, aw, q', fun τ2 G2 σ2 H2 q2 ab2 s2 ew => ⟨ew.trans (wipe_wipe fun _ h => h), ?_⟩⟩
    refine ⟨τ2, G2, _, ab2, q2, fun b G3 H3 q3 a3 s3 => ?_⟩
    have s13 : Step H' G' H3 G3 := (sS.trans s2).trans s3
    have kp3 : ∀ a o, a ≠ D → H a = some o → G a = none → H3 a = some o ∧ G3 a = none := fun a o ne ha ga => let ⟨h1, g1⟩ := kp a o ne ha ga; s13.keep a o h1 g1
    obtain ⟨hd3, gd3⟩ := s13.keep D _ hd gd
    cases b with
    | false =>
      rw [if_neg Bool.false_ne_true] at q3
      dsimp only
      rw [if_neg Bool.false_ne_true]
      exact ⟨G3, acc, av, a3, gd3, hd3, ra.ext s13.ext, Nat.le_succ_of_le hl, q3, kp3, e'.trans s13.ext, e1'.trans s13.ext⟩
    | true =>
      rw [if_pos rfl] at q3
      dsimp only
      rw [if_pos rfl]
      refine ⟨τ2, G3, _, ab2.step s3.ext a3, q3, fun y4 G4 v4 H4 q4 r4 a4 s4 => ?_⟩
      have s14 : Step H' G' H4 G4 := s13.trans s4
      obtain ⟨hd4, gd4⟩ := s14.keep D _ hd gd
      have hal : av.length = acc.length := (Paired.len ra).symm
      refine ⟨av, hd4, by rw [hal]; exact Nat.lt_of_le_of_lt hl (Nat.lt_of_lt_of_le hi is.len), G4, acc ++ [y4], av ++ [v4], ?_, gd4, upd_same, ?_, by rw [List.length_append, List.length_singleton]; omega, q4, ?_, ?_, ?_⟩
      · intro a m ga
        have ne : a ≠ D := fun e => by rw [e, gd4] at ga; cases ga
        refine (a4 a m ga).keep ⟨fun b xs hb => ?_, fun b o u hb => ?_⟩ (upd_ne ne)
        · rw [upd_ne (fun e => by rw [e, hd4] at hb; cases hb)]; exact hb
        · rw [upd_ne (fun e => by rw [e, hd4] at hb; cases hb)]; exact hb
      · have ex4 : Ext H4 (upd H4 D (.lst (av ++ [v4]))) := ⟨fun b xs hb => by rw [upd_ne (fun e => by rw [e, hd4] at hb; cases hb)]; exact hb, fun b o u hb => by rw [upd_ne (fun e => by rw [e, hd4] at hb; cases hb)]; exact hb⟩
        have ap : ∀ {xs : List Va} {us : List V} {H : Hp}, RelAs w K H xs us → ∀ {y : Va} {v : V}, RelA w K H y v → RelAs w K H (xs ++ [y]) (us ++ [v]) := by
          intro xs us H r
          induction r with
          | nil => intro y v r; exact .cons r .nil
          | cons h t ih => intro y v r; exact .cons h (ih r)
        exact ap ((ra.ext s14.ext).ext ex4) (r4.ext ex4)
      · intro a o ne ha ga
        rw [upd_ne ne]
        exact let ⟨h1, g1⟩ := kp a o ne ha ga; s14.keep a o h1 g1
      · exact (e'.trans s14.ext).trans ⟨fun b xs hb => by rw [upd_ne (fun e => by rw [e, hd4] at hb; cases hb)]; exact hb, fun b o u hb => by rw [upd_ne (fun e => by rw [e, hd4] at hb; cases hb)]; exact hb⟩
      · exact (e1'.trans s14.ext).trans ⟨fun b xs hb => by rw [upd_ne (fun e => by rw [e, hd4] at hb; cases hb)]; exact hb, fun b o u hb => by rw [upd_ne (fun e => by rw [e, hd4] at hb; cases hb)]; exact hb⟩
  · rintro H' ⟨G', acc, av, ag, gd, hd, ra, hl, q', kp, e', e1'⟩
    rw [List.drop_length] at q'
    refine hQ acc G' av D H' q' ra hd ?_ gd ag kp e' fun gp => ?_
    · rw [← Paired.len ra]; exact Nat.le_trans hl is.len
    · cases e : H D with
      | none => rfl
      | some o =>
        have := (s1.keep D o e gp).1
        rw [hD] at this; cases this
end
end DL

/-! DLd: values read as data; new lists; operators; subscripts; calls of built-ins. -/
namespace DL
open PySem PySem.Spec PyProof.Rows L2

/-! ### values as data of the heap -/
/-- v is the data d as it stands now -/
inductive Now (w : World) (K : PySem.W.Frag) (H : Hp) : PyData → V → Prop
  | rel {d : PyData} {v : V} : Rel w K H d v → Now w K H d v
  | lst {a : Addr} {vs : List V} {ds : List PyData} : Rd H a (.lst vs) → RelAll w K H ds vs → Now w K H (.list ds) (.ref a)
  | dct {a : Addr} {o : Obj} {es : List DictEntry} {kvs : List (PyData × PyData)} : H a = some (.ext (exactly a o)) → DObj o es → a ≠ sysModules → es.length ≤ sizeLine → (kvs.map fun p => nkey p.1).Nodup → RelKV w K H kvs es → Now w K H (.dict kvs) (.ref a)
theorem see_now {w : World} {K : PySem.W.Frag} {H : Hp} {G : Gp} (A : AbsG w K H G) {x : Va} {v : V} {d : PyData} (r : RelA w K H x v) (h : see G x = some d) : Now w K H d v := by
  cases x with
  | dat e => cases h; exact .rel r
  | ref a =>
    have r' : v = .ref a := r
    subst r'
    cases e : G a with
    | none => simp [see, e] at h
    | some o =>
      have ok := A a o e
      cases o with
      | lst xs =>
        cases q : seeL xs with
        | none => simp [see, e, q] at h
        | some ds =>
          simp [see, e, q] at h
          subst h
          obtain ⟨vs, hv, rv⟩ := ok
          rw [seeL_some q] at rv
          exact .lst (.inl hv) rv.dats
      | dct kvs =>
        cases q : seeKV kvs with
        | none => simp [see, e, q] at h
        | some ds =>
          simp [see, e, q] at h
          subst h
          obtain ⟨ob, es, h1, h2, h3, h4, h5, h6⟩ := ok
          rw [seeKV_some q] at h5 h6
          refine .dct h1 h2 h3 h4 ?_ (RelKV.of_ents h6)
          simpa [List.map_map, Function.comp_def] using h5
      | ins C fs => simp [see, e] at h

section
variable {X : Cx} {pins : List (Addr × Obj)} {σ : L2.St} {H : Hp} {s : Shared}
mutual
theorem reads (I : Inv X pins σ H s) : ∀ {d : PyData} {v : V} {u : Value}, Rel X.w X.K H d v → RelV v u → ∃ as, Reads s.heap u d as
  | _, _, _, .non, r => by cases r; exact ⟨_, .none⟩
  | _, _, _, .bl b, r => by cases r; exact ⟨_, .bool b⟩
  | _, _, _, .int i, r => by obtain ⟨t, rfl⟩ := r; exact ⟨_, .int i t⟩
  | _, _, _, .str x, r => by obtain ⟨t, rfl⟩ := r; exact ⟨_, .str x t⟩
  | _, _, _, .tup hs ha, r => by
    cases r
    obtain ⟨its, rv, ⟨o, ho, hc, n, hd⟩, _⟩ := I.tuple hs.sq
    obtain ⟨as, hr⟩ := readsAll I ha rv
    exact ⟨_, .tuple ho hc hd hr⟩
  | _, _, _, .lst hs ha, r => by
    cases r
    obtain ⟨z, its, n, rv, ho⟩ := (I.hok _ _ hs).2
    obtain ⟨as, hr⟩ := readsAll I ha rv
    exact ⟨_, .list ho rfl rfl hr⟩
  | _, _, _, .dct hs ho _ _ _ ha, r => by
    cases r
    obtain ⟨ar, ep, hx, hd, he⟩ := ho
    obtain ⟨as, bs, h1, h2⟩ := readsKV I ha
    rw [← he] at h1 h2
    exact ⟨_, .dict (I.hok _ _ hs).1 hx.1 hd h1 h2⟩
theorem readsAll (I : Inv X pins σ H s) : ∀ {ds : List PyData} {vs : List V} {us : List Value}, RelAll X.w X.K H ds vs → Vals vs us → ∃ as, ReadsAll s.heap us ds as
  | _, _, _, .nil, .nil => ⟨_, .nil⟩
  | _, _, _, .cons h1 h2, .cons r1 r2 => by
    obtain ⟨as, q1⟩ := reads I h1 r1
    obtain ⟨bs, q2⟩ := readsAll I h2 r2
    exact ⟨_, .cons q1 q2⟩
theorem readsKV (I : Inv X pins σ H s) : ∀ {kvs : List (PyData × PyData)} {es : List DictEntry}, RelKV X.w X.K H kvs es → ∃ as bs, ReadsAll s.heap (es.map (·.key)) (kvs.map (·.1)) as ∧ ReadsAll s.heap (es.map (·.val)) (kvs.map (·.2)) bs
  | _, _, .nil => ⟨_, _, .nil, .nil⟩
  | _, _, .cons h1 r1 _ _ h2 r2 t => by
    obtain ⟨as, q1⟩ := reads I h1 r1
    obtain ⟨bs, q2⟩ := reads I h2 r2
    obtain ⟨as', bs', q3, q4⟩ := readsKV I t
    exact ⟨_, _, .cons q1 q3, .cons q2 q4⟩
end
theorem now_reads (I : Inv X pins σ H s) {d : PyData} {v : V} {u : Value} (h : Now X.w X.K H d v) (r : RelV v u) : ∃ as, Reads s.heap u d as := by
  cases h with
  | rel h => exact reads I h r
  | lst hs ha =>
    cases r
    obtain ⟨z, its, n, rv, ho⟩ := hs.ok I.hok
    obtain ⟨as, hr⟩ := readsAll I ha rv
    exact ⟨_, .list ho rfl rfl hr⟩
  | dct hs ho _ _ _ ha =>
    cases r
    obtain ⟨ar, ep, hx, hd, he⟩ := ho
    obtain ⟨as, bs, h1, h2⟩ := readsKV I ha
    rw [← he] at h1 h2
    exact ⟨_, .dict (I.hok _ _ hs).1 hx.1 hd h1 h2⟩
theorem now_int {w : World} {K : PySem.W.Frag} {i : Int} {v : V} (h : Now w K H (.int i) v) : v = .int i := by
  cases h with | rel h => cases h; rfl
theorem now_str {w : World} {K : PySem.W.Frag} {i : Str} {v : V} (h : Now w K H (.str i) v) : v = .str i := by
  cases h with | rel h => cases h; rfl
theorem now_bool {w : World} {K : PySem.W.Frag} {i : Bool} {v : V} (h : Now w K H (.bool i) v) : v = .bl i := by
  cases h with | rel h => cases h; rfl
theorem now_list {w : World} {K : PySem.W.Frag} {ds : List PyData} {v : V} (h : Now w K H (.list ds) v) : ∃ a vs, v = .ref a ∧ Rd H a (.lst vs) ∧ RelAll w K H ds vs := by
  cases h with
  | rel h => cases h with | lst h1 h2 => exact ⟨_, _, rfl, .inr ⟨_, h1⟩, h2⟩
  | lst h1 h2 => exact ⟨_, _, rfl, h1, h2⟩
theorem now_tup {w : World} {K : PySem.W.Frag} {ds : List PyData} {v : V} (h : Now w K H (.tuple ds) v) : ∃ a vs, v = .ref a ∧ SqT K H a vs ∧ RelAll w K H ds vs := by
  cases h with
  | rel h => cases h with | tup h1 h2 => exact ⟨_, _, rfl, h1.sq, h2⟩
theorem now_tupN {w : World} {K : PySem.W.Frag} {ds : List PyData} {v : V} (h : Now w K H (.tuple ds) v) : ∃ a vs, v = .ref a ∧ TupN K H a vs ∧ RelAll w K H ds vs := by
  cases h with
  | rel h => cases h with | tup h1 h2 => exact ⟨_, _, rfl, h1, h2⟩
/-- a tuple just laid -/
theorem laidT (I : Inv X pins σ H s) {vs : List V} {us : List Value} {tk : Nat} (r : Vals vs us) (hz : vs.length ≤ sizeLine) :
    Inv X pins σ (upd H s.heap.objs.size (.frz { cls := .type "tuple", data := .seq us.toArray } (.tup vs))) { s with heap := s.heap.push { cls := .type "tuple", data := .seq us.toArray }, toks := tk } ∧ H s.heap.objs.size = none ∧ TupN X.K (upd H s.heap.objs.size (.frz { cls := .type "tuple", data := .seq us.toArray } (.tup vs))) s.heap.objs.size vs := by
  refine ⟨I.laid (fun b o e => Heap.get?_push_of_some _ e) (Nat.le_refl _) ?_, I.hok.fresh (Nat.le_refl _), .inl ⟨_, upd_same, rfl⟩⟩
  exact ⟨Heap.get?_push_size _ rfl, hz, us, r, IsTup.new _ _⟩

/-- a tracked list is never changed any more -/
theorem freeze (I : Inv X pins σ H s) {p : Addr} {vs : List V} (h : H p = some (.lst vs)) : ∃ o, Inv X pins σ (upd H p (.frz o (.lst vs))) s := by
  obtain ⟨z, its, n, rv, ho⟩ := (show ObjOk X.prog X.w H s.heap p (.lst vs) from I.hok p _ h)
  refine ⟨{ cls := .type "list", data := .seq its.toArray n }, I.write (h' := s.heap) (t' := s.toks) (x := p) (e := p) (by rw [h]; exact True.intro) (.inl rfl) (fun _ _ _ e => e) ⟨_, ho⟩ (o := .frz { cls := .type "list", data := .seq its.toArray n } (.lst vs)) ?_⟩
  exact ⟨ho, z, its, n, rv, ho⟩
end

/-! ### new lists -/
section
variable {X : Cx} {e : Expr} {t : DA}
/-- a new list that nobody changes -/
def dPure (t : DA) : DE := fun τ G Q => t τ G fun xs G1 => ∃ ds, seeL xs = some ds ∧ Q (.dat (.list ds)) G1
/-- a new list that may be changed -/
def dMut (t : DA) : DE := fun τ G Q => t τ G fun xs G1 => ∀ p, G1 p = none → Q (.ref p) (gup G1 p (.lst xs))
theorem q_pure (h : PE X e (upL X.w X.K t)) : PE X e (upE X.w X.K (dPure t)) := by
  refine ⟨fun pins s σ H Q I hw => ?_⟩
  obtain ⟨τ, G, Q0, ab, q, hQ⟩ := hw
  refine thn (h.run pins s σ H (fun v H' => ∃ xs G' vs p, v = .ref p ∧ (∃ ds, seeL xs = some ds ∧ Q0 (.dat (.list ds)) G') ∧ RelAs X.w X.K H' xs vs ∧ H' p = some (.lst vs) ∧ G' p = none ∧ AbsG X.w X.K H' G' ∧ (∀ a o, a ≠ p → H a = some o → G a = none → H' a = some o ∧ G' a = none) ∧ Ext H H' ∧ (G p = none → H p = none)) I
    ⟨τ, G, _, ab, q, fun xs G' vs p H' q1 r1 hp _ gp a1 kp ex fr => ⟨xs, G', vs, p, rfl, q1, r1, hp, gp, a1, kp, ex, fr⟩⟩) fun u s' ⟨v, H', I', rv, xs, G', vs, p, ev, ⟨ds, e1, q1⟩, ra, hp, gp, ag, kp, ex, fr⟩ => ?_
  subst ev
  obtain ⟨o, I2⟩ := freeze I' hp
  have exF : Ext H' (upd H' p (.frz o (.lst vs))) := ⟨fun b xs hb => by rw [upd_ne (fun e => by rw [e, hp] at hb; cases hb)]; exact hb, fun b o u hb => by rw [upd_ne (fun e => by rw [e, hp] at hb; cases hb)]; exact hb⟩
  refine ⟨.ref p, _, I2, rv, hQ (.dat (.list ds)) G' (.ref p) _ q1 (Rel.lst upd_same ?_) (fun a m ga => ?_) ⟨fun a ob ha ga => ?_, ex.trans exF⟩⟩
  · rw [seeL_some e1] at ra
    exact RelAll.ext exF ra.dats
  · have ne : a ≠ p := fun e => by rw [e, gp] at ga; cases ga
    exact (ag a m ga).keep exF (upd_ne ne)
  · have ne : a ≠ p := fun e => by
      subst e
      rw [fr ga] at ha; cases ha
    rw [upd_ne ne]
    exact kp a ob ne ha ga
theorem q_mut (h : PE X e (upL X.w X.K t)) : PE X e (upE X.w X.K (dMut t)) := h.imp fun σ H Q ⟨τ, G, Q0, ab, q, hQ⟩ => ⟨τ, G, _, ab, q, fun xs G' vs p H' q1 r1 hp _ gp a1 kp ex fr => by
  refine hQ (.ref p) (gup G' p (.lst xs)) (.ref p) H' (q1 p gp) rfl (fun a m ga => ?_) ⟨fun a o ha ga => ?_, ex⟩
  · by_cases e : a = p
    · subst e
      rw [gup_same] at ga; cases ga
      exact ⟨vs, hp, r1⟩
    · rw [gup_ne e] at ga
      exact a1 a m ga
  · have ne : a ≠ p := fun e => by
      subst e
      rw [fr ga] at ha; cases ha
    rw [gup_ne ne]
    exact kp a o ne ha ga⟩
/-- [a, b, ..] -/
def dDisp (t : DA) : DA := fun τ G Q => t τ G fun xs G1 => xs.length ≤ sizeLine ∧ Q xs G1
theorem ql_disp {es : List Expr} {pos : Pos} (h : PA X es (upA X.w X.K t)) : PE X (.List es pos) (upL X.w X.K (dDisp t)) := (pe_lst h).imp fun σ H Q ⟨τ, G, Q0, ab, q, hQ⟩ => ⟨τ, G, _, ab, q, fun xs G1 vs H1 ⟨z, q1⟩ r1 a1 s1 => by
  have hl := Paired.len r1
  refine ⟨by rw [← hl]; exact z, fun p hp => ?_⟩
  have exn := (Step.new (G := G1) (o := .lst vs) hp).ext
  refine hQ xs G1 vs p _ q1 (r1.ext exn) upd_same (by rw [← hl]; exact z) (a1.off hp) (a1.new hp) (fun a o ne ha ga => ?_) (s1.ext.trans exn) fun gp => ?_
  · rw [upd_ne ne]; exact s1.keep a o ha ga
  · cases e : H p with
    | none => rfl
    | some o => have := (s1.keep p o e gp).1; rw [hp] at this; cases this⟩
/-- (a, b, ..) -/
def dTup (t : DA) : DE := fun τ G Q => t τ G fun xs G1 => ∃ ds, seeL xs = some ds ∧ ds.length ≤ sizeLine ∧ Q (.dat (.tuple ds)) G1
theorem q_tup {es : List Expr} {pos : Pos} {x1} (h : PA X es (upA X.w X.K t)) : PE X (.Tuple es x1 pos) (upE X.w X.K (dTup t)) := by
  refine ⟨fun pins s σ H Q I hw => ?_⟩
  obtain ⟨τ, G, Q0, ab, q, hQ⟩ := hw
  refine wpAny_Tuple_spliced (thn (h.run pos pins s σ H (fun vs H' => ∃ xs G', RelAs X.w X.K H' xs vs ∧ AbsG X.w X.K H' G' ∧ Step H G H' G' ∧ ∃ ds, seeL xs = some ds ∧ ds.length ≤ sizeLine ∧ Q0 (.dat (.tuple ds)) G') I ⟨τ, G, _, ab, q, fun xs G' vs H' q r a st => ⟨xs, G', r, a, st, q⟩⟩) fun us s1 ⟨vs, H1, I1, r1, xs, G1, ra, a1, s01, ds, e1, z, q1⟩ => ?_)
  rw [seeL_some e1] at ra
  have hl := RelAll.length ra.dats
  have hl2 := r1.length
  refine ⟨by omega, ?_⟩
  obtain ⟨I2, hn, ht⟩ := laidT (tk := s1.toks) I1 r1 (by omega)
  exact ⟨.ref _, _, I2, rfl, hQ (.dat (.tuple ds)) G1 (.ref _) _ q1 (Rel.tup ht (RelAll.ext (Step.new (G := G1) hn).ext ra.dats)) (a1.new hn) (s01.trans (Step.new hn))⟩
/-- a list comprehension -/
theorem ql_lc {elt tg iter : Expr} {ifs : List Expr} {scope : Scope} {own : List (Str × Nat)} {pos : Pos} {src : DI} {g : DG} {tt : DT} {te : DE} (hc : X.calm = true) (hN : X.N.Nodup) (hi : PI X tg iter (upI X.w X.K src)) (ok : BlkOk X.N X.env.scope scope own)
    (hg : ∀ (s : Shared) (H : Hp) (C : Addr) (cl : List (Str × Addr)) (fp : List Addr), PG (X.blk s H scope (compEnvC scope cl C X.env) fp) tg (upGw X.w X.K (own.map (·.2)) g)) (ht : ∀ (s : Shared) (H : Hp) (C : Addr) (cl : List (Str × Addr)) (fp : List Addr), PTs (X.blk s H scope (compEnvC scope cl C X.env) fp) ifs (upT X.w X.K tt))
    (he : ∀ (s : Shared) (H : Hp) (C : Addr) (cl : List (Str × Addr)) (fp : List Addr), PE (X.blk s H scope (compEnvC scope cl C X.env) fp) elt (upE X.w X.K te)) (hs : ∀ x, foldedSetIterable iter X.env x = pure x := by intro _; rfl) :
    PE X (.ListComp elt [⟨tg, iter, ifs, 0⟩] scope pos) (upL X.w X.K (dLc0 src g tt te (own.map (·.2)))) := (pe_lc hc hN hi ok hg ht he hs).imp fun σ H Q h => lc_imp h
def dYes : DT := fun _ G Q => Q true G
theorem qts_nil : PTs X [] (upT X.w X.K dYes) := ⟨fun pins s σ H Q I ⟨τ, G, Q0, ab, q, hQ⟩ => pts_nil.run pins s σ H Q I (hQ true G H q ab.obj .refl)⟩
theorem qts_one {c : Expr} {t : DT} (h : PT X c (upT X.w X.K t)) : PTs X [c] (upT X.w X.K t) := pts_one h
/-- name = [..] on one line -/
def dLcSetP (i : Nat) (t : DA) : DS := fun D τ G => t τ G fun xs G1 => ∃ ds, seeL xs = some ds ∧ D.nx (τ.set i (some (.dat (.list ds)))) G1
end

/-! ### operators by values -/
/-- f of two values that read as data -/
def O2 (X : Cx) (f : Value → Value → Sem Value) (o : PyData → PyData → Option PyData) : Prop :=
  ∀ (pins : List (Addr × Obj)) (s : Shared) (σ : L2.St) (H : Hp) (d e z : PyData) (x y : V) (u1 u2 : Value) (Q : Value → Shared → Prop), Inv X pins σ H s → Now X.w X.K H d x → RelV x u1 → Now X.w X.K H e y → RelV y u2 → o d e = some z →
    (∀ (v : V) (u : Value) (H' : Hp) (s' : Shared), Inv X pins σ H' s' → RelV v u → Rel X.w X.K H' z v → Same H H' → Q u s') → wpAny (model X.prog X.w) X.A (f u1 u2) Q X.xe s
def r2 (w : World) (K : PySem.W.Frag) (o : PyData → PyData → Option PyData) : R2 := fun x y H Q => ∃ xa ya G Q0 d e z, RelA w K H xa x ∧ RelA w K H ya y ∧ AbsG w K H G ∧ see G xa = some d ∧ see G ya = some e ∧ o d e = some z ∧ Q0 (.dat z) G ∧ upQ w K H G Q0 Q
theorem O2.op {X : Cx} {f : Value → Value → Sem Value} {o : PyData → PyData → Option PyData} (h : O2 X f o) : OpR X f (r2 X.w X.K o) := by
  intro pins s σ H x y u1 u2 Q I rx ry hw
  obtain ⟨xa, ya, G, Q0, d, e, z, r1, r2, ag, s1, s2, eo, q, hQ⟩ := hw
  exact h pins s σ H d e z x y u1 u2 _ I (see_now ag r1 s1) rx (see_now ag r2 s2) ry eo fun v u H' s' I' rv rz sm => ⟨v, H', I', rv, hQ (.dat z) G v H' q rz (ag.same sm) (Same.step sm)⟩
def dO2 (o : PyData → PyData → Option PyData) (ta tb : DE) : DE := fun τ G Q => ta τ G fun x G1 => tb τ G1 fun y G2 => ∃ d e z, see G2 x = some d ∧ see G2 y = some e ∧ o d e = some z ∧ Q (.dat z) G2
theorem o2_imp {w : World} {K : PySem.W.Frag} {o : PyData → PyData → Option PyData} {ta tb : DE} {σ : L2.St} {H : Hp} {Q : VK} (h : upE w K (dO2 o ta tb) σ H Q) : tOp (r2 w K o) (upE w K ta) (upE w K tb) σ H Q := by
  obtain ⟨τ, G, Q0, ab, q, hQ⟩ := h
  refine ⟨τ, G, _, ab, q, fun x G1 v1 H1 q1 r1 a1 s1 => ⟨τ, G1, _, ab.step s1.ext a1, q1, fun y G2 v2 H2 q2 r2 a2 s2 => ?_⟩⟩
  obtain ⟨d, e, z, e1, e2, eo, q3⟩ := q2
  exact ⟨x, y, G2, Q0, d, e, z, r1.ext s2.ext, r2, a2, e1, e2, eo, q3, hQ.step (s1.trans s2)⟩
section
variable {X : Cx} {a b c : Expr} {ta tb tc : DE} {pos : Pos} {o o' : PyData → PyData → Option PyData}
theorem q_bin {op : Operator} (ho : O2 X (binaryOp op) o) (ha : PE X a (upE X.w X.K ta)) (hb : PE X b (upE X.w X.K tb)) : PE X (.BinOp a op b pos) (upE X.w X.K (dO2 o ta tb)) := (pe_op ho.op ha hb).imp fun σ H Q h => o2_imp h
theorem q_cmp {op : CmpOp} (ho : O2 X (compareOp op) o) (ha : PE X a (upE X.w X.K ta)) (hb : PE X b (upE X.w X.K tb)) (hm : behindInMarks op b = false) : PE X (.Compare a [op] [b] pos) (upE X.w X.K (dO2 o ta tb)) := (pe_cmpR ho.op ha hb hm).imp fun σ H Q h => o2_imp h
theorem qt_cmp {op : CmpOp} (ho : O2 X (compareOp op) o) (ha : PE X a (upE X.w X.K ta)) (hb : PE X b (upE X.w X.K tb)) (hm : behindInMarks op b = false) : PT X (.Compare a [op] [b] pos) (upT X.w X.K (dB (dO2 o ta tb))) :=
  PT.imp (pt_cmpR ho.op ha hb hm) fun σ H Q h => by
    obtain ⟨τ, G, Q0, ab, q, hQ⟩ := h
    refine o2_imp (o := o) ⟨τ, G, _, ab, q, fun x G1 v1 H1 q1 r1 a1 s1 => ?_⟩
    obtain ⟨k, rfl, q2⟩ := q1
    have r1' : Rel X.w X.K H1 (.bool k) v1 := r1
    cases r1'
    exact ⟨k, rfl, hQ k G1 H1 q2 a1 s1⟩
def dChn (o o' : PyData → PyData → Option PyData) (ta tb tc : DE) : DE := fun τ G Q => ta τ G fun x G1 => tb τ G1 fun y G2 => ∃ d e k, see G2 x = some d ∧ see G2 y = some e ∧ o d e = some (.bool k) ∧
  if k = true then tc τ G2 fun z G3 => ∃ e' f r, see G3 y = some e' ∧ see G3 z = some f ∧ o' e' f = some r ∧ Q (.dat r) G3 else Q (.dat (.bool false)) G2
theorem chn_imp {w : World} {K : PySem.W.Frag} {σ : L2.St} {H : Hp} {Q : VK} (h : upE w K (dChn o o' ta tb tc) σ H Q) : tChain (r2 w K o) (r2 w K o') (upE w K ta) (upE w K tb) (upE w K tc) σ H Q := by
  obtain ⟨τ, G, Q0, ab, q, hQ⟩ := h
  refine ⟨τ, G, _, ab, q, fun x G1 v1 H1 q1 r1 a1 s1 => ⟨τ, G1, _, ab.step s1.ext a1, q1, fun y G2 v2 H2 q2 r2 a2 s2 => ?_⟩⟩
  obtain ⟨d, e, k, e1, e2, eo, q3⟩ := q2
  have s12 := s1.trans s2
  refine ⟨x, y, G2, fun z G3 => z = .dat (.bool k) ∧ G3 = G2, d, e, .bool k, r1.ext s2.ext, r2, a2, e1, e2, eo, ⟨rfl, rfl⟩, fun z G3 v3 H3 q4 r3 a3 s3 => ?_⟩
  obtain ⟨rfl, rfl⟩ := q4
  have r3' : Rel w K H3 (.bool k) v3 := r3
  cases r3'
  refine ⟨k, rfl, ?_⟩
  have s13 := s12.trans s3
  cases k with
  | false => rw [if_neg Bool.false_ne_true] at q3 ⊢; exact hQ (.dat (.bool false)) G3 (.bl false) H3 q3 (Rel.bl false) a3 s13
  | true =>
    rw [if_pos rfl] at q3 ⊢
    refine ⟨τ, G3, _, ab.step s13.ext a3, q3, fun z G4 v4 H4 q5 r4 a4 s4 => ?_⟩
    obtain ⟨e', f, r, h1, h2, h3, q6⟩ := q5
    exact ⟨y, z, G4, Q0, e', f, r, (r2.ext s3.ext).ext s4.ext, r4, a4, h1, h2, h3, q6, hQ.step (s13.trans s4)⟩
theorem q_chain {op op' : CmpOp} (ho : O2 X (compareOp op) o) (ho' : O2 X (compareOp op') o') (ha : PE X a (upE X.w X.K ta)) (hb : PE X b (upE X.w X.K tb)) (hc : PE X c (upE X.w X.K tc)) (hm : lastMarks [op, op'] [b, c] = false := by with_unfolding_all rfl) :
    PE X (.Compare a [op, op'] [b, c] pos) (upE X.w X.K (dChn o o' ta tb tc)) := (pe_chain ho.op ho'.op ha hb hc hm).imp fun σ H Q h => chn_imp h
theorem qt_chain {op op' : CmpOp} (ho : O2 X (compareOp op) o) (ho' : O2 X (compareOp op') o') (ha : PE X a (upE X.w X.K ta)) (hb : PE X b (upE X.w X.K tb)) (hc : PE X c (upE X.w X.K tc)) (hm : lastMarks [op, op'] [b, c] = false := by with_unfolding_all rfl) :
    PT X (.Compare a [op, op'] [b, c] pos) (upT X.w X.K (dB (dChn o o' ta tb tc))) := PT.imp (pt_chain ho.op ho'.op ha hb hc hm) fun σ H Q h => by
    obtain ⟨τ, G, Q0, ab, q, hQ⟩ := h
    refine chn_imp ⟨τ, G, _, ab, q, fun x G1 v1 H1 q1 r1 a1 s1 => ?_⟩
    obtain ⟨k, rfl, q2⟩ := q1
    have r1' : Rel X.w X.K H1 (.bool k) v1 := r1
    cases r1'
    exact ⟨k, rfl, hQ k G1 H1 q2 a1 s1⟩
end
end DL

/-! DLe: the operators. -/
namespace DL
open PySem PySem.Spec PyProof.Rows L2

/-- data without dicts, not too deep -/
def fine (d : PyData) : Bool := d.plain && decide (d.depth ≤ 60)
def fineAll (xs : List PyData) : Bool := PyData.plainAll xs && decide (PyData.depthAll xs ≤ 60)

def addF : PyData → PyData → Option PyData
  | .int i, .int j => some (.int (i + j))
  | .str a, .str b => if a.length + b.length ≤ sizeLine then some (.str (a ++ b)) else none
  | .tuple a, .tuple b => if a.length + b.length ≤ sizeLine then some (.tuple (a ++ b)) else none
  | .list a, .list b => if a.length + b.length ≤ sizeLine then some (.list (a ++ b)) else none
  | _, _ => none
def subF : PyData → PyData → Option PyData
  | .int i, .int j => some (.int (i - j))
  | _, _ => none
def small (i : Int) : Bool := decide (-(2 ^ 64) < i ∧ i < 2 ^ 64)
def mulF : PyData → PyData → Option PyData
  | .int i, .int j => if small i || small j then some (.int (i * j)) else none
  | .tuple a, .int k => if -(2 ^ 62) ≤ k ∧ k < 2 ^ 62 ∧ a.length * k.toNat ≤ sizeLine then some (.tuple (List.replicate k.toNat a).flatten) else none
  | .list a, .int k => if -(2 ^ 62) ≤ k ∧ k < 2 ^ 62 ∧ a.length * k.toNat ≤ sizeLine then some (.list (List.replicate k.toNat a).flatten) else none
  | _, _ => none
def fdivF : PyData → PyData → Option PyData
  | .int i, .int j => if 0 < j ∧ j < 1073741824 then some (.int (i / j)) else none
  | _, _ => none
def modF : PyData → PyData → Option PyData
  | .int i, .int j => if 0 < j then some (.int (i % j)) else none
  | _, _ => none
def powF : PyData → PyData → Option PyData
  | .int i, .int j => if 0 ≤ j ∧ j ≤ 1000000 ∧ i.natAbs < 2 ^ 64 then some (.int (i ^ j.toNat)) else none
  | _, _ => none
def eqF (d e : PyData) : Option PyData := if fine d && fine e then some (.bool (PyData.eqv d e)) else none
def neF (d e : PyData) : Option PyData := if fine d && fine e then some (.bool (!PyData.eqv d e)) else none
def ltF : PyData → PyData → Option PyData
  | .int i, .int j => some (.bool (decide (i < j)))
  | .tuple a, .tuple b => if W.alike (.tuple a) (.tuple b) && decide (PyData.depthAll a ≤ 60) then some (.bool (W.dataLt (.tuple a) (.tuple b))) else none
  | _, _ => none
def leF : PyData → PyData → Option PyData
  | .int i, .int j => some (.bool (decide (i ≤ j)))
  | _, _ => none
def gtF : PyData → PyData → Option PyData
  | .int i, .int j => some (.bool (decide (j < i)))
  | _, _ => none
def geF : PyData → PyData → Option PyData
  | .int i, .int j => some (.bool (decide (j ≤ i)))
  | _, _ => none
def isNF : PyData → PyData → Option PyData
  | .none, .none => some (.bool true)
  | _, .none => some (.bool false)
  | _, _ => none
def notNF : PyData → PyData → Option PyData
  | .none, .none => some (.bool false)
  | _, .none => some (.bool true)
  | _, _ => none

section
variable {X : Cx} {f : Value → Value → Sem Value}
theorem Same.new {H : Hp} {p : Addr} {o : HO} (hp : H p = none) : Same H (upd H p o) := fun b u e => by rw [upd_ne (ne_of_none e hp)]; exact e
/-- from a rule of the layer -/
theorem use {r : R2} (ho : OpR X f r) {pins : List (Addr × Obj)} {s : Shared} {σ : L2.St} {H : Hp} {x y : V} {u1 u2 : Value} {z : PyData} {Q : Value → Shared → Prop} (I : Inv X pins σ H s) (rx : RelV x u1) (ry : RelV y u2)
    (h : r x y H fun v H' => Rel X.w X.K H' z v ∧ Same H H') (k : ∀ (v : V) (u : Value) (H' : Hp) (s' : Shared), Inv X pins σ H' s' → RelV v u → Rel X.w X.K H' z v → Same H H' → Q u s') : wpAny (model X.prog X.w) X.A (f u1 u2) Q X.xe s :=
  thn (ho pins s σ H x y u1 u2 _ I rx ry h) fun u s' ⟨v, H', I', rv, rz, sm⟩ => k v u H' s' I' rv rz sm
/-- a new frozen list -/
theorem newF {pins : List (Addr × Obj)} {s : Shared} {σ : L2.St} {H : Hp} {vs : List V} {us : List Value} {tk : Nat} (I : Inv X pins σ H s) (r : Vals vs us) (hz : vs.length ≤ sizeLine) :
    Inv X pins σ (upd H s.heap.objs.size (.frz { cls := .type "list", data := .seq us.toArray } (.lst vs))) { s with heap := s.heap.push { cls := .type "list", data := .seq us.toArray }, toks := tk } ∧ H s.heap.objs.size = none := by
  refine ⟨I.laid (fun b o e => Heap.get?_push_of_some _ e) (Nat.le_refl _) ?_, I.hok.fresh (Nat.le_refl _)⟩
  exact ⟨Heap.get?_push_size _ rfl, hz, us, 0, r, Heap.get?_push_size _ rfl⟩
theorem rd_lst {pins : List (Addr × Obj)} {s : Shared} {σ : L2.St} {H : Hp} {a : Addr} {vs : List V} (I : Inv X pins σ H s) (h : Rd H a (.lst vs)) : ∃ its n, Vals vs its ∧ s.heap.get? a = some { cls := .type "list", data := .seq its.toArray n } ∧ vs.length ≤ sizeLine := by
  obtain ⟨z, its, n, r, e⟩ := h.ok I.hok
  exact ⟨its, n, r, e, z⟩

/-- t + u -/
theorem cat_data {pins : List (Addr × Obj)} {s : Shared} {σ : L2.St} {H : Hp} {a b : Addr} {xs ys : List V} {E Q : Value → Shared → Prop} (I : Inv X pins σ H s) (ha : TupN X.K H a xs) (hb : TupN X.K H b ys) (hz : xs.length + ys.length ≤ sizeLine)
    (k : ∀ (p : Addr) (H' : Hp) (s' : Shared), Inv X pins σ H' s' → TupN X.K H' p (xs ++ ys) → Same H H' → Q (.ref p) s') : wpAny (model X.prog X.w) X.A (binaryOp .Add (.ref a) (.ref b)) Q E s := by
  obtain ⟨its, r1, p1, _⟩ := I.tuple ha.sq
  obtain ⟨jts, r2, p2, _⟩ := I.tuple hb.sq
  have l1 := r1.length
  have l2 := r2.length
  by_cases hx : its = []
  · subst hx
    cases r1
    exact cat_tup0 p1 p2 (k b H s I hb (Same.refl _))
  · refine HT.cat_tup p1 p2 hx (fun z => ?_) (fun z => ?_) (by omega)
    · subst z
      cases r2
      exact k a H s I (by rw [List.append_nil]; exact ha) (Same.refl _)
    · obtain ⟨I2, hn, ht⟩ := laidT (tk := s.toks) I (r1.append r2) (by rw [List.length_append]; exact hz)
      exact k _ _ _ I2 ht (Same.new hn)
theorem o_add : O2 X (binaryOp .Add) addF := by
  intro pins s σ H d e z x y u1 u2 Q I n1 r1 n2 r2 h k
  cases d <;> cases e <;> simp only [addF] at h <;> try (cases h; done)
  · cases h
    cases now_int n1
    cases now_int n2
    exact use op_add I r1 r2 ⟨_, _, rfl, rfl, Rel.int _, Same.refl _⟩ k
  · split at h
    · cases h
      rename_i hl
      cases now_str n1
      cases now_str n2
      exact use op_add_str I r1 r2 ⟨_, _, rfl, rfl, hl, Rel.str _, Same.refl _⟩ k
    · cases h
  · split at h
    · cases h
      rename_i hl
      obtain ⟨a, vs, rfl, ha, hv⟩ := now_list n1
      obtain ⟨b, ws, rfl, hb, hw⟩ := now_list n2
      cases r1
      cases r2
      obtain ⟨its, n, ri, ei, zi⟩ := rd_lst I ha
      obtain ⟨jts, m, rj, ej, zj⟩ := rd_lst I hb
      have l1 := RelAll.length hv
      have l2 := RelAll.length hw
      have l3 := ri.length
      have l4 := rj.length
      refine PySem.P.add_list ei ej ?_ (by rw [List.size_toArray, List.size_toArray]; omega)
      have ea : its.toArray ++ jts.toArray = (its ++ jts).toArray := by simp
      rw [ea]
      obtain ⟨I2, hn⟩ := newF (tk := s.toks) I (ri.append rj) (by rw [List.length_append]; omega)
      exact k (.ref _) _ _ _ I2 rfl (Rel.lst upd_same (RelAll.ext (Step.new (G := fun _ => none) hn).ext (hv.append hw))) (Same.new hn)
    · cases h
  · split at h
    · cases h
      rename_i hl
      obtain ⟨a, vs, rfl, ha, hv⟩ := now_tupN n1
      obtain ⟨b, ws, rfl, hb, hw⟩ := now_tupN n2
      have l1 := RelAll.length hv
      have l2 := RelAll.length hw
      cases r1
      cases r2
      exact cat_data I ha hb (by omega) fun p H' s' I' ht sm => k (.ref p) _ H' s' I' rfl (Rel.tup ht (RelAll.ext (Same.step (G := fun _ => none) sm).ext (hv.append hw))) sm
    · cases h
theorem o_sub : O2 X (binaryOp .Sub) subF := by
  intro pins s σ H d e z x y u1 u2 Q I n1 r1 n2 r2 h k
  cases d <;> cases e <;> simp only [subF] at h <;> try (cases h; done)
  cases h
  cases now_int n1
  cases now_int n2
  exact use op_sub I r1 r2 ⟨_, _, rfl, rfl, Rel.int _, Same.refl _⟩ k
theorem o_fdiv : O2 X (binaryOp .FloorDiv) fdivF := by
  intro pins s σ H d e z x y u1 u2 Q I n1 r1 n2 r2 h k
  cases d <;> cases e <;> simp only [fdivF] at h <;> try (cases h; done)
  split at h
  · cases h
    rename_i hl
    cases now_int n1
    cases now_int n2
    exact use op_fdiv I r1 r2 ⟨_, _, rfl, rfl, hl, Rel.int _, Same.refl _⟩ k
  · cases h
theorem o_mod : O2 X (binaryOp .Mod) modF := by
  intro pins s σ H d e z x y u1 u2 Q I n1 r1 n2 r2 h k
  cases d <;> cases e <;> simp only [modF] at h <;> try (cases h; done)
  split at h
  · cases h
    rename_i hl
    cases now_int n1
    cases now_int n2
    exact use op_mod I r1 r2 ⟨_, _, rfl, rfl, hl, Rel.int _, Same.refl _⟩ k
  · cases h
theorem o_pow : O2 X (binaryOp .Pow) powF := by
  intro pins s σ H d e z x y u1 u2 Q I n1 r1 n2 r2 h k
  cases d <;> cases e <;> simp only [powF] at h <;> try (cases h; done)
  split at h
  · cases h
    rename_i hl
    cases now_int n1
    cases now_int n2
    exact use op_pow I r1 r2 ⟨_, _, rfl, rfl, hl, Rel.int _, Same.refl _⟩ k
  · cases h
theorem o_eq {k : Nat} (hr : Room k X.A) : O2 X (compareOp .Eq) eqF := by
  intro pins s σ H d e z x y u1 u2 Q I n1 r1 n2 r2 h k
  unfold eqF at h
  split at h
  · cases h
    rename_i hf
    simp only [fine, Bool.and_eq_true, decide_eq_true_eq] at hf
    obtain ⟨as, a1⟩ := now_reads I n1 r1
    obtain ⟨bs, b1⟩ := now_reads I n2 r2
    exact SeqAt.eq_plain a1 b1 hf.1.1 hf.2.1 (by have := hr.un; omega) (k (.bl _) _ H s I rfl (Rel.bl _) (Same.refl _))
  · cases h
theorem o_ne {k : Nat} (hr : Room k X.A) : O2 X (compareOp .NotEq) neF := by
  intro pins s σ H d e z x y u1 u2 Q I n1 r1 n2 r2 h k
  unfold neF at h
  split at h
  · cases h
    rename_i hf
    simp only [fine, Bool.and_eq_true, decide_eq_true_eq] at hf
    obtain ⟨as, a1⟩ := now_reads I n1 r1
    obtain ⟨bs, b1⟩ := now_reads I n2 r2
    exact SeqAt.ne_plain a1 b1 hf.1.1 hf.2.1 (by have := hr.un; omega) (k (.bl _) _ H s I rfl (Rel.bl _) (Same.refl _))
  · cases h
theorem o_lt {k : Nat} (hr : Room k X.A) : O2 X (compareOp .Lt) ltF := by
  intro pins s σ H d e z x y u1 u2 Q I n1 r1 n2 r2 h k
  cases d <;> cases e <;> simp only [ltF] at h <;> try (cases h; done)
  · cases h
    cases now_int n1
    cases now_int n2
    exact use op_lt I r1 r2 ⟨_, _, rfl, rfl, Rel.bl _, Same.refl _⟩ k
  · split at h
    · cases h
      rename_i hf
      simp only [Bool.and_eq_true, decide_eq_true_eq] at hf
      obtain ⟨as, a1⟩ := now_reads I n1 r1
      obtain ⟨bs, b1⟩ := now_reads I n2 r2
      exact PySem.W.lt_data a1 b1 hf.1 (by simp) (by have := hr.un; simp only [PyData.depth]; omega) (k (.bl _) _ H s I rfl (Rel.bl _) (Same.refl _))
    · cases h
theorem o_le : O2 X (compareOp .LtE) leF := by
  intro pins s σ H d e z x y u1 u2 Q I n1 r1 n2 r2 h k
  cases d <;> cases e <;> simp only [leF] at h <;> try (cases h; done)
  cases h
  cases now_int n1
  cases now_int n2
  exact use op_le I r1 r2 ⟨_, _, rfl, rfl, Rel.bl _, Same.refl _⟩ k
theorem o_gt : O2 X (compareOp .Gt) gtF := by
  intro pins s σ H d e z x y u1 u2 Q I n1 r1 n2 r2 h k
  cases d <;> cases e <;> simp only [gtF] at h <;> try (cases h; done)
  cases h
  cases now_int n1
  cases now_int n2
  exact use op_gt I r1 r2 ⟨_, _, rfl, rfl, Rel.bl _, Same.refl _⟩ k
theorem o_ge : O2 X (compareOp .GtE) geF := by
  intro pins s σ H d e z x y u1 u2 Q I n1 r1 n2 r2 h k
  cases d <;> cases e <;> simp only [geF] at h <;> try (cases h; done)
  cases h
  cases now_int n1
  cases now_int n2
  exact use op_ge I r1 r2 ⟨_, _, rfl, rfl, Rel.bl _, Same.refl _⟩ k
theorem now_non {d : PyData} {w : World} {K : PySem.W.Frag} {H : Hp} {v : V} (h : Now w K H d v) : (v = .non ↔ d = .none) := by
  cases h with
  | rel h => cases h <;> simp
  | lst => simp
  | dct => simp
theorem o_isN : O2 X (compareOp .Is) isNF := by
  intro pins s σ H d e z x y u1 u2 Q I n1 r1 n2 r2 h k
  have hy : e = .none := by cases d <;> cases e <;> first | rfl | (simp only [isNF] at h; cases h; done)
  subst hy
  have ey := (now_non n2).mpr rfl
  subst ey
  have hz : z = .bool (decide (x = .non)) := by
    by_cases q : d = .none
    · subst q
      rw [decide_eq_true ((now_non n1).mpr rfl)]
      simpa [isNF] using h.symm
    · rw [decide_eq_false (fun e => q ((now_non n1).mp e))]
      cases d <;> first | exact absurd rfl q | simpa [isNF] using h.symm
  subst hz
  exact use op_isN I r1 r2 ⟨rfl, Rel.bl _, Same.refl _⟩ k
theorem o_notN : O2 X (compareOp .IsNot) notNF := by
  intro pins s σ H d e z x y u1 u2 Q I n1 r1 n2 r2 h k
  have hy : e = .none := by cases d <;> cases e <;> first | rfl | (simp only [notNF] at h; cases h; done)
  subst hy
  have ey := (now_non n2).mpr rfl
  subst ey
  have hz : z = .bool (!decide (x = .non)) := by
    by_cases q : d = .none
    · subst q
      rw [decide_eq_true ((now_non n1).mpr rfl)]
      simpa [notNF] using h.symm
    · rw [decide_eq_false (fun e => q ((now_non n1).mp e))]
      cases d <;> first | exact absurd rfl q | simpa [notNF] using h.symm
  subst hz
  exact use op_notN I r1 r2 ⟨rfl, Rel.bl _, Same.refl _⟩ k
end
end DL

/-! DLf: subscripts, slices, calls of built-ins. -/
namespace DL
open PySem PySem.Spec PyProof.Rows L2

/-! ### x[i] -/
def ixF : PyData → PyData → Option PyData
  | .list xs, .int i => atI xs i
  | .tuple xs, .int i => atI xs i
  | .str z, .int i => if z.length ≤ sizeLine then (atI z.cps.toList i).map fun c => .str ⟨#[c]⟩ else none
  | _, _ => none
def ixVs (G : Gp) (x y : Va) : Option Va := match x, y with
  | .dat d, .dat e => (ixF d e).map .dat
  | .ref a, .dat (.int i) => match G a with
    | some (.lst xs) => atI xs i
    | _ => none
  | _, _ => none
def dIxs (ta tb : DE) : DE := fun τ G Q => ta τ G fun x G1 => tb τ G1 fun y G2 => ∃ z, ixVs G2 x y = some z ∧ Q z G2
def rIxD (w : World) (K : PySem.W.Frag) : R2 := fun x y H Q => ∃ xa ya G Q0 z, RelA w K H xa x ∧ RelA w K H ya y ∧ AbsG w K H G ∧ ixVs G xa ya = some z ∧ Q0 z G ∧ upQ w K H G Q0 Q
theorem atI_rel {w : World} {K : PySem.W.Frag} {H : Hp} {xs : List Va} {vs : List V} {i : Int} {z : Va} (r : RelAs w K H xs vs) (h : atI xs i = some z) : ∃ v, atI vs i = some v ∧ RelA w K H z v := by
  obtain ⟨j, h1, h2, h3, h4, h5⟩ := atI_get h
  have hl := Paired.len r
  have : ∀ {xs : List Va} {vs : List V} {j : Nat}, RelAs w K H xs vs → xs[j]? = some z → ∃ v, vs[j]? = some v ∧ RelA w K H z v := by
    intro xs vs j r
    induction r generalizing j with
    | nil => intro e; simp at e
    | cons h t ih =>
      intro e
      cases j with
      | zero => cases (Option.some.inj (by simpa using e) : _ = _); exact ⟨_, rfl, h⟩
      | succ j => obtain ⟨v, h1, h2⟩ := ih (j := j) (by simpa using e); exact ⟨v, by simpa using h1, h2⟩
  obtain ⟨v, e1, e2⟩ := this r h2
  refine ⟨v, ?_, e2⟩
  unfold atI at h ⊢
  rw [← hl]
  cases q : ixN xs.length i with
  | none => rw [q] at h; cases h
  | some k =>
    have hk := (ixN_seq q).1
    rw [h1] at hk
    cases hk
    exact e1
theorem dats_get {xs : List PyData} {i : Int} {z : PyData} (h : atI xs i = some z) : atI (xs.map Va.dat) i = some (.dat z) := by
  unfold atI at h ⊢
  rw [List.length_map]
  cases q : ixN xs.length i with
  | none => rw [q] at h; cases h
  | some k =>
    rw [q] at h
    have h' : xs[k]? = some z := h
    show (xs.map Va.dat)[k]? = some (.dat z)
    rw [List.getElem?_map, h']; rfl
theorem ix_data {X : Cx} : IxR X (rIxD X.w X.K) := by
  intro value slice pins s σ H x y v u Q I rx ry h hs
  obtain ⟨xa, ya, G, Q0, z, r1, r2, ag, e, q, hQ⟩ := h
  have fin : ∀ v', RelA X.w X.K H z v' → Q v' H := fun v' r => hQ z G v' H q r ag .refl
  unfold ixVs at e
  split at e
  · rename_i d e'
    cases q1 : ixF d e' with
    | none => rw [q1] at e; cases e
    | some z' =>
      rw [q1] at e
      cases e
      unfold ixF at q1
      split at q1
      · rename_i xs i
        obtain ⟨a, vs, rfl, ha, hv⟩ := now_list (.rel r1)
        cases now_int (.rel r2)
        obtain ⟨v', e1, e2⟩ := atI_rel hv.vas (dats_get q1)
        exact ix_list value slice pins s σ H _ _ v u Q I rx ry ⟨a, vs, i, v', rfl, rfl, .inl ha, e1, fin v' e2⟩ hs
      · rename_i xs i
        obtain ⟨a, vs, rfl, ha, hv⟩ := now_tup (.rel r1)
        cases now_int (.rel r2)
        obtain ⟨v', e1, e2⟩ := atI_rel hv.vas (dats_get q1)
        exact ix_tup value slice pins s σ H _ _ v u Q I rx ry ⟨a, vs, i, v', rfl, rfl, ha, e1, fin v' e2⟩ hs
      · rename_i zz i
        cases now_str (.rel r1)
        cases now_int (.rel r2)
        split at q1
        · rename_i hl
          cases q2 : atI zz.cps.toList i with
          | none => rw [q2] at q1; cases q1
          | some c =>
            rw [q2] at q1
            cases q1
            exact ix_str value slice pins s σ H _ _ v u Q I rx ry ⟨zz, i, c, rfl, rfl, hl, q2, fin _ (Rel.str _)⟩ hs
        · cases q1
      · cases q1
  · rename_i a i
    have er : x = .ref a := r1
    subst er
    cases now_int (.rel r2)
    cases q1 : G a with
    | none => rw [q1] at e; cases e
    | some o =>
      rw [q1] at e
      cases o with
      | lst xs =>
        obtain ⟨vs, hv, rv⟩ := ag a _ q1
        obtain ⟨v', e1, e2⟩ := atI_rel rv e
        exact ix_list value slice pins s σ H _ _ v u Q I rx ry ⟨a, vs, i, v', rfl, rfl, SqL.of hv, e1, fin v' e2⟩ hs
      | dct _ => cases e
      | ins _ _ => cases e
  · cases e
section
variable {X : Cx} {a b : Expr} {ta tb : DE} {pos : Pos}
theorem ix_imp {w : World} {K : PySem.W.Frag} {ta tb : DE} {σ : L2.St} {H : Hp} {Q : VK} (h : upE w K (dIxs ta tb) σ H Q) : tOp (rIxD w K) (upE w K ta) (upE w K tb) σ H Q := by
  obtain ⟨τ, G, Q0, ab, q, hQ⟩ := h
  refine ⟨τ, G, _, ab, q, fun x G1 v1 H1 q1 r1 a1 s1 => ⟨τ, G1, _, ab.step s1.ext a1, q1, fun y G2 v2 H2 q2 r2 a2 s2 => ?_⟩⟩
  obtain ⟨z, e1, q3⟩ := q2
  exact ⟨x, y, G2, Q0, z, r1.ext s2.ext, r2, a2, e1, q3, hQ.step (s1.trans s2)⟩
theorem q_ixs (ha : PE X a (upE X.w X.K ta)) (hb : PE X b (upE X.w X.K tb)) (hs : PlainIx b := by exact fun _ _ => rfl) : PE X (.Subscript a b pos) (upE X.w X.K (dIxs ta tb)) := (pe_ix ix_data ha hb hs).imp fun σ H Q h => ix_imp h

/-! ### x[lo:hi] -/
def cutD {α : Type} (xs : List α) (lo hi : Option Int) : List α := (xs.drop (HT.sIx xs.length 0 lo)).take (HT.sIx xs.length xs.length hi - HT.sIx xs.length 0 lo)
def slF : PyData → Option Int → Option Int → Option PyData
  | .tuple xs, lo, hi => some (.tuple (cutD xs lo hi))
  | .str z, lo, hi => if z.length ≤ sizeLine then some (.str ⟨(cutD z.cps.toList lo hi).toArray⟩) else none
  | _, _, _ => none
abbrev DO := Ts → Gp → (Option Int → Gp → Prop) → Prop
def upO (w : World) (K : PySem.W.Frag) (t : DO) : TO := fun σ H Q => ∃ τ G Q0, Abs w K σ H τ G ∧ t τ G Q0 ∧ ∀ o G' H', Q0 o G' → AbsG w K H' G' → Step H G H' G' → Q o H'
def dNoP : DO := fun _ G Q => Q none G
def dP (t : DE) : DO := fun τ G Q => t τ G fun x G1 => ∃ i, x = .dat (.int i) ∧ Q (some i) G1
theorem _root_.L2.PO.imp {X : Cx} {e : Option Expr} {t t' : TO} (h : PO X e t) (i : ∀ σ H Q, t' σ H Q → t σ H Q) : PO X e t' := ⟨fun pins s σ H Q I q => h.run pins s σ H Q I (i σ H Q q)⟩
theorem qo_none : PO X none (upO X.w X.K dNoP) := po_none.imp fun σ H Q ⟨τ, G, Q0, ab, q, hQ⟩ => hQ none G H q ab.obj .refl
theorem qo_some {t : DE} (h : PE X a (upE X.w X.K t)) : PO X (some a) (upO X.w X.K (dP t)) := (po_some h).imp fun σ H Q ⟨τ, G, Q0, ab, q, hQ⟩ => ⟨τ, G, _, ab, q, fun x G1 v H1 q1 r1 a1 s1 => by
  obtain ⟨i, rfl, q2⟩ := q1
  have r1' : Rel X.w X.K H1 (.int i) v := r1
  cases r1'
  exact ⟨i, rfl, hQ _ G1 H1 q2 a1 s1⟩⟩
def dSl (te : DE) (tl th : DO) : DE := fun τ G Q => te τ G fun x G1 => tl τ G1 fun l G2 => th τ G2 fun u G3 => ∃ d z, see G3 x = some d ∧ slF d l u = some z ∧ Q (.dat z) G3
/-- a list's part as a new list -/
def dSlL (te : DE) (tl th : DO) : DA := fun τ G Q => te τ G fun x G1 => tl τ G1 fun l G2 => th τ G2 fun u G3 => ∃ ds, see G3 x = some (.list ds) ∧ ds.length ≤ sizeLine ∧ Q ((cutD ds l u).map Va.dat) G3
end
end DL

/-! DLg: calls of built-ins. -/
namespace DL
open PySem PySem.Spec PyProof.Rows L2

/-! ### calls by values -/
def C1 (X : Cx) (f : Value) (o : PyData → PyData → Prop) : Prop :=
  ∀ (pins : List (Addr × Obj)) (s : Shared) (σ : L2.St) (H : Hp) (d z : PyData) (x : V) (u : Value) (Q : Value → Shared → Prop), Inv X pins σ H s → Now X.w X.K H d x → RelV x u → o d z →
    (∀ (v : V) (u' : Value) (H' : Hp) (s' : Shared), Inv X pins σ H' s' → RelV v u' → Rel X.w X.K H' z v → Same H H' → Q u' s') → wpAny (model X.prog X.w) X.A (call f [u]) Q X.xe s
def C2 (X : Cx) (f : Value) (o : PyData → PyData → PyData → Prop) : Prop :=
  ∀ (pins : List (Addr × Obj)) (s : Shared) (σ : L2.St) (H : Hp) (d e z : PyData) (x y : V) (u1 u2 : Value) (Q : Value → Shared → Prop), Inv X pins σ H s → Now X.w X.K H d x → RelV x u1 → Now X.w X.K H e y → RelV y u2 → o d e z →
    (∀ (v : V) (u' : Value) (H' : Hp) (s' : Shared), Inv X pins σ H' s' → RelV v u' → Rel X.w X.K H' z v → Same H H' → Q u' s') → wpAny (model X.prog X.w) X.A (call f [u1, u2]) Q X.xe s
/-- that make a new list -/
def L1 (X : Cx) (f : Value) (o : PyData → List PyData → Prop) : Prop :=
  ∀ (pins : List (Addr × Obj)) (s : Shared) (σ : L2.St) (H : Hp) (d : PyData) (zs : List PyData) (x : V) (u : Value) (Q : Value → Shared → Prop), Inv X pins σ H s → Now X.w X.K H d x → RelV x u → o d zs →
    (∀ (p : Addr) (vs : List V) (s' : Shared), H p = none → Inv X pins σ (upd H p (.lst vs)) s' → RelAll X.w X.K H zs vs → vs.length ≤ sizeLine → Q (.ref p) s') → wpAny (model X.prog X.w) X.A (call f [u]) Q X.xe s
def dC1 (o : PyData → PyData → Prop) (t : DE) : DE := fun τ G Q => t τ G fun x G1 => ∃ d z, see G1 x = some d ∧ o d z ∧ Q (.dat z) G1
def dC2 (o : PyData → PyData → PyData → Prop) (t u : DE) : DE := fun τ G Q => t τ G fun x G1 => u τ G1 fun y G2 => ∃ d e z, see G2 x = some d ∧ see G2 y = some e ∧ o d e z ∧ Q (.dat z) G2
def dL1 (o : PyData → List PyData → Prop) (t : DE) : DA := fun τ G Q => t τ G fun x G1 => ∃ d zs, see G1 x = some d ∧ o d zs ∧ Q (zs.map Va.dat) G1

section
variable {X : Cx} {e e2 : Expr} {t t2 : DE} {x : Str} {p pos : Pos} {id T : String}
theorem c1_r {f : Value} {o : PyData → PyData → Prop} (h : C1 X f o) : CallR X f fun xs H Q => ∃ xa v G Q0 d z, xs = [v] ∧ RelA X.w X.K H xa v ∧ AbsG X.w X.K H G ∧ see G xa = some d ∧ o d z ∧ Q0 (.dat z) G ∧ upQ X.w X.K H G Q0 Q := by
  intro pins s σ H xs us Q I r hw
  obtain ⟨xa, v, G, Q0, d, z, rfl, ra, ag, sd, od, q, hQ⟩ := hw
  obtain ⟨u, rfl, rx⟩ := vals1 r
  exact h pins s σ H d z v u _ I (see_now ag ra sd) rx od fun v' u' H' s' I' rv rz sm => ⟨v', H', I', rv, hQ (.dat z) G v' H' q rz (ag.same sm) (Same.step sm)⟩
theorem c1_imp {o : PyData → PyData → Prop} {σ : L2.St} {H : Hp} {Q : VK} (h : upE X.w X.K (dC1 o t) σ H Q) :
    tCB (fun xs H Q => ∃ xa v G Q0 d z, xs = [v] ∧ RelA X.w X.K H xa v ∧ AbsG X.w X.K H G ∧ see G xa = some d ∧ o d z ∧ Q0 (.dat z) G ∧ upQ X.w X.K H G Q0 Q) (tCons (upE X.w X.K t) tNil) σ H Q := by
  obtain ⟨τ, G, Q0, ab, q, hQ⟩ := h
  refine ⟨τ, G, _, ab, q, fun x G1 v H1 q1 r1 a1 s1 => ?_⟩
  obtain ⟨d, z, h1, h2, h3⟩ := q1
  exact ⟨x, v, G1, Q0, d, z, rfl, r1, a1, h1, h2, h3, hQ.step s1⟩
theorem q_c1B {o : PyData → PyData → Prop} (hc : C1 X (.builtin id) o) (hm : X.mg x = none) (hv : bootBuiltins x = some (.builtin id)) (ha : PE X e (upE X.w X.K t)) (hg : Gl X x := by rfl) (hn : x ≠ "__name__" := by decide) (hdb : (x == ("__debug__" : Str)) = false := by decide)
    (he : starEach [e] X.env = (false, eval e X.env) :: starEach [] X.env := by rfl) (hpl : (backTo pos (starEach [] X.env)).any (·.1) = false := by rfl) : PE X (.Call (.Name x p) [e] [] pos) (upE X.w X.K (dC1 o t)) :=
  (pe_callB (c1_r hc) hg hm hv (pa_cons ha pa_nil he) hn hdb he hpl).imp fun σ H Q h => c1_imp h
theorem q_c1T {o : PyData → PyData → Prop} (hc : C1 X (.type T) o) (hm : X.mg x = none) (hv : bootBuiltins x = some (.type T)) (ha : PE X e (upE X.w X.K t)) (hg : Gl X x := by rfl) (hn : x ≠ "__name__" := by decide) (hdb : (x == ("__debug__" : Str)) = false := by decide)
    (he : starEach [e] X.env = (false, eval e X.env) :: starEach [] X.env := by rfl) (hpl : (backTo pos (starEach [] X.env)).any (·.1) = false := by rfl) : PE X (.Call (.Name x p) [e] [] pos) (upE X.w X.K (dC1 o t)) :=
  (pe_callTy (c1_r hc) hg hm hv (pa_cons ha pa_nil he) hn hdb he hpl).imp fun σ H Q h => c1_imp h
theorem c2_r {f : Value} {o : PyData → PyData → PyData → Prop} (h : C2 X f o) : CallR X f fun xs H Q => ∃ xa ya v v2 G Q0 d d2 z, xs = [v, v2] ∧ RelA X.w X.K H xa v ∧ RelA X.w X.K H ya v2 ∧ AbsG X.w X.K H G ∧ see G xa = some d ∧ see G ya = some d2 ∧ o d d2 z ∧ Q0 (.dat z) G ∧ upQ X.w X.K H G Q0 Q := by
  intro pins s σ H xs us Q I r hw
  obtain ⟨xa, ya, v, v2, G, Q0, d, d2, z, rfl, ra, rb, ag, sd, sd2, od, q, hQ⟩ := hw
  obtain ⟨u, u2, rfl, rx, ry⟩ := vals2 r
  exact h pins s σ H d d2 z v v2 u u2 _ I (see_now ag ra sd) rx (see_now ag rb sd2) ry od fun v' u' H' s' I' rv rz sm => ⟨v', H', I', rv, hQ (.dat z) G v' H' q rz (ag.same sm) (Same.step sm)⟩
theorem c2_imp {o : PyData → PyData → PyData → Prop} {σ : L2.St} {H : Hp} {Q : VK} (h : upE X.w X.K (dC2 o t t2) σ H Q) :
    tCB (fun xs H Q => ∃ xa ya v v2 G Q0 d d2 z, xs = [v, v2] ∧ RelA X.w X.K H xa v ∧ RelA X.w X.K H ya v2 ∧ AbsG X.w X.K H G ∧ see G xa = some d ∧ see G ya = some d2 ∧ o d d2 z ∧ Q0 (.dat z) G ∧ upQ X.w X.K H G Q0 Q) (tCons (upE X.w X.K t) (tCons (upE X.w X.K t2) tNil)) σ H Q := by
  obtain ⟨τ, G, Q0, ab, q, hQ⟩ := h
  refine ⟨τ, G, _, ab, q, fun x G1 v H1 q1 r1 a1 s1 => ⟨τ, G1, _, ab.step s1.ext a1, q1, fun y G2 v2 H2 q2 r2 a2 s2 => ?_⟩⟩
  obtain ⟨d, d2, z, h1, h2, h3, h4⟩ := q2
  exact ⟨x, y, v, v2, G2, Q0, d, d2, z, rfl, r1.ext s2.ext, r2, a2, h1, h2, h3, h4, hQ.step (s1.trans s2)⟩
theorem q_c2B {o : PyData → PyData → PyData → Prop} (hc : C2 X (.builtin id) o) (hm : X.mg x = none) (hv : bootBuiltins x = some (.builtin id)) (ha : PE X e (upE X.w X.K t)) (hb : PE X e2 (upE X.w X.K t2)) (hg : Gl X x := by rfl) (hn : x ≠ "__name__" := by decide) (hdb : (x == ("__debug__" : Str)) = false := by decide)
    (he : starEach [e, e2] X.env = (false, eval e X.env) :: starEach [e2] X.env := by rfl) (he2 : starEach [e2] X.env = (false, eval e2 X.env) :: starEach [] X.env := by rfl) (hpl : (backTo pos (starEach [e2] X.env)).any (·.1) = false := by rfl) : PE X (.Call (.Name x p) [e, e2] [] pos) (upE X.w X.K (dC2 o t t2)) :=
  (pe_callB (c2_r hc) hg hm hv (pa_cons ha (pa_cons hb pa_nil he2) he) hn hdb he hpl).imp fun σ H Q h => c2_imp h
/-- a call that makes a new list -/
def tNew (w : World) (K : PySem.W.Frag) : List V → Hp → VK → Prop := fun xs H Q => ∃ (o : PyData → List PyData → Prop) (d : PyData) (zs : List PyData) (v : V), xs = [v] ∧ Now w K H d v ∧ o d zs ∧ ∀ p vs, H p = none → RelAll w K H zs vs → vs.length ≤ sizeLine → Q (.ref p) (upd H p (.lst vs))
theorem l1_r {f : Value} {o : PyData → List PyData → Prop} (h : L1 X f o) : CallR X f fun xs H Q => ∃ d zs v, xs = [v] ∧ Now X.w X.K H d v ∧ o d zs ∧ ∀ p vs, H p = none → RelAll X.w X.K H zs vs → vs.length ≤ sizeLine → Q (.ref p) (upd H p (.lst vs)) := by
  intro pins s σ H xs us Q I r hw
  obtain ⟨d, zs, v, rfl, nd, od, q⟩ := hw
  obtain ⟨u, rfl, rx⟩ := vals1 r
  exact h pins s σ H d zs v u _ I nd rx od fun p vs s' hp I' ra hz => ⟨.ref p, _, I', rfl, q p vs hp ra hz⟩
theorem l1_imp {o : PyData → List PyData → Prop} {σ : L2.St} {H : Hp} {Q : VK} (h : upL X.w X.K (dL1 o t) σ H Q) :
    tCB (fun xs H Q => ∃ d zs v, xs = [v] ∧ Now X.w X.K H d v ∧ o d zs ∧ ∀ p vs, H p = none → RelAll X.w X.K H zs vs → vs.length ≤ sizeLine → Q (.ref p) (upd H p (.lst vs))) (tCons (upE X.w X.K t) tNil) σ H Q := by
  obtain ⟨τ, G, Q0, ab, q, hQ⟩ := h
  refine ⟨τ, G, _, ab, q, fun x G1 v H1 q1 r1 a1 s1 => ?_⟩
  obtain ⟨d, zs, h1, h2, h3⟩ := q1
  refine ⟨d, zs, v, rfl, see_now a1 r1 h1, h2, fun p vs hp ra hz => ?_⟩
  have ext : Ext H1 (upd H1 p (.lst vs)) := (Step.new (G := G1) hp).ext
  refine hQ (zs.map Va.dat) G1 vs p _ h3 (RelAll.ext ext ra).vas upd_same hz (a1.off hp) (a1.new hp) (fun a ob ne ha ga => ?_) (s1.ext.trans ext) fun gp => ?_
  · rw [upd_ne ne]; exact s1.keep a ob ha ga
  · cases q : H p with
    | none => rfl
    | some ob => have := (s1.keep p ob q gp).1; rw [hp] at this; cases this
theorem ql_l1B {o : PyData → List PyData → Prop} (hc : L1 X (.builtin id) o) (hm : X.mg x = none) (hv : bootBuiltins x = some (.builtin id)) (ha : PE X e (upE X.w X.K t)) (hg : Gl X x := by rfl) (hn : x ≠ "__name__" := by decide) (hdb : (x == ("__debug__" : Str)) = false := by decide)
    (he : starEach [e] X.env = (false, eval e X.env) :: starEach [] X.env := by rfl) (hpl : (backTo pos (starEach [] X.env)).any (·.1) = false := by rfl) : PE X (.Call (.Name x p) [e] [] pos) (upL X.w X.K (dL1 o t)) :=
  (pe_callB (l1_r hc) hg hm hv (pa_cons ha pa_nil he) hn hdb he hpl).imp fun σ H Q h => l1_imp h
theorem ql_l1T {o : PyData → List PyData → Prop} (hc : L1 X (.type T) o) (hm : X.mg x = none) (hv : bootBuiltins x = some (.type T)) (ha : PE X e (upE X.w X.K t)) (hg : Gl X x := by rfl) (hn : x ≠ "__name__" := by decide) (hdb : (x == ("__debug__" : Str)) = false := by decide)
    (he : starEach [e] X.env = (false, eval e X.env) :: starEach [] X.env := by rfl) (hpl : (backTo pos (starEach [] X.env)).any (·.1) = false := by rfl) : PE X (.Call (.Name x p) [e] [] pos) (upL X.w X.K (dL1 o t)) :=
  (pe_callTy (l1_r hc) hg hm hv (pa_cons ha pa_nil he) hn hdb he hpl).imp fun σ H Q h => l1_imp h
end

/-! ### the built-ins -/
section
variable {X : Cx}
theorem useC {f : Value} {r : List V → Hp → VK → Prop} (ho : CallR X f r) {pins : List (Addr × Obj)} {s : Shared} {σ : L2.St} {H : Hp} {xs : List V} {us : List Value} {z : PyData} {Q : Value → Shared → Prop} (I : Inv X pins σ H s) (rx : Vals xs us)
    (h : r xs H fun v H' => Rel X.w X.K H' z v ∧ Same H H') (k : ∀ (v : V) (u : Value) (H' : Hp) (s' : Shared), Inv X pins σ H' s' → RelV v u → Rel X.w X.K H' z v → Same H H' → Q u s') : wpAny (model X.prog X.w) X.A (call f us) Q X.xe s :=
  thn (ho pins s σ H xs us _ I rx h) fun u s' ⟨v, H', I', rv, rz, sm⟩ => k v u H' s' I' rv rz sm
def lenF : PyData → PyData → Prop
  | .str x, z => x.length ≤ sizeLine ∧ z = .int x.length
  | .list xs, z => z = .int xs.length
  | .tuple xs, z => z = .int xs.length
  | _, _ => False
theorem c_len : C1 X (.builtin "len") lenF := by
  intro pins s σ H d z x u Q I n r o k
  cases d with
  | str y =>
    obtain ⟨hz, rfl⟩ := o
    cases now_str n
    exact useC call_len I (.cons r .nil) ⟨_, y.length, rfl, ⟨hz, rfl⟩, Rel.int _, Same.refl _⟩ k
  | list xs =>
    obtain rfl : z = .int xs.length := o
    obtain ⟨a, vs, rfl, ha, hv⟩ := now_list n
    exact useC call_len I (.cons r .nil) ⟨_, xs.length, rfl, .inl ⟨vs, .inl ha, RelAll.length hv⟩, Rel.int _, Same.refl _⟩ k
  | tuple xs =>
    obtain rfl : z = .int xs.length := o
    obtain ⟨a, vs, rfl, ha, hv⟩ := now_tup n
    exact useC call_len I (.cons r .nil) ⟨_, xs.length, rfl, .inr ⟨vs, ha, RelAll.length hv⟩, Rel.int _, Same.refl _⟩ k
  | _ => exact o.elim
def absF : PyData → PyData → Prop
  | .int i, z => z = .int (if i < 0 then -i else i)
  | _, _ => False
theorem c_abs : C1 X (.builtin "abs") absF := by
  intro pins s σ H d z x u Q I n r o k
  cases d with
  | int i =>
    obtain rfl := o
    cases now_int n
    exact useC call_abs I (.cons r .nil) ⟨_, rfl, Rel.int _, Same.refl _⟩ k
  | _ => exact o.elim
def intF : PyData → PyData → Prop
  | .int i, z => z = .int i
  | .bool b, z => z = .int (if b then 1 else 0)
  | _, _ => False
theorem c_int : C1 X (.type "int") intF := by
  intro pins s σ H d z x u Q I n r o k
  cases d with
  | int i =>
    obtain rfl := o
    cases now_int n
    exact useC call_int1 I (.cons r .nil) (.inl ⟨_, rfl, Rel.int _, Same.refl _⟩) k
  | bool i =>
    obtain rfl := o
    cases now_bool n
    exact useC call_int1 I (.cons r .nil) (.inr ⟨_, rfl, Rel.int _, Same.refl _⟩) k
  | _ => exact o.elim
def strF : PyData → PyData → Prop
  | .int i, z => i.natAbs.log2 < 1920 ∧ z = .str (toString i)
  | _, _ => False
theorem c_str : C1 X (.type "str") strF := by
  intro pins s σ H d z x u Q I n r o k
  cases d with
  | int i =>
    obtain ⟨h, rfl⟩ := o
    cases now_int n
    exact useC call_str_int I (.cons r .nil) ⟨_, rfl, h, Rel.str _, Same.refl _⟩ k
  | _ => exact o.elim
def max2F : PyData → PyData → PyData → Prop
  | .int i, .int j, z => z = .int (if j > i then j else i)
  | _, _, _ => False
def min2F : PyData → PyData → PyData → Prop
  | .int i, .int j, z => z = .int (if j < i then j else i)
  | _, _, _ => False
theorem c_max2 (hc : X.calm = true) : C2 X (.builtin "max") max2F := by
  intro pins s σ H d e z x y u1 u2 Q I n1 r1 n2 r2 o k
  cases d <;> cases e <;> first | exact o.elim | skip
  obtain rfl := o
  cases now_int n1
  cases now_int n2
  exact useC (call_max2 hc) I (.cons r1 (.cons r2 .nil)) ⟨_, _, rfl, Rel.int _, Same.refl _⟩ k
theorem c_min2 (hc : X.calm = true) : C2 X (.builtin "min") min2F := by
  intro pins s σ H d e z x y u1 u2 Q I n1 r1 n2 r2 o k
  cases d <;> cases e <;> first | exact o.elim | skip
  obtain rfl := o
  cases now_int n1
  cases now_int n2
  exact useC (call_min2 hc) I (.cons r1 (.cons r2 .nil)) ⟨_, _, rfl, Rel.int _, Same.refl _⟩ k
def dmF : PyData → PyData → PyData → Prop
  | .int i, .int j, z => (0 < j ∧ j < 1073741824) ∧ z = .tuple [.int (i / j), .int (i % j)]
  | _, _, _ => False
theorem c_divmod : C2 X (.builtin "divmod") dmF := by
  intro pins s σ H d e z x y u1 u2 Q I n1 r1 n2 r2 o k
  cases d <;> cases e <;> first | exact o.elim | skip
  obtain ⟨h, rfl⟩ := o
  cases now_int n1
  cases now_int n2
  obtain ⟨h1, h2⟩ := h
  obtain ⟨t, rfl⟩ := r1
  obtain ⟨t', rfl⟩ := r2
  refine divmod_int (by omega) ?_ (.inl (PyProof.noPylong_small (by omega)))
  rw [Int.fdiv_eq_ediv_of_nonneg _ (by omega), Int.fmod_eq_emod_of_nonneg _ (by omega)]
  obtain ⟨I2, hn, ht⟩ := laidT (tk := s.toks + 1 + 1) I (vs := [.int _, .int _]) (.cons ⟨s.toks, rfl⟩ (.cons ⟨s.toks + 1, rfl⟩ .nil)) (by show 2 ≤ sizeLine; decide)
  exact k (.ref _) _ _ _ I2 rfl (Rel.tup ht (.cons (.int _) (.cons (.int _) .nil))) (Same.new hn)
def tupF : PyData → PyData → Prop
  | .list xs, z => z = .tuple xs
  | .tuple xs, z => z = .tuple xs
  | _, _ => False
theorem c_tuple : C1 X (.type "tuple") tupF := by
  intro pins s σ H d z x u Q I n r o k
  cases d with
  | list xs =>
    obtain rfl := o
    obtain ⟨a, vs, rfl, ha, hv⟩ := now_list n
    cases r
    obtain ⟨its, r', pl, hz⟩ := I.list (.inl ha)
    have hl := r'.length
    refine call_tuple_list pl.isList (fun h' kp => ?_) (by rw [List.size_toArray]; omega)
    have I1 : Inv X pins σ H { s with heap := h' } := I.kept (t' := s.toks) kp
    obtain ⟨I2, hn, ht⟩ := laidT (tk := s.toks) I1 r' hz
    exact k (.ref _) _ _ _ I2 rfl (Rel.tup ht (RelAll.ext (Step.new (G := fun _ => none) hn).ext hv)) (Same.new hn)
  | tuple xs =>
    obtain rfl := o
    obtain ⟨a, vs, rfl, ha, hv⟩ := now_tupN n
    cases r
    obtain ⟨its, r', pl, hz⟩ := I.tuple ha.sq
    exact call_tuple_same pl (k (.ref a) _ H s I rfl (Rel.tup ha hv) (Same.refl _))
  | _ => exact o.elim
/-- all(..), any(..) of truth values -/
def allF : PyData → PyData → Prop
  | .list xs, z => (∀ x ∈ xs, ∃ b, x = .bool b) ∧ z = .bool (xs.all PyData.truthy)
  | _, _ => False
def anyF : PyData → PyData → Prop
  | .list xs, z => (∀ x ∈ xs, ∃ b, x = .bool b) ∧ z = .bool (xs.any PyData.truthy)
  | _, _ => False
theorem plain_bools : ∀ {xs : List PyData}, (∀ x ∈ xs, ∃ b, x = .bool b) → PyData.plainAll xs = true
  | [], _ => rfl
  | x :: xs, h => by
    obtain ⟨b, rfl⟩ := h x List.mem_cons_self
    rw [PyData.plainAll, plain_bools fun y hy => h y (List.mem_cons_of_mem _ hy)]
    rfl
theorem c_all (hc : X.calm = true) : C1 X (.builtin "all") allF := by
  intro pins s σ H d z x u Q I n r o k
  cases d with
  | list xs =>
    obtain ⟨hb, rfl⟩ := o
    obtain ⟨a, vs, rfl, ha, hv⟩ := now_list n
    cases r
    obtain ⟨its, m, ri, ei, zi⟩ := rd_lst I ha
    obtain ⟨as, rs⟩ := readsAll I hv ri
    exact PySem.W.all_list_data (I.ok.hd hc) (show s.heap.IsList a its.toArray from ⟨_, ei, rfl, _, rfl⟩) rs (plain_bools hb) (fun y hy => by obtain ⟨b, rfl⟩ := hb y hy; exact True.intro) fun h' tk kp => k (.bl _) _ H _ (I.kept kp) rfl (Rel.bl _) (Same.refl _)
  | _ => exact o.elim
theorem c_any (hc : X.calm = true) : C1 X (.builtin "any") anyF := by
  intro pins s σ H d z x u Q I n r o k
  cases d with
  | list xs =>
    obtain ⟨hb, rfl⟩ := o
    obtain ⟨a, vs, rfl, ha, hv⟩ := now_list n
    cases r
    obtain ⟨its, m, ri, ei, zi⟩ := rd_lst I ha
    obtain ⟨as, rs⟩ := readsAll I hv ri
    exact PySem.W.any_list_data (I.ok.hd hc) (show s.heap.IsList a its.toArray from ⟨_, ei, rfl, _, rfl⟩) rs (plain_bools hb) (fun y hy => by obtain ⟨b, rfl⟩ := hb y hy; exact True.intro) fun h' tk kp => k (.bl _) _ H _ (I.kept kp) rfl (Rel.bl _) (Same.refl _)
  | _ => exact o.elim
/-- repr(x) -/
def reprF (d z : PyData) : Prop := d.showable = true ∧ d.hasDict = false ∧ d.depth ≤ 60 ∧ d.shown.length ≤ sizeLine ∧ z = .str d.shown
theorem c_repr {k : Nat} (hr : Room k X.A) (hg : X.A.guards = some []) : C1 X (.builtin "repr") reprF := by
  intro pins s σ H d z x u Q I n r o k
  obtain ⟨h1, h2, h3, h4, rfl⟩ := o
  obtain ⟨as, rd⟩ := now_reads I n r
  have un := hr.un
  cases rd with
  | none => exact PySem.P.repr_of_none (k (.str _) _ H _ (I.tok _) ⟨_, rfl⟩ (by simp only [PyData.shown]; exact Rel.str _) (Same.refl _))
  | bool b => exact PySem.P.repr_of_bool (k (.str _) _ H _ (I.tok _) ⟨_, rfl⟩ (by simp only [PyData.shown]; exact Rel.str _) (Same.refl _))
  | int i t => exact PySem.P.repr_of_int (by simpa [PyData.showable] using h1) (k (.str _) _ H _ (I.tok _) ⟨_, rfl⟩ (by simp only [PyData.shown]; exact Rel.str _) (Same.refl _))
  | str y t => exact PySem.P.repr_of_str (k (.str _) _ H _ (I.tok _) ⟨_, rfl⟩ (by simp only [PyData.shown]; exact Rel.str _) (Same.refl _)) (by simpa only [PyData.shown] using h4)
  | list a1 a2 a3 a4 => exact repr_of_reads' (.list a1 a2 a3 a4) h1 (fun e => by rw [h2] at e; cases e) hg (by omega) (fun _ _ e => e) (fun h' u' tk kp => k (.str _) _ H _ (I.kept kp) ⟨_, rfl⟩ (Rel.str _) (Same.refl _)) h4
  | tuple a1 a2 a3 a4 => exact repr_of_reads' (.tuple a1 a2 a3 a4) h1 (fun e => by rw [h2] at e; cases e) hg (by omega) (fun _ _ e => e) (fun h' u' tk kp => k (.str _) _ H _ (I.kept kp) ⟨_, rfl⟩ (Rel.str _) (Same.refl _)) h4
  | dict a1 a2 a3 a4 a5 => simp [PyData.hasDict] at h2
end
end DL

/-! DLh: isinstance, in, *, slices, minus; sorted, list(..); what is walked; what is changed. -/
namespace DL
open PySem PySem.Spec PyProof.Rows L2

/-! ### isinstance(x, T) -/
def isiF (T : String) (d : PyData) : Option Bool := match T with
  | "int" => some d.isInt
  | "bool" => some d.isBool
  | "str" => some d.isStr
  | "tuple" => some d.isTuple
  | "list" => some d.isList
  | "dict" => some d.isDict
  | _ => none
def dIsi (T : String) (t : DE) : DE := fun τ G Q => t τ G fun x G1 => ∃ d b, see G1 x = some d ∧ isiF T d = some b ∧ Q (.dat (.bool b)) G1
section
variable {X : Cx} {e e2 : Expr} {t t2 : DE} {x : Str} {p pos p2 : Pos}
theorem isi_r (T : String) : CallR X (.builtin "isinstance") fun xs H Q => ∃ v d b, xs = [v, .ty T] ∧ Now X.w X.K H d v ∧ isiF T d = some b ∧ Q (.bl b) H := by
  intro pins s σ H xs us Q I r h
  obtain ⟨v, d, b, rfl, nd, e, q⟩ := h
  obtain ⟨u1, u2, rfl, r1, r2⟩ := vals2 r
  obtain rfl : u2 = Value.type T := r2
  obtain ⟨as, rd⟩ := now_reads I nd r1
  unfold isiF at e
  split at e <;> cases e
  · exact PySem.W.isinstance_int_data rd fun tk _ => ⟨.bl _, H, I.tok tk, rfl, q⟩
  · exact PySem.W.isinstance_bool_data rd fun tk _ => ⟨.bl _, H, I.tok tk, rfl, q⟩
  · exact PySem.W.isinstance_str_data rd fun tk _ => ⟨.bl _, H, I.tok tk, rfl, q⟩
  · exact PySem.W.isinstance_tuple_data rd fun tk _ => ⟨.bl _, H, I.tok tk, rfl, q⟩
  · exact PySem.W.isinstance_list_data rd fun tk _ => ⟨.bl _, H, I.tok tk, rfl, q⟩
  · exact PySem.W.isinstance_dict_data rd fun tk _ => ⟨.bl _, H, I.tok tk, rfl, q⟩
theorem q_isi {T : String} {y : Str} (hm : X.mg "isinstance" = none) (hv : bootBuiltins "isinstance" = some (.builtin "isinstance")) (hmT : X.mg y = none) (hvT : bootBuiltins y = some (.type T)) (ha : PE X e (upE X.w X.K t)) (hg : Gl X "isinstance" := by rfl) (hgT : Gl X y := by rfl)
    (hn : y ≠ "__name__" := by decide) (hdb : (y == ("__debug__" : Str)) = false := by decide)
    (he : starEach [e, .Name y p2] X.env = (false, eval e X.env) :: starEach [.Name y p2] X.env := by rfl) (he2 : starEach [.Name y p2] X.env = (false, eval (.Name y p2) X.env) :: starEach [] X.env := by rfl) (hpl : (backTo pos (starEach [.Name y p2] X.env)).any (·.1) = false := by rfl) :
    PE X (.Call (.Name "isinstance" p) [e, .Name y p2] [] pos) (upE X.w X.K (dIsi T t)) :=
  (pe_callB (isi_r T) hg hm hv (pa_cons ha (pa_cons (pe_bltn (v := .ty T) hgT hmT hvT rfl hn hdb) pa_nil he2) he) (by decide) (by decide) he hpl).imp fun σ H Q h => by
    obtain ⟨τ, G, Q0, ab, q, hQ⟩ := h
    refine ⟨τ, G, _, ab, q, fun x G1 v H1 q1 r1 a1 s1 => ?_⟩
    obtain ⟨d, b, h1, h2, h3⟩ := q1
    exact ⟨v, d, b, rfl, see_now a1 r1 h1, h2, hQ (.dat (.bool b)) G1 (.bl b) H1 h3 (Rel.bl b) a1 s1⟩
end

/-! ### x in c -/
def inF : PyData → PyData → Option PyData
  | x, .list xs => if fineAll xs && fine x then some (.bool (xs.any fun y => PyData.eqv y x)) else none
  | x, .tuple xs => if fineAll xs && fine x then some (.bool (xs.any fun y => PyData.eqv y x)) else none
  | .str a, .str b => if a.cps.size = 1 then some (.bool (b.cps.toList.contains (a.cps.getD 0 0))) else none
  | _, _ => none
def notInF : PyData → PyData → Option PyData
  | x, .list xs => if fineAll xs && fine x then some (.bool (!(xs.any fun y => PyData.eqv y x))) else none
  | x, .tuple xs => if fineAll xs && fine x then some (.bool (!(xs.any fun y => PyData.eqv y x))) else none
  | .str a, .str b => if a.cps.size = 1 then some (.bool (!(b.cps.toList.contains (a.cps.getD 0 0)))) else none
  | _, _ => none
section
variable {X : Cx}
theorem sign_of1 {a : Str} (h : a.cps.size = 1) : a = ⟨#[a.cps.getD 0 0]⟩ := by
  obtain ⟨⟨l⟩⟩ := a
  have hl : l.length = 1 := h
  match l, hl with
  | [c], _ => rfl
theorem fine_all {xs : List PyData} {x : PyData} (h : (fineAll xs && fine x) = true) : PyData.plainAll xs = true ∧ PyData.depthAll xs ≤ 60 ∧ x.plain = true ∧ x.depth ≤ 60 := by
  simp only [fine, fineAll, Bool.and_eq_true, decide_eq_true_eq] at h
  exact ⟨h.1.1, h.1.2, h.2.1, h.2.2⟩
theorem o_in {k : Nat} (hr : Room k X.A) : O2 X (compareOp .In) inF := by
  intro pins s σ H d e z x y u1 u2 Q I n1 r1 n2 r2 h k
  have un := hr.un
  obtain ⟨as, a1⟩ := now_reads I n1 r1
  obtain ⟨bs, b1⟩ := now_reads I n2 r2
  cases e with
  | list xs =>
    have h' : (if (fineAll xs && fine d) = true then some (PyData.bool (xs.any fun y => PyData.eqv y d)) else none) = some z := by
      cases d <;> exact h
    split at h'
    · cases h'
      rename_i hf
      obtain ⟨f1, f2, f3, f4⟩ := fine_all hf
      exact SeqAt.in_list_data b1 a1 f1 f3 (by omega) (k (.bl _) _ H s I rfl (Rel.bl _) (Same.refl _))
    · cases h'
  | tuple xs =>
    have h' : (if (fineAll xs && fine d) = true then some (PyData.bool (xs.any fun y => PyData.eqv y d)) else none) = some z := by
      cases d <;> exact h
    split at h'
    · cases h'
      rename_i hf
      obtain ⟨f1, f2, f3, f4⟩ := fine_all hf
      exact SeqAt.in_tuple_data b1 a1 f1 f3 (by omega) (k (.bl _) _ H s I rfl (Rel.bl _) (Same.refl _))
    · cases h'
  | str b =>
    cases d with
    | str a =>
      simp only [inF] at h
      split at h
      · cases h
        rename_i ha
        cases now_str n1
        cases now_str n2
        refine use op_in_sign I r1 r2 ⟨a.cps.getD 0 0, b, by rw [← sign_of1 ha], rfl, ?_, Same.refl _⟩ k
        rw [List.contains_eq_mem]
        exact Rel.bl _
      · cases h
    | _ => cases h
  | _ => cases d <;> cases h
theorem o_notin {k : Nat} (hr : Room k X.A) : O2 X (compareOp .NotIn) notInF := by
  intro pins s σ H d e z x y u1 u2 Q I n1 r1 n2 r2 h k
  have un := hr.un
  obtain ⟨as, a1⟩ := now_reads I n1 r1
  obtain ⟨bs, b1⟩ := now_reads I n2 r2
  cases e with
  | list xs =>
    have h' : (if (fineAll xs && fine d) = true then some (PyData.bool (!(xs.any fun y => PyData.eqv y d))) else none) = some z := by
      cases d <;> exact h
    split at h'
    · cases h'
      rename_i hf
      obtain ⟨f1, f2, f3, f4⟩ := fine_all hf
      exact SeqAt.notIn_list_data b1 a1 f1 f3 (by omega) (k (.bl _) _ H s I rfl (Rel.bl _) (Same.refl _))
    · cases h'
  | tuple xs =>
    have h' : (if (fineAll xs && fine d) = true then some (PyData.bool (!(xs.any fun y => PyData.eqv y d))) else none) = some z := by
      cases d <;> exact h
    split at h'
    · cases h'
      rename_i hf
      obtain ⟨f1, f2, f3, f4⟩ := fine_all hf
      exact SeqAt.notIn_tuple_data b1 a1 f1 f3 (by omega) (k (.bl _) _ H s I rfl (Rel.bl _) (Same.refl _))
    · cases h'
  | str b =>
    cases d with
    | str a =>
      simp only [notInF] at h
      split at h
      · cases h
        rename_i ha
        cases now_str n1
        cases now_str n2
        refine use op_notIn_sign I r1 r2 ⟨a.cps.getD 0 0, b, by rw [← sign_of1 ha], rfl, ?_, Same.refl _⟩ k
        rw [List.contains_eq_mem]
        exact Rel.bl _
      · cases h
    | _ => cases h
  | _ => cases d <;> cases h

/-! ### -x, slices -/
def dNeg (t : DE) : DE := fun τ G Q => t τ G fun x G1 => ∃ i, x = .dat (.int i) ∧ Q (.dat (.int (-i))) G1
theorem q_neg {e : Expr} {t : DE} {pos : Pos} (h : PE X e (upE X.w X.K t)) : PE X (.UnaryOp .USub e pos) (upE X.w X.K (dNeg t)) := (pe_un un_neg h).imp fun σ H Q ⟨τ, G, Q0, ab, q, hQ⟩ => ⟨τ, G, _, ab, q, fun x G1 v H1 q1 r1 a1 s1 => by
  obtain ⟨i, rfl, q2⟩ := q1
  have r1' : Rel X.w X.K H1 (.int i) v := r1
  cases r1'
  exact ⟨i, rfl, hQ _ G1 (.int (-i)) H1 q2 (Rel.int _) a1 s1⟩⟩
theorem cut_rel {w : World} {K : PySem.W.Frag} {H : Hp} {ds : List PyData} {vs : List V} (r : RelAll w K H ds vs) (lo hi : Option Int) : RelAll w K H (cutD ds lo hi) (cutV vs lo hi) := by
  unfold cutD cutV
  rw [RelAll.length r]
  exact (r.drop _).take _
theorem sl_data : SlR X (fun x lo hi H Q => (∃ d z, Rel X.w X.K H d x ∧ slF d lo hi = some z ∧ ∀ v H', Rel X.w X.K H' z v → Same H H' → Q v H')) := by
  intro pins s σ H x v vl vu lo hi sl Q I rx hs pl pu h
  obtain ⟨d, z, nd, e, q⟩ := h
  cases d with
  | tuple xs =>
    cases e
    obtain ⟨a, vs, rfl, ha, hv⟩ := now_tupN (.rel nd)
    by_cases hw : HT.sIx vs.length 0 lo = 0 ∧ HT.sIx vs.length vs.length hi = vs.length
    · refine sl_tupA pins s σ H _ v vl vu lo hi sl Q I rx hs pl pu ⟨a, vs, rfl, ha.sq, fun _ => ?_, fun hn => absurd hw hn⟩
      refine q _ H ?_ (Same.refl _)
      have : cutD xs lo hi = xs := by
        unfold cutD
        rw [RelAll.length hv, hw.1, hw.2, List.drop_zero, Nat.sub_zero, ← RelAll.length hv, List.take_length]
      rw [this]
      exact Rel.tup ha hv
    · cases rx
      obtain ⟨its, r, ht, hz⟩ := I.tuple ha.sq
      have hlen : its.toArray.size = vs.length := by rw [List.size_toArray]; exact r.length.symm
      refine ⟨"tuple", _, PyProof.Rows.slot_tuple_getitem.lookup, ht.typeIs, ?_⟩
      refine HT.getItem_tuple_cut ht hs pl pu (by rw [hlen]; exact hw) ?_ (by rw [hlen]; exact hz)
      rw [hlen]
      obtain ⟨I2, hn, hN⟩ := laidT (tk := s.toks) I (vs := cutV vs lo hi) ((r.drop (HT.sIx vs.length 0 lo)).take (HT.sIx vs.length vs.length hi - HT.sIx vs.length 0 lo)) (Nat.le_trans (cutV_length vs lo hi) hz)
      exact ⟨.ref _, _, I2, rfl, q _ _ (Rel.tup hN (RelAll.ext (Step.new (G := fun _ => none) hn).ext (cut_rel hv lo hi))) (Same.new hn)⟩
  | str y =>
    simp only [slF] at e
    split at e
    · cases e
      rename_i hy
      cases now_str (.rel nd)
      refine sl_str pins s σ H _ v vl vu lo hi sl Q I rx hs pl pu ⟨y, rfl, hy, q _ H ?_ (Same.refl _)⟩
      have : (⟨(cutD y.cps.toList lo hi).toArray⟩ : Str) = cutS y lo hi := rfl
      rw [this]
      exact Rel.str _
    · cases e
  | _ => cases e
theorem q_sl {e : Expr} {lo hi : Option Expr} {te : DE} {tl th : DO} {pos p2 : Pos} (he : PE X e (upE X.w X.K te)) (hl : PO X lo (upO X.w X.K tl)) (hh : PO X hi (upO X.w X.K th)) : PE X (.Subscript e (.Slice lo hi none p2) pos) (upE X.w X.K (dSl te tl th)) :=
  (pe_slice sl_data he hl hh).imp fun σ H Q ⟨τ, G, Q0, ab, q, hQ⟩ => ⟨τ, G, _, ab, q, fun x G1 v H1 q1 r1 a1 s1 => ⟨τ, G1, _, ab.step s1.ext a1, q1, fun l G2 H2 q2 a2 s2 => ⟨τ, G2, _, ab.step (s1.trans s2).ext a2, q2, fun u G3 H3 q3 a3 s3 => by
    obtain ⟨d, z, h1, h2, h3⟩ := q3
    have r3 := (r1.ext s2.ext).ext s3.ext
    have st := (s1.trans s2).trans s3
    cases x with
    | dat d' =>
      cases h1
      exact ⟨d, z, r3, h2, fun v' H' rz sm => hQ (.dat z) G3 v' H' h3 rz (a3.same sm) (st.trans (Same.step sm))⟩
    | ref a =>
      exfalso
      cases g : G3 a with
      | none => simp [see, g] at h1
      | some o =>
        cases o with
        | lst xs =>
          cases q : seeL xs with
          | none => simp [see, g, q] at h1
          | some ds => simp [see, g, q] at h1; subst h1; cases h2
        | dct kvs =>
          cases q : seeKV kvs with
          | none => simp [see, g, q] at h1
          | some ds => simp [see, g, q] at h1; subst h1; cases h2
        | ins C fs => simp [see, g] at h1⟩⟩⟩
end
end DL

/-! DLi: sorted, list(..), tuple(range), products; what is walked. -/
namespace DL
open PySem PySem.Spec PyProof.Rows L2

/-- what a walk over the data gives -/
def itemsD : PyData → Option (List PyData)
  | .list xs => some xs
  | .tuple xs => some xs
  | .dict kvs => some (kvs.map (·.1))
  | .str x => some (x.cps.toList.map fun c => .str ⟨#[c]⟩)
  | _ => none

section
variable {X : Cx}
theorem vals_of_each {K : PySem.W.Frag} {w : World} {H : Hp} : ∀ {us : List Value} {ds : List PyData}, PySem.W.EachIs (fun u d => ∃ v, RelV v u ∧ Rel w K H d v) us ds → ∃ vs, Vals vs us ∧ RelAll w K H ds vs
  | _, _, .nil => ⟨[], .nil, .nil⟩
  | _, _, .cons ⟨v, h1, h2⟩ t => let ⟨vs, h3, h4⟩ := vals_of_each t; ⟨v :: vs, .cons h1 h3, .cons h2 h4⟩
theorem each_of_vals {K : PySem.W.Frag} {w : World} {H : Hp} : ∀ {ds : List PyData} {vs : List V} {us : List Value}, RelAll w K H ds vs → Vals vs us → PySem.W.EachIs (fun u d => ∃ v, RelV v u ∧ Rel w K H d v) us ds
  | _, _, _, .nil, .nil => .nil
  | _, _, _, .cons h1 t1, .cons h2 t2 => .cons ⟨_, h2, h1⟩ (each_of_vals t1 t2)
theorem each_reads {pins : List (Addr × Obj)} {s : Shared} {σ : L2.St} {H : Hp} (I : Inv X pins σ H s) : ∀ {us : List Value} {ds : List PyData}, PySem.W.EachIs (fun u d => ∃ v, RelV v u ∧ Rel X.w X.K H d v) us ds → PySem.W.EachIs (fun u d => ∃ as, Reads s.heap u d as) us ds
  | _, _, .nil => .nil
  | _, _, .cons ⟨v, h1, h2⟩ t => .cons (reads I h2 h1) (each_reads I t)

/-- collect: the items, all else kept -/
theorem collects {pins : List (Addr × Obj)} {s : Shared} {σ : L2.St} {H : Hp} {d : PyData} {ds : List PyData} {x : V} {u : Value} {A : Around} {E : Value → Shared → Prop} {Q : List Value → Shared → Prop} (hh : A.handled = none) (I : Inv X pins σ H s) (n : Now X.w X.K H d x) (r : RelV x u) (hd : itemsD d = some ds) (hns : ∀ y, d ≠ .str y)
    (k : ∀ us h' tk, PySem.W.EachIs (fun u d => ∃ v, RelV v u ∧ Rel X.w X.K H d v) us ds → ds.length ≤ sizeLine → (∀ b o, s.heap.get? b = some o → h'.get? b = some o) → Q us { s with heap := h', toks := tk }) : wpAny (model X.prog X.w) A (collect u) Q E s := by
  cases d with
  | list xs =>
    cases hd
    obtain ⟨a, vs, rfl, ha, hv⟩ := now_list n
    cases r
    obtain ⟨its, m, ri, ei, zi⟩ := rd_lst I ha
    have l1 := RelAll.length hv
    have l2 := ri.length
    exact wpAny_collect_seq a (.inl rfl) ei rfl rfl (fun h' kp => k its h' s.toks (each_of_vals hv ri) (by omega) kp) (by rw [List.size_toArray]; omega)
  | tuple xs =>
    cases hd
    obtain ⟨a, vs, rfl, ha, hv⟩ := now_tup n
    cases r
    obtain ⟨its, ri, ⟨o, ho, hc, m, hdt⟩, zi⟩ := I.tuple ha
    have l1 := RelAll.length hv
    have l2 := ri.length
    exact wpAny_collect_seq a (.inr rfl) ho hc hdt (fun h' kp => k its h' s.toks (each_of_vals hv ri) (by omega) kp) (by rw [List.size_toArray]; omega)
  | dict kvs =>
    cases hd
    have core : ∀ (a : Addr) (o : Obj) (es : List DictEntry), s.heap.get? a = some o → DObj o es → a ≠ sysModules → es.length ≤ sizeLine → RelKV X.w X.K H kvs es → u = .ref a → wpAny (model X.prog X.w) A (collect u) Q E s := by
      intro a o es ho ⟨ar, ep, hx, hdt, he⟩ hs hz rkv eu
      subst eu
      have hsz : ar.size = es.length := by rw [← he, Array.length_toList]
      refine PySem.W.kdu_collect (kdl_raw (beq_eq_false_iff_ne.mpr hs) hx hdt) hh ho (by omega) fun h' tk acc kp it => ?_
      have hk : acc.toList = es.map (·.key) := by
        apply List.ext_getElem?
        intro j
        rw [List.getElem?_map]
        cases hj : acc.toList[j]? with
        | none =>
          have h1 := List.getElem?_eq_none_iff.mp hj
          rw [Array.length_toList, it.1] at h1
          rw [List.getElem?_eq_none (by omega)]
          rfl
        | some v =>
          obtain ⟨en, hen, rfl⟩ := it.2 j v (by rw [← Array.getElem?_toList]; exact hj)
          rw [← Array.getElem?_toList, he] at hen
          rw [hen]; rfl
      rw [hk]
      have ek : ∀ {kvs : List (PyData × PyData)} {es : List DictEntry}, RelKV X.w X.K H kvs es → PySem.W.EachIs (fun u d => ∃ v, RelV v u ∧ Rel X.w X.K H d v) (es.map (·.key)) (kvs.map (·.1)) := by
        intro kvs es r
        induction kvs generalizing es with
        | nil => cases r; exact .nil
        | cons p kvs ih =>
          cases r with
          | cons h1 h2 h3 h4 h5 h6 t => exact .cons ⟨_, h2, h1⟩ (ih t)
      have hl := (ek rkv).length
      rw [List.length_map, List.length_map] at hl
      exact k _ h' tk (ek rkv) (by rw [List.length_map]; omega) kp
    cases n with
    | rel n => cases n with | dct h1 h2 h3 h4 _ h6 => exact core _ _ _ (I.hok _ _ h1).1 h2 h3 h4 h6 r
    | dct h1 h2 h3 h4 _ h6 => exact core _ _ _ (I.hok _ _ h1).1 h2 h3 h4 h6 r
  | str y => exact absurd rfl (hns y)
  | _ => cases hd

/-- sorted(x) -/
def sortF (d : PyData) (zs : List PyData) : Prop := ∃ ds, itemsD d = some ds ∧ (∀ y, d ≠ .str y) ∧ PySem.W.AllAlike ds ∧ PySem.W.Sortable ds ∧ (∀ d ∈ ds, d.depth ≤ 60) ∧ zs = ds.mergeSort (PySem.W.dataLe false id)
theorem c_sorted {k : Nat} (hc : X.calm = true) (hr : Room k X.A) : L1 X (.builtin "sorted") sortF := by
  intro pins s σ H d zs x u Q I n r o kk
  obtain ⟨ds, hd, hns, hal, hso, hdp, rfl⟩ := o
  have hh := I.ok.hd hc
  have un := hr.un
  refine Calls.call_function_entry kind_sorted plain_sorted entry_sorted (args_sorted1 _) ?_
  unfold Builtin.«sorted»
  refine wpAny_bind (m := checkCount "sorted" 1 1 _) (wpAny_pure ?_)
  refine wpAny_bind (collects (A := X.A.in1) hh I n r hd hns fun us h' tk eus hz kp => ?_)
  have hul := eus.length
  have I1 : Inv X pins σ H { s with heap := h', toks := tk } := I.kept kp
  refine wpAny_bind (wpAny_newList ?_ (by omega))
  have ho : (h'.push { cls := .type "list", data := .seq us.toArray }).get? h'.objs.size = some (seqObj "list" us.toArray 0) := Heap.get?_push_size _ rfl
  have hn : H h'.objs.size = none := I1.hok.fresh (Nat.le_refl _)
  have I2 : Inv X pins σ H { s with heap := h'.push { cls := .type "list", data := .seq us.toArray }, toks := tk } := I1.kept fun b ob e => Heap.get?_push_of_some _ e
  refine wpAny_bind (wpAny_holding (wpAny_call_entry_kw slot_list_sort ⟨_, ho, rfl⟩ entry_list_sort ?body (args_list_sort _)))
  case body =>
    show wpAny (model X.prog X.w) X.A.in1.in1 (Builtin.«list.sort» ⟨[.ref h'.objs.size], []⟩) _ _ _
    have ke : ∀ b o, h'.get? b = some o → (PySem.W.sortingHeap (h'.push { cls := .type "list", data := .seq us.toArray }) h'.objs.size us).get? b = some o := fun b o e => PySem.W.sortingHeap_old (Nat.ne_of_lt (Heap.lt_size e)) (Heap.get?_push_of_some _ e)
    have er : PySem.W.EachIs (fun u d => ∃ as, Reads (PySem.W.sortingHeap (h'.push { cls := .type "list", data := .seq us.toArray }) h'.objs.size us) u d as) us ds := (each_reads I1 eus).mono fun _ _ ⟨as, q⟩ => ⟨as, PyProof.Rows.Reads.keeps ke q⟩
    refine PySem.W.list_sort_vals (κ := PySem.W.dataKind (PySem.W.sortingHeap (h'.push { cls := .type "list", data := .seq us.toArray }) h'.objs.size us) ds) ho (PySem.W.SortsAt.data er hal hso fun e he => ?_) (by omega) ⟨_, rfl, ?_⟩
    · have := hdp e he
      show X.A.units + 1 + 1 + _ < _
      omega
    · obtain ⟨c, hat⟩ := sortedHeap_at (out := (PySem.W.sortVals (PySem.W.dataKind (PySem.W.sortingHeap (h'.push { cls := .type "list", data := .seq us.toArray }) h'.objs.size us) ds) false us us).toArray) ho
      have eo : PySem.W.EachIs (fun u d => ∃ v, RelV v u ∧ Rel X.w X.K H d v) (PySem.W.sortVals (PySem.W.dataKind (PySem.W.sortingHeap (h'.push { cls := .type "list", data := .seq us.toArray }) h'.objs.size us) ds) false us us) (ds.mergeSort (PySem.W.dataLe false id)) := by
        have := PySem.W.sortVals_data (enc := id) (h' := PySem.W.sortingHeap (h'.push { cls := .type "list", data := .seq us.toArray }) h'.objs.size us) (bs := ds) false eus er (by rw [List.map_id]; exact hal)
        rw [List.map_id] at this
        exact this
      obtain ⟨vs, rv, ra⟩ := vals_of_each eo
      have hl : vs.length = ds.length := by rw [← RelAll.length ra, List.length_mergeSort]
      refine wpAny_pure ⟨_, rfl, kk h'.objs.size vs _ hn (I1.laid (t' := tk) (o := .lst vs) (fun b ob e => ?_) (Nat.le_refl _) ⟨by omega, _, c, rv, hat⟩) ra (by omega)⟩
      exact (sortedHeap_old (Nat.ne_of_lt (Heap.lt_size e)) (by rw [Heap.size_push]; exact Nat.lt_succ_of_lt (Heap.lt_size e))).trans (Heap.get?_push_of_some _ e)
/-- list(x) -/
def listF (d : PyData) (zs : List PyData) : Prop := itemsD d = some zs ∧ ∀ y, d ≠ .str y
theorem c_list (hc : X.calm = true) : L1 X (.type "list") listF := by
  intro pins s σ H d zs x u Q I n r ⟨hd, hns⟩ kk
  have fin : ∀ {a : Addr} {vs : List V}, RelAll X.w X.K H zs vs → vs.length ≤ sizeLine → (SqL X.K H a vs ∨ SqT X.K H a vs) → x = .ref a → wpAny (model X.prog X.w) X.A (call (.type "list") [u]) Q X.xe s := by
    intro a vs hv hz hs ex
    subst ex
    refine thn (call_list_of pins s σ H [.ref a] [u] (fun v H' => ∃ l, v = .ref l ∧ H l = none ∧ H' = upd H l (.lst vs)) I (.cons r .nil) ⟨a, vs, rfl, hs, fun l hl => ⟨l, rfl, hl, rfl⟩⟩) fun u' s' ⟨v, H', I', rv, l, ev, hl, eH⟩ => ?_
    subst ev eH
    cases rv
    exact kk l vs s' hl I' hv hz
  cases d with
  | list xs =>
    cases hd
    obtain ⟨a, vs, rfl, ha, hv⟩ := now_list n
    obtain ⟨_, _, _, _, zi⟩ := rd_lst I ha
    exact fin hv zi (.inl (.inl ha)) rfl
  | tuple xs =>
    cases hd
    obtain ⟨a, vs, rfl, ha, hv⟩ := now_tup n
    obtain ⟨_, _, _, zi⟩ := I.tuple ha
    exact fin hv zi (.inr ha) rfl
  | dict kvs =>
    cases hd
    have core : ∀ (a : Addr) (o : Obj) (es : List DictEntry), s.heap.get? a = some o → DObj o es → a ≠ sysModules → es.length ≤ sizeLine → RelKV X.w X.K H kvs es → u = .ref a → wpAny (model X.prog X.w) X.A (call (.type "list") [u]) Q X.xe s := by
      intro a o es ho ⟨ar, ep, hx, hdt, he⟩ hs hz rkv eu
      subst eu
      have hsz : ar.size = es.length := by rw [← he, Array.length_toList]
      refine PySem.W.kdl_call (kdl_raw (beq_eq_false_iff_ne.mpr hs) hx hdt) (I.ok.hd hc) ho (by omega) fun h' tk acc c kp e it => ?_
      have hk : acc.toList = es.map (·.key) := by
        apply List.ext_getElem?
        intro j
        rw [List.getElem?_map]
        cases hj : acc.toList[j]? with
        | none =>
          have h1 := List.getElem?_eq_none_iff.mp hj
          rw [Array.length_toList, it.1] at h1
          rw [List.getElem?_eq_none (by omega)]
          rfl
        | some v =>
          obtain ⟨en, hen, rfl⟩ := it.2 j v (by rw [← Array.getElem?_toList]; exact hj)
          rw [← Array.getElem?_toList, he] at hen
          rw [hen]; rfl
      have ek : ∀ {kvs : List (PyData × PyData)} {es : List DictEntry}, RelKV X.w X.K H kvs es → PySem.W.EachIs (fun u d => ∃ v, RelV v u ∧ Rel X.w X.K H d v) (es.map (·.key)) (kvs.map (·.1)) := by
        intro kvs es r
        induction kvs generalizing es with
        | nil => cases r; exact .nil
        | cons p kvs ih =>
          cases r with
          | cons h1 h2 h3 h4 h5 h6 t => exact .cons ⟨_, h2, h1⟩ (ih t)
      obtain ⟨vs, rv, ra⟩ := vals_of_each (ek rkv)
      have hl := (ek rkv).length
      rw [List.length_map, List.length_map] at hl
      have hvl : vs.length ≤ sizeLine := by rw [← RelAll.length ra, List.length_map]; omega
      refine kk s.heap.objs.size vs _ (I.hok.fresh (Nat.le_refl _)) (I.laid (t' := tk) (o := .lst vs) kp (Nat.le_refl _) ⟨hvl, acc.toList, c, by rw [hk]; exact rv, by rw [Array.toArray_toList]; exact e⟩) ra hvl
    cases n with
    | rel n => cases n with | dct h1 h2 h3 h4 _ h6 => exact core _ _ _ (I.hok _ _ h1).1 h2 h3 h4 h6 r
    | dct h1 h2 h3 h4 _ h6 => exact core _ _ _ (I.hok _ _ h1).1 h2 h3 h4 h6 r
  | str y => exact absurd rfl (hns y)
  | _ => cases hd
end

/-! ### list(range(..)), tuple(range(..)) -/
def rgD (a b : Int) : List PyData := (List.range (b - a).toNat).map fun i => .int (a + (i : Nat))
theorem rg_rel {w : World} {K : PySem.W.Frag} {H : Hp} (a b : Int) : RelAll w K H (rgD a b) (rgV a b) := by
  unfold rgD rgV
  induction List.range (b - a).toNat with
  | nil => exact .nil
  | cons i l ih => exact .cons (.int _) ih
abbrev DR := Ts → Gp → (Int → Int → Gp → Prop) → Prop
def upR (w : World) (K : PySem.W.Frag) (t : DR) : L2.St → Hp → (Int → Int → Hp → Prop) → Prop := fun σ H Q => ∃ τ G Q0, Abs w K σ H τ G ∧ t τ G Q0 ∧ ∀ a b G' H', Q0 a b G' → AbsG w K H' G' → Step H G H' G' → Q a b H'
def dR1 (t : DE) : DR := fun τ G Q => t τ G fun x G1 => ∃ n, x = .dat (.int n) ∧ Q 0 n G1
def dR2 (t u : DE) : DR := fun τ G Q => t τ G fun x G1 => u τ G1 fun y G2 => ∃ i j, x = .dat (.int i) ∧ y = .dat (.int j) ∧ Q i j G2
section
variable {X : Cx} {a b e : Expr} {t u : DE} {r : DR} {p pos : Pos}
theorem PRg.imp {t t' : L2.St → Hp → (Int → Int → Hp → Prop) → Prop} (h : PRg X e t) (i : ∀ σ H Q, t' σ H Q → t σ H Q) : PRg X e t' := fun pins s σ H Q I q => h pins s σ H Q I (i σ H Q q)
theorem qr_1 (hm : X.mg "range" = none) (ha : PE X a (upE X.w X.K t)) (hg : Gl X "range" := by rfl) (na : starEach [a] X.env = (false, eval a X.env) :: starEach [] X.env := by rfl) : PRg X (.Call (.Name "range" p) [a] [] pos) (upR X.w X.K (dR1 t)) :=
  PRg.imp (prg_1 hg hm ha na) fun σ H Q ⟨τ, G, Q0, ab, q, hQ⟩ => ⟨τ, G, _, ab, q, fun x G1 v H1 q1 r1 a1 s1 => by
    obtain ⟨n, rfl, q2⟩ := q1
    have r1' : Rel X.w X.K H1 (.int n) v := r1
    cases r1'
    exact ⟨n, rfl, hQ 0 n G1 H1 q2 a1 s1⟩⟩
theorem qr_2 (hm : X.mg "range" = none) (ha : PE X a (upE X.w X.K t)) (hb : PE X b (upE X.w X.K u)) (hg : Gl X "range" := by rfl) (na : starEach [a, b] X.env = (false, eval a X.env) :: starEach [b] X.env := by rfl)
    (nb : starEach [b] X.env = (false, eval b X.env) :: starEach [] X.env := by rfl) (hp : (backTo pos (starEach [b] X.env)).any (·.1) = false := by rfl) : PRg X (.Call (.Name "range" p) [a, b] [] pos) (upR X.w X.K (dR2 t u)) :=
  PRg.imp (prg_2 hg hm ha hb na nb hp) fun σ H Q ⟨τ, G, Q0, ab, q, hQ⟩ => ⟨τ, G, _, ab, q, fun x G1 v H1 q1 r1 a1 s1 => ⟨τ, G1, _, ab.step s1.ext a1, q1, fun y G2 v2 H2 q2 r2 a2 s2 => by
    obtain ⟨i, j, rfl, rfl, q3⟩ := q2
    have r1' : Rel X.w X.K H1 (.int i) v := r1
    have r2' : Rel X.w X.K H2 (.int j) v2 := r2
    cases r1'
    cases r2'
    exact ⟨i, j, rfl, rfl, hQ i j G2 H2 q3 a2 (s1.trans s2)⟩⟩⟩
def dLRg (r : DR) : DA := fun τ G Q => r τ G fun a b G1 => RgOk a b ∧ Q ((rgD a b).map Va.dat) G1
theorem ql_listRg (hc : X.calm = true) (hm : X.mg "list" = none) (he : PRg X e (upR X.w X.K r)) (hg : Gl X "list" := by rfl) (na : starEach [e] X.env = (false, eval e X.env) :: starEach [] X.env := by rfl) : PE X (.Call (.Name "list" p) [e] [] pos) (upL X.w X.K (dLRg r)) :=
  (pe_listRg hc hg hm he na).imp fun σ H Q ⟨τ, G, Q0, ab, q, hQ⟩ => ⟨τ, G, _, ab, q, fun i j G1 H1 q1 a1 s1 => by
    obtain ⟨ok, q2⟩ := q1
    refine ⟨ok, fun p hp => ?_⟩
    have ext : Ext H1 (upd H1 p (.lst (rgV i j))) := (Step.new (G := G1) hp).ext
    refine hQ _ G1 (rgV i j) p _ q2 (rg_rel i j).vas upd_same (by rw [rgV_length, sizeLine_eq]; exact ok.2.2.2.2) (a1.off hp) (a1.new hp) (fun a ob ne ha ga => ?_) (s1.ext.trans ext) fun gp => ?_
    · rw [upd_ne ne]; exact s1.keep a ob ha ga
    · cases q : H p with
      | none => rfl
      | some ob => have := (s1.keep p ob q gp).1; rw [hp] at this; cases this⟩
def dTRg (r : DR) : DE := fun τ G Q => r τ G fun a b G1 => RgOk a b ∧ Q (.dat (.tuple (rgD a b))) G1
theorem q_tupRg (hc : X.calm = true) (hm : X.mg "tuple" = none) (he : PRg X e (upR X.w X.K r)) (hg : Gl X "tuple" := by rfl) (na : starEach [e] X.env = (false, eval e X.env) :: starEach [] X.env := by rfl) : PE X (.Call (.Name "tuple" p) [e] [] pos) (upE X.w X.K (dTRg r)) := by
  refine ⟨fun pins s σ H Q I hw => ?_⟩
  obtain ⟨τ, G, Q0, ab, q, hQ⟩ := hw
  refine Call_ (ld_blt I hg hm boot_tuple (PyProof.Rows.callWith_type1 (args_cons (thn (he pins s σ H (fun a b H' => ∃ G', AbsG X.w X.K H' G' ∧ Step H G H' G' ∧ RgOk a b ∧ Q0 (.dat (.tuple (rgD a b))) G') I ⟨τ, G, _, ab, q, fun a b G' H' q ag st => ⟨G', ag, st, q⟩⟩) fun x s1 ⟨r, a, b, t, u, v, H1, ex, hr, I1, G1, ag, st, ok, q1⟩ => args_nil ?_) na) na))
  subst ex
  obtain ⟨b1, b2, b3, b4, b5⟩ := ok
  refine call_tuple_range (n := (b - a).toNat) (I1.ok.hd hc) hr (small_one b1 b2 b3 b4) (rangeSize_nat a b) b5 fun h' tk acc hk hi => ?_
  have I2 : Inv X pins σ H1 { s1 with heap := h', toks := tk } := I1.kept hk
  obtain ⟨I3, hn, ht⟩ := laidT (tk := tk) I2 (vs := rgV a b) (vals_rg hi) (by rw [rgV_length, sizeLine_eq]; omega)
  rw [Array.toArray_toList] at I3 ht
  exact ⟨.ref h'.objs.size, _, I3, rfl, hQ _ G1 (.ref h'.objs.size) _ q1 (Rel.tup ht (rg_rel a b)) (ag.new hn) (st.trans (Step.new hn))⟩
end
/-! ### products of numbers -/
section
variable {X : Cx}
theorem o_mul : O2 X (binaryOp .Mult) fun d e => match d, e with
    | .int i, .int j => if small i || small j then some (.int (i * j)) else none
    | _, _ => none := by
  intro pins s σ H d e z x y u1 u2 Q I n1 r1 n2 r2 h k
  cases d <;> cases e <;> try (cases h; done)
  dsimp only at h
  split at h
  · cases h
    rename_i hs
    cases now_int n1
    cases now_int n2
    simp only [small, Bool.or_eq_true, decide_eq_true_eq] at hs
    exact use op_mul I r1 r2 ⟨_, _, rfl, rfl, hs, Rel.int _, Same.refl _⟩ k
  · cases h
end
end DL

/-! DLj: freezing; what is walked (data, ranges, enumerate). -/
namespace DL
open PySem PySem.Spec PyProof.Rows L2

/-! ### data from the slots' objects: they are not changed any more -/
def frzV (a : Addr) (d : PyData) : Va → Va
  | .ref b => if b = a then .dat d else .ref b
  | x => x
def frzT (a : Addr) (d : PyData) (τ : Ts) : Ts := τ.map fun o => o.map (frzV a d)
def frzMO (a : Addr) (d : PyData) : MO → MO
  | .lst xs => .lst (xs.map (frzV a d))
  | .dct kvs => .dct (kvs.map fun p => (p.1, frzV a d p.2))
  | .ins C fs => .ins C (fs.map fun p => (p.1, frzV a d p.2))
def frzG (a : Addr) (d : PyData) (G : Gp) : Gp := fun b => if b = a then none else (G b).map (frzMO a d)
theorem RelA.frz {w : World} {K : PySem.W.Frag} {H : Hp} {a : Addr} {d : PyData} (r : Rel w K H d (.ref a)) {x : Va} {v : V} (h : RelA w K H x v) : RelA w K H (frzV a d x) v := by
  cases x with
  | dat e => exact h
  | ref b =>
    have h' : v = .ref b := h
    subst h'
    show RelA w K H (if b = a then .dat d else .ref b) (.ref b)
    by_cases e : b = a
    · rw [if_pos e, e]; exact r
    · rw [if_neg e]; exact rfl
theorem MOk.frz {w : World} {K : PySem.W.Frag} {H : Hp} {a : Addr} {d : PyData} (r : Rel w K H d (.ref a)) {b : Addr} {o : MO} (h : MOk w K H b o) : MOk w K H b (frzMO a d o) := by
  cases o with
  | lst xs =>
    obtain ⟨vs, e, ra⟩ := h
    refine ⟨vs, e, ?_⟩
    clear e
    induction ra with
    | nil => exact .nil
    | cons h t ih => exact .cons (h.frz r) ih
  | dct kvs =>
    obtain ⟨o, es, e1, e2, e3, e4, e5, pr⟩ := h
    refine ⟨o, es, e1, e2, e3, e4, ?_, ?_⟩
    · rw [List.map_map]; exact e5
    · clear e5 e4 e2
      induction pr with
      | nil => exact .nil
      | cons h t ih => exact .cons ⟨h.key, h.hash, let ⟨dv, h1, h2⟩ := h.val; ⟨dv, h1.frz r, h2⟩⟩ ih
  | ins C fs =>
    obtain ⟨dx, gs, e, pr⟩ := h
    refine ⟨dx, gs, e, ?_⟩
    clear e
    induction pr with
    | nil => exact .nil
    | cons h t ih => exact .cons ⟨h.1, h.2.frz r⟩ ih
theorem Ext.lock {H : Hp} {a : Addr} {o : Obj} {u : HO} (h : H a = some u) (hm : Mut (some u)) : Ext H (upd H a (.frz o u)) := by
  refine ⟨fun b xs hb => ?_, fun b o' u' hb => ?_⟩
  · rw [upd_ne (fun e => by rw [e, h] at hb; cases hb; cases hm)]; exact hb
  · rw [upd_ne (fun e => by rw [e, h] at hb; cases hb; cases hm)]; exact hb
section
variable {X : Cx} {pins : List (Addr × Obj)} {σ : L2.St} {H : Hp} {s : Shared}
/-- a told object as it stands is data from here on -/
theorem freezes (I : Inv X pins σ H s) {G : Gp} (A : AbsG X.w X.K H G) {a : Addr} {d : PyData} (h : see G (.ref a) = some d) :
    ∃ o u, Inv X pins σ (upd H a (.frz o u)) s ∧ H a = some u ∧ Mut (some u) ∧ Rel X.w X.K (upd H a (.frz o u)) d (.ref a) := by
  unfold see at h
  dsimp only at h
  cases e : G a with
  | none => rw [e] at h; cases h
  | some o =>
    rw [e] at h
    have m := A a o e
    cases o with
    | ins C fs => cases h
    | lst xs =>
      dsimp only at h
      cases q : seeL xs with
      | none => rw [q] at h; cases h
      | some ds =>
        rw [q] at h
        cases h
        obtain ⟨vs, hv, ra⟩ := m
        obtain ⟨o, I2⟩ := freeze I hv
        refine ⟨o, _, I2, hv, True.intro, Rel.lst upd_same ?_⟩
        rw [seeL_some q] at ra
        exact RelAll.ext (Ext.lock hv True.intro) ra.dats
    | dct kvs =>
      dsimp only at h
      cases q : seeKV kvs with
      | none => rw [q] at h; cases h
      | some ds =>
        rw [q] at h
        cases h
        obtain ⟨o, es, e1, e2, e3, e4, e5, pr⟩ := m
        obtain ⟨od, I2⟩ := I.lock e1 True.intro
        have k1 := (show ObjOk X.prog X.w _ s.heap a _ from I2.hok a _ upd_same)
        have k0 : s.heap.get? a = some o := (show ObjOk X.prog X.w H s.heap a (.ext (exactly a o)) from I.hok a _ e1).1
        have eo : od = o := by have := k1.1; rw [k0] at this; exact (Option.some.inj this).symm
        subst eo
        refine ⟨_, _, I2, e1, True.intro, ?_⟩
        rw [seeKV_some q] at pr e5
        rw [List.map_map] at e5
        exact Rel.dct upd_same e2 e3 e4 e5 (RelKV.ext (Ext.lock e1 True.intro) (RelKV.of_ents pr))
theorem AbsG.frz {w : World} {K : PySem.W.Frag} {H : Hp} {G : Gp} (A : AbsG w K H G) {a : Addr} {d : PyData} {o : Obj} {u : HO} (hu : H a = some u) (hm : Mut (some u)) (r : Rel w K (upd H a (.frz o u)) d (.ref a)) : AbsG w K (upd H a (.frz o u)) (frzG a d G) := fun b m g => by
  unfold frzG at g
  split at g
  · cases g
  · rename_i ne
    cases q : G b with
    | none => rw [q] at g; cases g
    | some m' =>
      rw [q] at g
      cases g
      exact ((A b m' q).keep (Ext.lock hu hm) (upd_ne ne)).frz r
theorem Abs.frz {w : World} {K : PySem.W.Frag} {σ : L2.St} {H : Hp} {τ : Ts} {G : Gp} (A : Abs w K σ H τ G) {a : Addr} {d : PyData} {o : Obj} {u : HO} (hu : H a = some u) (hm : Mut (some u)) (r : Rel w K (upd H a (.frz o u)) d (.ref a)) : Abs w K σ (upd H a (.frz o u)) (frzT a d τ) (frzG a d G) := by
  refine ⟨by unfold frzT; rw [List.length_map]; exact A.len, fun j y e => ?_, A.obj.frz hu hm r⟩
  unfold frzT at e
  rw [List.getElem?_map] at e
  cases q : τ[j]? with
  | none => rw [q] at e; cases e
  | some o =>
    rw [q] at e
    cases o with
    | none => cases e
    | some y' =>
      cases e
      obtain ⟨v, h1, h2⟩ := A.slot j y' q
      exact ⟨v, h1, (h2.ext (Ext.lock hu hm)).frz r⟩
theorem Step.frz {H : Hp} {G : Gp} {a : Addr} {d : PyData} {o : Obj} {u : HO} (hg : G a ≠ none) (hu : H a = some u) (hm : Mut (some u)) : Step H G (upd H a (.frz o u)) (frzG a d G) := by
  refine ⟨fun b ob hb g => ?_, Ext.lock hu hm⟩
  have ne : b ≠ a := fun e => hg (e ▸ g)
  refine ⟨by rw [upd_ne ne]; exact hb, ?_⟩
  unfold frzG
  rw [if_neg ne, g]; rfl
end
/-- some told objects have become data -/
inductive Frozen : Ts → Gp → Ts → Gp → Prop
  | refl {τ : Ts} {G : Gp} : Frozen τ G τ G
  | step {τ : Ts} {G : Gp} {τ' : Ts} {G' : Gp} (a : Addr) (d : PyData) : see G (.ref a) = some d → Frozen (frzT a d τ) (frzG a d G) τ' G' → Frozen τ G τ' G'
theorem see_told {G : Gp} {a : Addr} {d : PyData} (h : see G (.ref a) = some d) : G a ≠ none := fun e => by
  unfold see at h
  dsimp only at h
  rw [e] at h; cases h
theorem Frozen.run {X : Cx} {pins : List (Addr × Obj)} {σ : L2.St} {s : Shared} {τ : Ts} {G : Gp} {τ' : Ts} {G' : Gp} (f : Frozen τ G τ' G') : ∀ {H : Hp}, Inv X pins σ H s → Abs X.w X.K σ H τ G → ∃ H', Inv X pins σ H' s ∧ Abs X.w X.K σ H' τ' G' ∧ Step H G H' G' := by
  induction f with
  | refl => exact fun I A => ⟨_, I, A, .refl⟩
  | step a d hs _ ih =>
    intro H I A
    obtain ⟨o, u, I2, hu, hm, r⟩ := freezes I A.obj hs
    obtain ⟨H', I3, A3, s3⟩ := ih I2 (A.frz hu hm r)
    exact ⟨H', I3, A3, (Step.frz (see_told hs) hu hm).trans s3⟩
/-- ahead of a statement some objects become data -/
def dFz (t : DS) : DS := fun D τ G => ∃ τ' G', Frozen τ G τ' G' ∧ t D τ' G'
theorem qs_fz {X : Cx} {st : Stmt} {t : DS} (h : PS X st (upS X.w X.K t)) : PS X st (upS X.w X.K (dFz t)) := by
  refine ⟨fun pins s σ H D I hw => ?_⟩
  obtain ⟨τ, G, D0, ab, ⟨τ', G', f, q⟩, U⟩ := hw
  obtain ⟨H', I', A', st'⟩ := f.run I ab
  exact h.run pins s σ H' D I' ⟨τ', G', D0, A', q, U.step st'⟩
/-- a is told no more -/
def gdel (G : Gp) (a : Addr) : Gp := fun b => if b = a then none else G b
/-- .. what an expression has given -/
def dFzE (t : DE) : DE := fun τ G Q => t τ G fun x G1 => ∃ a d, x = .ref a ∧ see G1 x = some d ∧ Q (.dat d) (gdel G1 a)
theorem q_fz {X : Cx} {e : Expr} {t : DE} (h : PE X e (upE X.w X.K t)) : PE X e (upE X.w X.K (dFzE t)) := by
  refine ⟨fun pins s σ H Q I hw => ?_⟩
  obtain ⟨τ, G, Q0, ab, q, hQ⟩ := hw
  refine thn (h.run pins s σ H (fun v H' => ∃ x G', RelA X.w X.K H' x v ∧ AbsG X.w X.K H' G' ∧ Step H G H' G' ∧ ∃ a d, x = .ref a ∧ see G' x = some d ∧ Q0 (.dat d) (gdel G' a)) I ⟨τ, G, _, ab, q, fun x G' v H' q r a st => ⟨x, G', r, a, st, q⟩⟩) fun u s' ⟨v, H', I', rv, x, G', rx, ag, st, a, d, ex, hs, q1⟩ => ?_
  subst ex
  have ev : v = .ref a := rx
  subst ev
  obtain ⟨o, uu, I2, hu, hm, r⟩ := freezes I' ag hs
  refine ⟨.ref a, _, I2, rv, hQ (.dat d) _ (.ref a) _ q1 r (fun b m g => ?_) (st.trans ⟨fun b ob hb g => ?_, Ext.lock hu hm⟩)⟩
  · unfold gdel at g
    split at g
    · cases g
    · rename_i ne
      exact (ag b m g).keep (Ext.lock hu hm) (upd_ne ne)
  · have ne : b ≠ a := fun e => see_told hs (e ▸ g)
    refine ⟨by rw [upd_ne ne]; exact hb, ?_⟩
    unfold gdel
    rw [if_neg ne]; exact g
end DL

/-! DLk: what is walked: data, ranges, enumerate. -/
namespace DL
open PySem PySem.Spec PyProof.Rows L2

theorem _root_.L2.PI.imp {X : Cx} {tg e : Expr} {t t' : TI} (h : PI X tg e t) (i : ∀ σ H R, t' σ H R → t σ H R) : PI X tg e t' := ⟨fun pins s σ H R I q => h.run pins s σ H R I (i σ H R q)⟩

/-! ### the keys of a dict that nobody changes -/
def Itq (d : Addr) (o : Obj) (ks : List V) : It :=
  ⟨fun i H => (∃ u, H d = some (.frz o u)) ∧ i < ks.length, fun i H x H' => H' = H ∧ ks[i]? = some x, fun i H => (∃ u, H d = some (.frz o u)) ∧ ks.length ≤ i⟩
theorem vals_at {vs : List V} {us : List Value} (r : Vals vs us) {i : Nat} (h : i < vs.length) : ∃ v u, vs[i]? = some v ∧ us[i]? = some u ∧ RelV v u := by
  obtain ⟨u, h1, h2⟩ := r.get (List.getElem?_eq_getElem h)
  exact ⟨_, u, List.getElem?_eq_getElem h, h1, h2⟩
theorem turn_key {P : Program} {w : World} {K : PySem.W.Frag} {tg : Expr} {d : Addr} {o : Obj} {es : Array DictEntry} {ep : Nat} {ks : List V} (it : Addr) (hx : o.ExactDict) (hod : o.data = .dict es ep) (hk : Vals ks (es.toList.map (·.key))) :
    Turn P w K tg (Itq d o ks) [it] it (fun i h => h.IsKeyIter it d i es.size ep) where
  mem := by simp
  obj := fun i h st b hb => by
    have e : b = it := by simpa using hb
    subst e
    obtain ⟨oi, e, c, dd⟩ := st
    exact ⟨oi, e, fun v z => by rw [dd] at z; cases z⟩
  keep := fun i h h' st k => st.at fun oi e => k it (by simp) oi e
  item := by
    intro X hP hw hK hc i pins s σ H E I hf st hg
    subst hP hw hK
    obtain ⟨⟨u, hd⟩, hi⟩ := hg
    obtain ⟨f0, f1, f2, f3, f4, f5⟩ := hf it (by simp)
    have hgd : s.heap.get? d = some o := (I.hok d _ hd).1
    have hl := hk.length
    simp only [List.length_map, Array.length_toList] at hl
    have hi' : i < es.size := by omega
    obtain ⟨v, uu, h1, h2, rv⟩ := vals_at hk hi
    rw [List.getElem?_map, Array.getElem?_toList, Array.getElem?_eq_getElem hi'] at h2
    have h2' : es[i].key = uu := Option.some.inj h2
    refine wpAny_pyNext_keys_item_raw st ⟨o, hgd, hx, hod⟩ hi' fun h' st' sb => ?_
    have I1 : Inv X pins σ H { s with heap := h' } := I.turned (t' := s.toks) (fun b ob hb e => (sb.2 b hb).trans e) f0 f1 f3 f4 f5
    obtain ⟨oi, e, c, dd⟩ := id st'
    exact ⟨_, rfl, go_of (s := { s with heap := h' }) e c dd (by decide) ⟨v, H, I1, by rw [h2']; exact rv, ⟨rfl, h1⟩, st', fun b hb => (hf b hb).1⟩⟩
  done := by
    intro X hP hw hK hc i pins s σ H E I hf st hg
    subst hP hw hK
    obtain ⟨⟨u, hd⟩, hi⟩ := hg
    obtain ⟨f0, f1, f2, f3, f4, f5⟩ := hf it (by simp)
    have hgd : s.heap.get? d = some o := (I.hok d _ hd).1
    have hl := hk.length
    simp only [List.length_map, Array.length_toList] at hl
    exact wpAny_pyNext_keys_end_raw (I.ok.hd hc) st ⟨o, hgd, hx, hod⟩ (by omega) fun h' eb => ⟨rfl, I.turned (t' := s.toks) (fun b ob hb e => eb b ob hb e) f0 f1 f3 f4 f5⟩
  self := fun A i s Q E st h => by
    refine wpAny_pyIter_slot st.typeIs F.slot_dict_keyiterator_iter (wpAny_call_entry F.slot_dict_keyiterator_iter st.typeIs F.entry_dict_keyiterator_iter ?_ (F.args_dict_keyiterator_iter_1 _))
    show wpAny _ _ (ret (.ref it)) _ _ s
    exact wpAny_pure ⟨_, rfl, "dict_keyiterator", _, st.typeIs, F.slot_dict_keyiterator_next.lookup, h⟩
theorem walk_key {d : Addr} {o : Obj} {ks : List V} : Walk (Itq d o ks) ks.length (fun H => ∃ u, H d = some (.frz o u)) (YAt ks) :=
  ⟨fun _ _ hi q => ⟨q, hi⟩, fun _ q => ⟨q, Nat.le_refl _⟩, fun _ _ _ _ _ _ y => y⟩

/-! ### sources -/
theorem src_of {w : World} {K : PySem.W.Frag} {J : It} {H : Hp} {ds : List PyData} {vs : List V} {S : Hp → Prop} (wk : Walk J vs.length S (YAt vs)) (hS : ∀ H', Ext H H' → S H') (r : RelAll w K H ds vs) (hz : vs.length ≤ sizeLine) : IsSrc w K J H (ds.map Va.dat) := by
  have hl := RelAll.length r
  refine ⟨by rw [List.length_map]; omega, S, YAt vs, ?_, hS, fun i H' x H'' hi e y => ?_⟩
  · rw [List.length_map, hl]; exact wk
  · obtain ⟨rfl, hy⟩ := y
    obtain ⟨d, h1, h2⟩ := RelAll.getV r hy
    exact ⟨Same.refl _, .dat d, by rw [List.getElem?_map, h1]; rfl, Rel.ext e h2⟩
theorem relkv_keys {w : World} {K : PySem.W.Frag} {H : Hp} : ∀ {kvs : List (PyData × PyData)} {es : List DictEntry}, RelKV w K H kvs es → ∃ ks, Vals ks (es.map (·.key)) ∧ RelAll w K H (kvs.map (·.1)) ks
  | [], _, r => by cases r; exact ⟨[], .nil, .nil⟩
  | p :: kvs, _, r => by
    cases r with
    | cons h1 h2 h3 h4 h5 h6 t =>
      obtain ⟨ks, a, b⟩ := relkv_keys t
      exact ⟨_ :: ks, .cons h2 a, .cons h1 b⟩
theorem relkv_vals {w : World} {K : PySem.W.Frag} {H : Hp} : ∀ {kvs : List (PyData × PyData)} {es : List DictEntry}, RelKV w K H kvs es → ∃ ks, Vals ks (es.map (·.val)) ∧ RelAll w K H (kvs.map (·.2)) ks
  | [], _, r => by cases r; exact ⟨[], .nil, .nil⟩
  | p :: kvs, _, r => by
    cases r with
    | cons h1 h2 h3 h4 h5 h6 t =>
      obtain ⟨ks, a, b⟩ := relkv_vals t
      exact ⟨_ :: ks, .cons h6 a, .cons h5 b⟩
theorem iter_data {X : Cx} {tg : Expr} {pins : List (Addr × Obj)} {σ : L2.St} {H : Hp} {s : Shared} {R : It → Hp → Prop} {d : PyData} {ds : List PyData} {v : V} {u : Value} {E : Value → Shared → Prop} (I : Inv X pins σ H s) (r : Rel X.w X.K H d v) (rv : RelV v u) (hd : itemsD d = some ds) (hz : ds.length ≤ sizeLine)
    (k : ∀ J, IsSrc X.w X.K J H (ds.map Va.dat) → R J H) : wpAny (model X.prog X.w) X.A (pyIter u) (PIE X pins σ tg R) E s := by
  cases r with
  | tup ht ra =>
    cases hd
    cases rv
    have hl := RelAll.length ra
    obtain ⟨its, rr, p, hz'⟩ := I.tuple ht.sq
    refine wpAny_pyIter_tuple (show s.heap.IsTuple _ its.toArray from p) (pi_one (tk := s.toks) I _ (turn_tuple _ _) ⟨_, Heap.get?_push_size _ rfl, rfl, rfl⟩ (k _ ?_))
    exact src_of walk_tup (fun H' e => e.sqT ht.sq) ra (by omega)
  | lst ht ra =>
    cases hd
    cases rv
    have hl := RelAll.length ra
    have hs : SqL X.K H _ _ := .inl (.inr ⟨_, ht⟩)
    obtain ⟨its, rr, p, hz'⟩ := I.list hs
    refine wpAny_pyIter_list p.isList (pi_one (tk := s.toks) I _ (turn_list _ _) ⟨_, Heap.get?_push_size _ rfl, rfl, rfl⟩ (k _ ?_))
    exact src_of walk_list (fun H' e => .inl (.inr ⟨_, e.frzs _ _ _ ht⟩)) ra (by omega)
  | dct h1 h2 h3 h4 h5 h6 =>
    cases hd
    cases rv
    obtain ⟨ar, ep, hx, hdt, he⟩ := h2
    have ho := (I.hok _ _ h1).1
    subst he
    obtain ⟨ks, hk, ra⟩ := relkv_keys h6
    have hl := RelAll.length ra
    rw [List.length_map] at hl
    refine iter_keys (beq_eq_false_iff_ne.mpr h3) ho hx hdt (pi_one (tk := s.toks) I _ (turn_key _ hx hdt hk) ⟨_, Heap.get?_push_size _ rfl, rfl, rfl⟩ (k _ ?_))
    exact src_of walk_key (fun H' e => ⟨_, e.frzs _ _ _ h1⟩) ra (by rw [List.length_map] at hz; omega)
  | str x =>
    cases hd
    obtain ⟨t, rfl⟩ := rv
    rw [List.length_map, Array.length_toList] at hz
    have src : IsSrc X.w X.K (Its x) H ((x.cps.toList.map fun c => PyData.str ⟨#[c]⟩).map Va.dat) := by
      refine ⟨by rw [List.length_map, List.length_map, Array.length_toList]; exact hz, fun _ => True, (fun i H v H' => H' = H ∧ ∃ c, x.cps[i]? = some c ∧ v = V.str ⟨#[c]⟩), ?_, fun _ _ => True.intro, fun i H' v H'' hi e y => ?_⟩
      · rw [List.length_map, List.length_map, Array.length_toList]; exact walk_str
      · obtain ⟨rfl, c, hc, rfl⟩ := y
        refine ⟨Same.refl _, .dat (.str ⟨#[c]⟩), ?_, Rel.str _⟩
        rw [List.getElem?_map, List.getElem?_map, Array.getElem?_toList, hc]; rfl
    cases ha : x.cps.all (· < 128)
    · exact wpAny_pyIter_wide ha (pi_one (tk := s.toks) I _ (turn_str _ x t "str_iterator" (.inr rfl)) ⟨_, Heap.get?_push_size _ rfl, rfl, rfl⟩ (k _ src))
    · exact wpAny_pyIter_ascii ha (pi_one (tk := s.toks) I _ (turn_str _ x t "str_ascii_iterator" (.inl rfl)) ⟨_, Heap.get?_push_size _ rfl, rfl, rfl⟩ (k _ src))
  | _ => cases hd
section
variable {X : Cx} {tg e : Expr} {t u : DE} {pos p : Pos}
/-- for x in data -/
def dIt (t : DE) : DI := fun τ G R => t τ G fun x G1 => ∃ d ds, x = .dat d ∧ itemsD d = some ds ∧ ds.length ≤ sizeLine ∧ R (ds.map Va.dat) G1
theorem qi_data (h : PE X e (upE X.w X.K t)) : PI X tg e (upI X.w X.K (dIt t)) := by
  refine ⟨fun pins s σ H R I hw => ?_⟩
  obtain ⟨τ, G, Q0, ab, q, hQ⟩ := hw
  refine thn (h.run pins s σ H (fun v H' => ∃ d ds G', Rel X.w X.K H' d v ∧ AbsG X.w X.K H' G' ∧ Step H G H' G' ∧ itemsD d = some ds ∧ ds.length ≤ sizeLine ∧ Q0 (ds.map Va.dat) G') I ⟨τ, G, _, ab, q, fun x G' v H' q r a st => ?_⟩) fun u s' ⟨v, H', I', rv, d, ds, G', r, ag, st, h1, h2, h3⟩ => ?_
  · obtain ⟨d, ds, rfl, h1, h2, h3⟩ := q
    exact ⟨d, ds, G', r, a, st, h1, h2, h3⟩
  · exact iter_data I' r rv h1 h2 fun J is => hQ _ G' J H' h3 ag st is
/-- for i in range(..) -/
def dIRg1 (t : DE) : DI := fun τ G R => t τ G fun x G1 => ∃ n, x = .dat (.int n) ∧ -(2 ^ 62) ≤ n ∧ n < 2 ^ 62 ∧ n.toNat ≤ sizeLine ∧ R ((rgD 0 n).map Va.dat) G1
def dIRg2 (t u : DE) : DI := fun τ G R => t τ G fun x G1 => u τ G1 fun y G2 => ∃ i j, x = .dat (.int i) ∧ y = .dat (.int j) ∧ (-(2 ^ 62) ≤ i ∧ i < 2 ^ 62 ∧ -(2 ^ 62) ≤ j ∧ j < 2 ^ 62) ∧ (j - i).toNat ≤ sizeLine ∧ R ((rgD i j).map Va.dat) G2
theorem src_rg {w : World} {K : PySem.W.Frag} {H : Hp} {i j : Int} (hz : (j - i).toNat ≤ sizeLine) : IsSrc w K (Itr i (j - i).toNat) H ((rgD i j).map Va.dat) := by
  have hl : ((rgD i j).map Va.dat).length = (j - i).toNat := by unfold rgD; simp
  refine ⟨by rw [hl]; exact hz, fun _ => True, (YFn fun k => .int (i + k)), ?_, fun _ _ => True.intro, fun k H' v H'' hk e y => ?_⟩
  · rw [hl]; exact walk_range
  · obtain ⟨rfl, rfl⟩ := y
    rw [hl] at hk
    refine ⟨Same.refl _, .dat (.int (i + k)), ?_, Rel.int _⟩
    unfold rgD
    rw [List.getElem?_map, List.getElem?_map, List.getElem?_range hk]; rfl
theorem qi_rg1 {a : Expr} (hm : X.mg "range" = none) (ha : PE X a (upE X.w X.K t)) (hg : Gl X "range" := by rfl) (hs : starEach [a] X.env = [(false, eval a X.env)] := by rfl) : PI X tg (.Call (.Name "range" p) [a] [] pos) (upI X.w X.K (dIRg1 t)) :=
  (pi_range1 hg hm (pa_cons ha pa_nil (by rw [hs]; rfl)) hs).imp fun σ H R ⟨τ, G, Q0, ab, q, hQ⟩ => ⟨τ, G, _, ab, q, fun x G1 v H1 q1 r1 a1 s1 => by
    obtain ⟨n, rfl, h1, h2, h3, h4⟩ := q1
    have r1' : Rel X.w X.K H1 (.int n) v := r1
    cases r1'
    have := hQ _ G1 (Itr 0 (n - 0).toNat) H1 h4 a1 s1 (src_rg (by simpa using h3))
    exact ⟨n, rfl, h1, h2, by simpa using this⟩⟩
theorem qi_rg2 {a b : Expr} (hm : X.mg "range" = none) (ha : PE X a (upE X.w X.K t)) (hb : PE X b (upE X.w X.K u)) (hg : Gl X "range" := by rfl) (hs : starEach [a, b] X.env = [(false, eval a X.env), (false, eval b X.env)] := by rfl) (hs2 : starEach [b] X.env = [(false, eval b X.env)] := by rfl) :
    PI X tg (.Call (.Name "range" p) [a, b] [] pos) (upI X.w X.K (dIRg2 t u)) :=
  (pi_range2 hg hm (pa_cons ha (pa_cons hb pa_nil (by rw [hs2]; rfl)) (by rw [hs, hs2])) hs hs2).imp fun σ H R ⟨τ, G, Q0, ab, q, hQ⟩ => ⟨τ, G, _, ab, q, fun x G1 v H1 q1 r1 a1 s1 => ⟨τ, G1, _, ab.step s1.ext a1, q1, fun y G2 v2 H2 q2 r2 a2 s2 => by
    obtain ⟨i, j, rfl, rfl, h1, h2, h3⟩ := q2
    have r1' : Rel X.w X.K H1 (.int i) v := r1
    have r2' : Rel X.w X.K H2 (.int j) v2 := r2
    cases r1'
    cases r2'
    exact ⟨i, j, rfl, h1, hQ _ G2 _ H2 h3 a2 (s1.trans s2) (src_rg h2)⟩⟩⟩
end
end DL

/-! DLl: enumerate over data. -/
namespace DL
open PySem PySem.Spec PyProof.Rows L2

theorem meets_enum1 {v : Value} {o : Obj} {H : Heap → Prop} (B : Begins v o H) :
    Meets (Builtin.«enumerate.__new__» ⟨[.type "enumerate", v], []⟩) (fun _ R s => H s.heap ∧
      R (.ok (.ret (.ref (s.heap.push o).objs.size))) { s with heap := (s.heap.push o).push { cls := .type "enumerate", data := .fields #[.none, .bool false, .ref s.heap.objs.size, rawInt 0, .none, .none] } }) :=
  .of_wp fun prog w A R s h => by
    obtain ⟨hp, g, d, tk, os⟩ := s; obtain ⟨h1, h⟩ := h
    have hsub := sub_enumerate
    have q1 : ∀ {A' : Around} {E : Value → Shared → Prop} {Q : Value → Shared → Prop}, Q (.ref hp.objs.size) ⟨hp.push o, g, d, tk, os⟩ → wpAny (model prog w) A' (pyIter v) Q E ⟨hp, g, d, tk, os⟩ :=
      fun q => B.iter prog w _ _ ⟨hp, g, d, tk, os⟩ _ h1 q
    wp_walk using q1
    refine wpAny_stack_any fun st => wpAny_pure ?_
    split
    · rename_i c _ _ _ _ _
      cases (c == Value.type "enumerate")
      · wp_walk using q1
        exact ⟨_, rfl, h⟩
      · wp_walk using q1
        exact ⟨_, rfl, h⟩
    · wp_walk using q1
      exact ⟨_, rfl, h⟩
theorem enum_begins1 {prog : Program} {w : World} {A : Around} {E : Value → Shared → Prop} {s : Shared} {v : Value} {o : Obj} {H : Heap → Prop} {Q : Value → Shared → Prop} (B : Begins v o H) (h1 : H s.heap)
    (h : ∀ h', IsEnum h' (s.heap.objs.size + 1) s.heap.objs.size 0 .none → h'.get? s.heap.objs.size = some o → h'.objs.size = s.heap.objs.size + 2 →
      (∀ b o, s.heap.get? b = some o → h'.get? b = some o) → Q (.ref (s.heap.objs.size + 1)) { s with heap := h' }) :
    wpAny (model prog w) A (call (.type "enumerate") [v]) Q E s := by
  refine callType_new F.called_enumerate (by decide) (F.typeCall_enumerate_1 _) (F.newCall_enumerate_1 _) (fun obj => F.args_object_init_2 obj _) F.entry_enumerate_new (meets_enum1 B) ⟨h1, ?_⟩
  have hz : (s.heap.push o).objs.size = s.heap.objs.size + 1 := Heap.size_push ..
  show _ ∧ _
  rw [hz]
  have he : IsEnum ((s.heap.push o).push { cls := .type "enumerate", data := .fields #[.none, .bool false, .ref s.heap.objs.size, rawInt 0, .none, .none] }) (s.heap.objs.size + 1) s.heap.objs.size 0 .none := by
    have := Heap.get?_push_size (s.heap.push o) (o := { cls := .type "enumerate", data := .fields #[.none, .bool false, .ref s.heap.objs.size, rawInt 0, .none, .none] }) rfl
    rw [hz] at this; exact this
  refine ⟨⟨_, he, rfl⟩, h _ he (Heap.get?_push_of_some _ (Heap.get?_push_size _ B.free)) (by rw [Heap.size_push, hz]) fun b o x => Heap.get?_push_of_some _ (Heap.get?_push_of_some _ x)⟩

/-- the items xs while S stands, each in a new pair -/
def Itn (S : Hp → Prop) (xs : List V) : It :=
  ⟨fun i H => S H ∧ i < xs.length, fun i H v H' => ∃ T x o, v = .ref T ∧ H T = none ∧ o.dict = none ∧ H' = upd H T (.frz o (.tup [.int (i : Nat), x])) ∧ xs[i]? = some x, fun i H => S H ∧ i = xs.length⟩
/-- what is drawn for enumerate -/
structure EnS (P : Program) (w : World) (K : PySem.W.Frag) (a it : Addr) (xs : List V) (S : Hp → Prop) (St : Nat → Heap → Prop) : Prop where
  live : ∀ i h, St i h → ∃ o, h.get? it = some o ∧ ∀ v, o.data ≠ .cell v
  keep : ∀ i h h', St i h → (∀ o, h.get? it = some o → h'.get? it = some o) → St i h'
  dr : ∀ (X : Cx), X.prog = P → X.w = w → X.K = K → X.calm = true → ∀ (pins : List (Addr × Obj)) (s : Shared) (σ : L2.St) (H : Hp), Inv X pins σ H s → S H → ∀ (i : Nat) (old : Value) (e : Addr) (c : Int), St i s.heap → IsEnum s.heap e it c old → e ≠ it →
    ∃ (its : List Value) (St' : Nat → Heap → Prop), Vals xs its ∧ Draws P w X.A.in1 it [it, a] its.toArray.size (fun i v => its.toArray[i]? = some v) St' ∧ St' i s.heap ∧ (∀ i h, St' i h → St i h) ∧ e ∉ [it, a]
theorem ens_tup {P : Program} {w : World} {K : PySem.W.Frag} {a it : Addr} {xs : List V} : EnS P w K a it xs (fun H => SqT K H a xs) (fun i h => h.IsTupleIter it a i) where
  live := fun i h ⟨o, ho, hc, hd⟩ => ⟨o, ho, fun v q => by rw [hd] at q; cases q⟩
  keep := fun i h h' st k => st.at k
  dr := by
    intro X hP hw hK hc pins s σ H I hq i old e c hit he hne
    subst hP hw hK
    obtain ⟨its, rv, p, hz⟩ := I.tuple hq
    have p' : s.heap.IsTuple a its.toArray := p
    have n1 : a ≠ it := fun z => by
      obtain ⟨o, ho, hc, _⟩ := p'
      obtain ⟨o2, ho2, hc2, _⟩ := hit
      rw [z, ho2] at ho; cases ho
      rw [hc2] at hc; exact absurd hc (by simp)
    have n2 : e ≠ a := fun z => by
      obtain ⟨o, ho, hc, _⟩ := p'
      rw [← z, (show s.heap.get? e = some _ from he)] at ho; cases ho
      exact absurd hc (by simp)
    exact ⟨its, fun i h => h.IsTupleIter it a i ∧ h.IsTuple a its.toArray, rv, Draws.tuple (A := X.A.in1) (I.ok.hd hc) it a n1 its.toArray, ⟨hit, p'⟩, fun _ _ q => q.1, by simp [hne, n2]⟩
theorem ens_list {P : Program} {w : World} {K : PySem.W.Frag} {a it : Addr} {xs : List V} : EnS P w K a it xs (fun H => SqL K H a xs) (fun i h => h.IsListIter it a i) where
  live := fun i h ⟨o, ho, hc, hd⟩ => ⟨o, ho, fun v q => by rw [hd] at q; cases q⟩
  keep := fun i h h' st k => st.at k
  dr := by
    intro X hP hw hK hc pins s σ H I hq i old e c hit he hne
    subst hP hw hK
    obtain ⟨its, rv, pl, hz⟩ := I.list hq
    have p' := pl.isList
    have n1 : a ≠ it := fun z => by
      obtain ⟨o, ho, hc, _⟩ := p'
      obtain ⟨o2, ho2, hc2, _⟩ := hit
      rw [z, ho2] at ho; cases ho
      rw [hc2] at hc; exact absurd hc (by simp)
    have n2 : e ≠ a := fun z => by
      obtain ⟨o, ho, hc, _⟩ := p'
      rw [← z, (show s.heap.get? e = some _ from he)] at ho; cases ho
      exact absurd hc (by simp)
    exact ⟨its, fun i h => h.IsListIter it a i ∧ h.IsList a its.toArray, rv, Draws.list (A := X.A.in1) (I.ok.hd hc) it a n1 its.toArray, ⟨hit, p'⟩, fun _ _ q => q.1, by simp [hne, n2]⟩
theorem turn_en {P : Program} {w : World} {K : PySem.W.Frag} {elts : List Expr} {kk : Nat} {tpos : Pos} {a : Addr} {xs : List V} {S : Hp → Prop} {St : Nat → Heap → Prop} {e it : Addr} (E : EnS P w K a it xs S St) :
    Turn P w K (.Tuple elts kk tpos) (Itn S xs) [e, it] e (fun i h => (∃ old, IsEnum h e it ((i : Nat) : Int) old) ∧ St i h ∧ e ≠ it) where
  mem := by simp
  obj := fun i h st b hb => by
    obtain ⟨⟨old, he⟩, hs, _⟩ := st
    have e' : b = e ∨ b = it := by simpa using hb
    rcases e' with z | z
    · rw [z]; exact ⟨_, he, fun v q => nomatch q⟩
    · rw [z]; exact E.live i h hs
  keep := fun i h h' st k => let ⟨⟨old, he⟩, hi, hne⟩ := st; ⟨⟨old, k e (by simp) _ he⟩, E.keep i h h' hi fun o q => k it (by simp) o q, hne⟩
  item := by
    intro X hP hw hK hc i pins s σ H Ex I hf st hg
    obtain ⟨⟨old, he⟩, hit, hne⟩ := st
    obtain ⟨hq, hi⟩ := hg
    obtain ⟨its, St', rv, D, hst0, hsub, hno⟩ := E.dr X hP hw hK hc pins s σ H I hq i old e i hit he hne
    subst hP hw hK
    obtain ⟨v, u, h1, h2, ru⟩ := vals_at rv hi
    have hel : e < s.heap.objs.size := Heap.lt_size he
    have hil : it < s.heap.objs.size := by obtain ⟨_, q, _⟩ := E.live _ _ hit; exact Heap.lt_size q
    have hl := rv.length
    refine wpAny_pyNext_enum_itemD D he hst0 (by rw [List.size_toArray]; omega) hne hno fun x h' tk hx ho hst hT hsz hk => ?_
    have hx' : its[i]? = some x := by simpa using hx
    rw [h2] at hx'
    cases hx'
    refine ⟨_, rfl, wpAny_letOwnedTupleGo_enum (s := { s with heap := h', toks := tk + 1 }) ho fun h'' he' sb => ?_⟩
    have hT2 : h''.get? s.heap.objs.size = some { cls := .type "tuple", data := .seq #[.int i tk, u] } := (sb.2 _ (Nat.ne_of_gt hel)).trans hT
    have new : ObjOk X.prog X.w (upd H s.heap.objs.size (.frz { cls := .type "tuple", data := .seq #[.int i tk, u] } (.tup [.int (i : Nat), v]))) h'' s.heap.objs.size (.frz { cls := .type "tuple", data := .seq #[.int i tk, u] } (.tup [.int (i : Nat), v])) :=
      ⟨hT2, by show 2 ≤ sizeLine; decide, [.int i tk, u], .cons ⟨_, rfl⟩ (.cons ru .nil), ⟨_, hT2, rfl, _, rfl⟩⟩
    have I1 := I.turnedNew (t' := tk + 1) (ch := [e, it]) (fun b ob hb q => (sb.2 b (fun z => hb (by simp [z]))).trans (hk b ob (fun z => hb (by simp [z])) (fun z => hb (by simp [z])) q)) hf (Nat.le_refl _) new
    refine ⟨.ref s.heap.objs.size, _, I1, rfl, ⟨_, v, _, rfl, I.hok.fresh (Nat.le_refl _), rfl, rfl, h1⟩, ⟨⟨u, ?_⟩, E.keep _ _ _ (hsub _ _ hst) fun o q => (sb.2 it (Ne.symm hne)).trans q, hne⟩, fun b hb => ?_⟩
    · have e1 : ((i + 1 : Nat) : Int) = (i : Int) + 1 := by omega
      rw [e1]; exact he'
    · have hb' : b < s.heap.objs.size := by
        have e' : b = e ∨ b = it := by simpa using hb
        rcases e' with z | z
        · rw [z]; exact hel
        · rw [z]; exact hil
      rw [upd_ne (Nat.ne_of_lt hb')]
      exact (hf b hb).1
  done := by
    intro X hP hw hK hc i pins s σ H Ex I hf st hg
    obtain ⟨⟨old, he⟩, hit, hne⟩ := st
    obtain ⟨hq, hi⟩ := hg
    obtain ⟨its, St', rv, D, hst0, hsub, hno⟩ := E.dr X hP hw hK hc pins s σ H I hq i old e i hit he hne
    subst hP hw hK
    obtain ⟨f0, f1, f2, f3, f4, f5⟩ := hf it (by simp)
    have hl := rv.length
    have ei : i = its.toArray.size := by rw [List.size_toArray]; omega
    exact wpAny_pyNext_enum_endD D he (ei ▸ hst0) fun h' eb => ⟨rfl, I.turned (t' := s.toks) (fun b o hb q => eb b o hb q) f0 f1 f3 f4 f5⟩
  self := fun A i s Q E st h => let ⟨⟨_, he⟩, _⟩ := st; wpAny_pyIter_enum he h

/-- for i, x in enumerate(data) -/
def enumD (ds : List PyData) : List PyData := ds.zipIdx.map fun p => .tuple [.int (p.2 : Nat), p.1]
def dEn (t : DE) : DI := fun τ G R => t τ G fun x G1 => ∃ d ds, x = .dat d ∧ (d = .tuple ds ∨ d = .list ds) ∧ R ((enumD ds).map Va.dat) G1
theorem enum_at {ds : List PyData} {i : Nat} {d : PyData} (h : ds[i]? = some d) : ((enumD ds).map Va.dat)[i]? = some (.dat (.tuple [.int (i : Nat), d])) := by
  unfold enumD
  rw [List.getElem?_map, List.getElem?_map, List.getElem?_zipIdx, h]
  simp
theorem src_en {w : World} {K : PySem.W.Frag} {H : Hp} {ds : List PyData} {vs : List V} {S : Hp → Prop} (hS : ∀ H', Ext H H' → S H') (r : RelAll w K H ds vs) (hz : vs.length ≤ sizeLine) : IsSrc w K (Itn S vs) H ((enumD ds).map Va.dat) := by
  have hl := RelAll.length r
  have hle : ((enumD ds).map Va.dat).length = vs.length := by unfold enumD; rw [List.length_map, List.length_map, List.length_zipIdx, hl]
  refine ⟨by rw [hle]; exact hz, S, fun i H v H' => ∃ T x o, v = .ref T ∧ H T = none ∧ o.dict = none ∧ H' = upd H T (.frz o (.tup [.int (i : Nat), x])) ∧ vs[i]? = some x, by rw [hle]; exact ⟨fun _ _ hi q => ⟨q, hi⟩, fun _ q => ⟨q, rfl⟩, fun i H v H' _ _ y => y⟩, hS, fun i H' x H'' hi e y => ?_⟩
  obtain ⟨T, q, o, rfl, hT, ho, rfl, hq⟩ := y
  obtain ⟨d, h1, h2⟩ := RelAll.getV r hq
  refine ⟨Same.new hT, _, enum_at h1, Rel.tup (.inl ⟨o, upd_same, ho⟩) (.cons (.int _) (.cons ?_ .nil))⟩
  exact Rel.ext (e.trans (Step.new (G := fun _ => none) hT).ext) h2
theorem qi_enum {X : Cx} {e : Expr} {t : DE} {p pos tpos : Pos} {elts : List Expr} {kk : Nat} (hm : X.mg "enumerate" = none) (h : PE X e (upE X.w X.K t)) (hg : Gl X "enumerate" := by rfl) (hs : starEach [e] X.env = [(false, eval e X.env)] := by rfl) :
    PI X (.Tuple elts kk tpos) (.Call (.Name "enumerate" p) [e] [] pos) (upI X.w X.K (dEn t)) := by
  refine ⟨fun pins s σ H R I hw => ?_⟩
  obtain ⟨τ, G, Q0, ab, q, hQ⟩ := hw
  have ha : PA X [e] (upA X.w X.K (dCons t dNil)) := qa_cons h qa_nil (by rw [hs]; rfl)
  refine Call_ (ld_blt I hg hm boot_enumerate (PyProof.Rows.callWith_type1 (thn (ha.run pos pins s σ H (fun vs H' => ∃ v d ds G', vs = [v] ∧ Rel X.w X.K H' d v ∧ AbsG X.w X.K H' G' ∧ Step H G H' G' ∧ (d = .tuple ds ∨ d = .list ds) ∧ Q0 ((enumD ds).map Va.dat) G') I
    ⟨τ, G, fun xs G' => match xs with
      | [x] => ∃ d ds, x = .dat d ∧ (d = .tuple ds ∨ d = .list ds) ∧ Q0 ((enumD ds).map Va.dat) G'
      | _ => False, ab, q, ?_⟩) fun us s1 ⟨vs, H1, I1, r1, v, d, ds, G', ev, r, ag, st, hd, q1⟩ => ?_) hs rfl))
  · intro xs G' vs H' q1 r1 a1 s1
    cases r1 with
    | nil => exact q1.elim
    | cons h t =>
      cases t with
      | cons => exact q1.elim
      | nil =>
        obtain ⟨d, ds, rfl, hd, q2⟩ := q1
        exact ⟨_, d, ds, G', rfl, h, a1, s1, hd, q2⟩
  · subst ev
    cases r1 with
    | cons rv rr =>
      cases rr
      rcases hd with rfl | rfl
      · cases r with
        | tup ht ra =>
          cases rv
          have hl := RelAll.length ra
          obtain ⟨its, rr, p, hz'⟩ := I1.tuple ht.sq
          have hzv : _ ≤ sizeLine := hz'
          refine enum_begins1 (begins_tuple _ its.toArray) (show s1.heap.IsTuple _ its.toArray from p) fun h' he hit hsz hk => wpAny_pyIter_enum he ?_
          have I2 : Inv X pins σ H1 { s1 with heap := h' } := I1.kept (t' := s1.toks) hk
          refine ⟨s1.heap.objs.size + 1, [s1.heap.objs.size + 1, s1.heap.objs.size], _, _, H1, rfl, I2, turn_en ens_tup, ⟨⟨.none, he⟩, ⟨_, hit, rfl, rfl⟩, Nat.succ_ne_self _⟩, fun b hb => ?_, hQ _ G' _ H1 q1 ag st (src_en (fun H' e => e.sqT ht.sq) ra (by omega))⟩
          have e' : b = s1.heap.objs.size + 1 ∨ b = s1.heap.objs.size := by simpa using hb
          have hle : s1.heap.objs.size ≤ b := by rcases e' with z | z <;> rw [z] <;> first | exact Nat.le_add_right _ _ | exact Nat.le_refl _
          exact I1.fpOk hle (I1.hok.fresh hle)
      · cases r with
        | lst ht ra =>
          cases rv
          have hl := RelAll.length ra
          have hsl : SqL X.K H1 _ _ := .inl (.inr ⟨_, ht⟩)
          obtain ⟨its, rr, p', hz'⟩ := I1.list hsl
          refine call_enumerate_list p'.isList fun h' he hit hsz hk => wpAny_pyIter_enum he ?_
          have I2 : Inv X pins σ H1 { s1 with heap := h' } := I1.kept (t' := s1.toks) hk
          refine ⟨s1.heap.objs.size + 1, [s1.heap.objs.size + 1, s1.heap.objs.size], _, _, H1, rfl, I2, turn_en ens_list, ⟨⟨.none, he⟩, hit, Nat.succ_ne_self _⟩, fun b hb => ?_, hQ _ G' _ H1 q1 ag st (src_en (fun H' e => .inl (.inr ⟨_, e.frzs _ _ _ ht⟩)) ra (by omega))⟩
          have e' : b = s1.heap.objs.size + 1 ∨ b = s1.heap.objs.size := by simpa using hb
          have hle : s1.heap.objs.size ≤ b := by rcases e' with z | z <;> rw [z] <;> first | exact Nat.le_add_right _ _ | exact Nat.le_refl _
          exact I1.fpOk hle (I1.hok.fresh hle)
end DL

/-! DLm: targets, name = [..], methods of lists, o[i] = v. -/
namespace DL
open PySem PySem.Spec PyProof.Rows L2

/-! ### (a, b) = a tuple -/
abbrev DGs := List Va → Ts → Gp → (Ts → Gp → Prop) → Prop
def upGs (w : World) (K : PySem.W.Frag) (t : DGs) : TGs := fun vs σ H Q => ∃ xs τ G Q0, RelAs w K H xs vs ∧ Abs w K σ H τ G ∧ t xs τ G Q0 ∧ ∀ τ' G' σ' H', Q0 τ' G' → Abs w K σ' H' τ' G' → Step H G H' G' → Q σ' H'
def upGsw (w : World) (K : PySem.W.Frag) (us : List Nat) (t : DGs) : TGs := fun vs σ H Q => ∃ xs τ G Q0, RelAs w K H xs vs ∧ Abs w K σ H τ G ∧ t xs τ G Q0 ∧ ∀ τ' G' σ' H', Q0 τ' G' → Abs w K σ' H' τ' G' → Step H G H' G' → L2.wipe σ' us = L2.wipe σ us → Q σ' H'
def gsNil : DGs := fun xs τ G Q => xs = [] ∧ Q τ G
def gsCons (g : DG) (gs : DGs) : DGs := fun xs τ G Q => ∃ x r, xs = x :: r ∧ g x τ G fun τ1 G1 => gs r τ1 G1 Q
def gTp (n : Nat) (gs : DGs) : DG := fun x τ G Q => ∃ ds, x = .dat (.tuple ds) ∧ ds.length = n ∧ gs (ds.map Va.dat) τ G Q
section
variable {X : Cx} {e : Expr} {es : List Expr} {g : DG} {gs : DGs} {us : List Nat} {pos : Pos}
theorem _root_.L2.PGs.imp {t t' : TGs} (h : PGs X es t) (i : ∀ v σ H Q, t' v σ H Q → t v σ H Q) : PGs X es t' := ⟨fun pins s σ H v u Q I r q => h.run pins s σ H v u Q I r (i v σ H Q q)⟩
theorem qgs_nil : PGs X [] (upGs X.w X.K gsNil) := PGs.imp pgs_nil fun vs σ H Q ⟨xs, τ, G, Q0, r, ab, ⟨e, q⟩, hQ⟩ => by
  subst e
  cases r
  exact ⟨rfl, hQ τ G σ H q ab .refl⟩
theorem qgsw_nil : PGs X [] (upGsw X.w X.K us gsNil) := PGs.imp pgs_nil fun vs σ H Q ⟨xs, τ, G, Q0, r, ab, ⟨e, q⟩, hQ⟩ => by
  subst e
  cases r
  exact ⟨rfl, hQ τ G σ H q ab .refl rfl⟩
theorem qgs_cons (h1 : PG X e (upG X.w X.K g)) (h2 : PGs X es (upGs X.w X.K gs)) (hs : (assignEach (e :: es) X.env).map (·.2) = assign e X.env :: (assignEach es X.env).map (·.2) := by rfl) : PGs X (e :: es) (upGs X.w X.K (gsCons g gs)) :=
  PGs.imp (pgs_cons h1 h2 hs) fun vs σ H Q ⟨xs, τ, G, Q0, r, ab, ⟨x, xr, e, q⟩, hQ⟩ => by
    subst e
    cases r with
    | cons rx rr =>
      exact ⟨_, _, rfl, x, τ, G, _, rx, ab, q, fun τ1 G1 σ1 H1 q1 a1 s1 => ⟨xr, τ1, G1, _, RelAs.ext s1.ext rr, a1, q1, fun τ2 G2 σ2 H2 q2 a2 s2 => hQ τ2 G2 σ2 H2 q2 a2 (s1.trans s2)⟩⟩
theorem qgsw_cons (h1 : PG X e (upGw X.w X.K us g)) (h2 : PGs X es (upGsw X.w X.K us gs)) (hs : (assignEach (e :: es) X.env).map (·.2) = assign e X.env :: (assignEach es X.env).map (·.2) := by rfl) : PGs X (e :: es) (upGsw X.w X.K us (gsCons g gs)) :=
  PGs.imp (pgs_cons h1 h2 hs) fun vs σ H Q ⟨xs, τ, G, Q0, r, ab, ⟨x, xr, e, q⟩, hQ⟩ => by
    subst e
    cases r with
    | cons rx rr =>
      exact ⟨_, _, rfl, x, τ, G, _, rx, ab, q, fun τ1 G1 σ1 H1 q1 a1 s1 e1 => ⟨xr, τ1, G1, _, RelAs.ext s1.ext rr, a1, q1, fun τ2 G2 σ2 H2 q2 a2 s2 e2 => hQ τ2 G2 σ2 H2 q2 a2 (s1.trans s2) (e2.trans e1)⟩⟩
theorem qg_tup {k n : Nat} (hc : X.calm = true) (h : PGs X es (upGs X.w X.K gs)) (hn : (assignEach es X.env).length = n := by rfl) (hst : (assignEach es X.env).findIdx? (·.1) = none := by rfl) : PG X (.Tuple es k pos) (upG X.w X.K (gTp n gs)) :=
  PG.imp (pg_tup hc h hn hst) fun v σ H Q ⟨x, τ, G, Q0, r, ab, ⟨ds, e, hl, q⟩, hQ⟩ => by
    subst e
    have r' : Rel X.w X.K H (.tuple ds) v := r
    cases r' with
    | tup ht ra => exact ⟨_, _, rfl, ht.sq, by rw [← RelAll.length ra]; exact hl, _, τ, G, Q0, ra.vas, ab, q, hQ⟩
theorem qgw_tup {k n : Nat} (hc : X.calm = true) (h : PGs X es (upGsw X.w X.K us gs)) (hn : (assignEach es X.env).length = n := by rfl) (hst : (assignEach es X.env).findIdx? (·.1) = none := by rfl) : PG X (.Tuple es k pos) (upGw X.w X.K us (gTp n gs)) :=
  PG.imp (pg_tup hc h hn hst) fun v σ H Q ⟨x, τ, G, Q0, r, ab, ⟨ds, e, hl, q⟩, hQ⟩ => by
    subst e
    have r' : Rel X.w X.K H (.tuple ds) v := r
    cases r' with
    | tup ht ra => exact ⟨_, _, rfl, ht.sq, by rw [← RelAll.length ra]; exact hl, _, τ, G, Q0, ra.vas, ab, q, hQ⟩
/-- a, b = x, y -/
def dPar (i j : Nat) (ta : DA) : DS := fun D τ G => ta τ G fun xs G1 => ∃ x y, xs = [x, y] ∧ D.nx ((τ.set i (some x)).set j (some y)) G1
theorem qs_par {i j : Nat} {x y : Str} {a b : Expr} {ta : DA} {px py pt : Pos} {kt k2 pt2} (hc : X.calm = true) (hN : X.N.Nodup) (ha : PA X [a, b] (upA X.w X.K ta)) (hi : X.N[i]? = some x := by rfl) (hj : X.N[j]? = some y := by rfl) (hij : i ≠ j := by decide)
    (hx : X.env.scope.names.lookup x = some .local := by rfl) (hy : X.env.scope.names.lookup y = some .local := by rfl)
    (hw : swappedStores [.Tuple [.Name x px, .Name y py] kt pt] (.Tuple [a, b] k2 pt2) X.env = pure (some [x, y]) := by rfl)
    (hs : swapsWithSole [.Tuple [.Name x px, .Name y py] kt pt] (.Tuple [a, b] k2 pt2) pos.line X.env = pure false := by rfl) :
    PS X (.Assign [.Tuple [.Name x px, .Name y py] kt pt] (.Tuple [a, b] k2 pt2) pos) (upS X.w X.K (dPar i j ta)) :=
  (ps_par hc hN hi hj hij hx hy ha hw hs).imp fun D σ H ⟨τ, G, D0, ab, q, U⟩ => ⟨τ, G, _, ab, q, fun xs G1 vs H1 q1 r1 a1 s1 => by
    obtain ⟨x, y, rfl, q2⟩ := q1
    cases r1 with
    | cons rx rr =>
      cases rr with
      | cons ry rr =>
        cases rr
        exact ⟨_, _, rfl, U.nx _ G1 _ H1 q2 (((ab.step s1.ext a1).set rx i).set ry j) s1⟩⟩
end

/-! ### name = [..] on one line -/
section
variable {X : Cx}
theorem setLc_imp {w : World} {K : PySem.W.Frag} {src : DI} {g : DG} {tt : DT} {te : DE} {vs : List Nat} {i : Nat} {D : Ends} {σ : L2.St} {H : Hp} (h : upS w K (dSet i (dMut (dLc0 src g tt te vs))) D σ H) : tAsg (tLc (upI w K src) (upGw w K vs g) (upT w K tt) (upE w K te) vs) (gName i) D σ H := by
  obtain ⟨τ, G, D0, ab, q, U⟩ := h
  refine lc_imp ⟨τ, G, _, ab, q, fun xs G' vs p H' q1 r1 hp _ gp a1 kp ex fr => ?_⟩
  have ag : AbsG w K H' (gup G' p (.lst xs)) := fun a m ga => by
    by_cases e : a = p
    · subst e
      rw [gup_same] at ga; cases ga
      exact ⟨vs, hp, r1⟩
    · rw [gup_ne e] at ga
      exact a1 a m ga
  refine U.nx _ _ _ H' (q1 p gp) ((ab.step ex ag).set (x := .ref p) rfl i) ⟨fun a o ha ga => ?_, ex⟩
  have ne : a ≠ p := fun e => by
    subst e
    rw [fr ga] at ha; cases ha
  rw [gup_ne ne]
  exact kp a o ne ha ga
theorem qs_setLcM {i : Nat} {y : Str} {py : Pos} {elt tg iter : Expr} {ifs : List Expr} {scope : Scope} {own : List (Str × Nat)} {pos spos : Pos} {src : DI} {g : DG} {tt : DT} {te : DE} (hc : X.calm = true) (hN : X.N.Nodup)
    (hi : PI X tg iter (upI X.w X.K src)) (ok : BlkOk X.N X.env.scope scope own)
    (hg : ∀ (s : Shared) (H : Hp) (C : Addr) (cl : List (Str × Addr)) (fp : List Addr), PG (X.blk s H scope (compEnvC scope cl C X.env) fp) tg (upGw X.w X.K (own.map (·.2)) g)) (ht : ∀ (s : Shared) (H : Hp) (C : Addr) (cl : List (Str × Addr)) (fp : List Addr), PTs (X.blk s H scope (compEnvC scope cl C X.env) fp) ifs (upT X.w X.K tt))
    (he : ∀ (s : Shared) (H : Hp) (C : Addr) (cl : List (Str × Addr)) (fp : List Addr), PE (X.blk s H scope (compEnvC scope cl C X.env) fp) elt (upE X.w X.K te)) (hy : X.N[i]? = some y := by rfl) (hyl : X.env.scope.names.lookup y = some .local := by rfl)
    (hsw : swapsWith (.ListComp elt [⟨tg, iter, ifs, 0⟩] scope pos) (some (.Name y py)) spos.line X.env = pure true := by rfl) (hs : ∀ x, foldedSetIterable iter X.env x = pure x := by intro _; rfl) :
    PS X (.Assign [.Name y py] (.ListComp elt [⟨tg, iter, ifs, 0⟩] scope pos) spos) (upS X.w X.K (dSet i (dMut (dLc0 src g tt te (own.map (·.2)))))) := (ps_setLc hc hN hy hyl hsw hi ok hg ht he hs).imp fun D σ H h => setLc_imp h
theorem qs_setLcP {i : Nat} {y : Str} {py : Pos} {elt tg iter : Expr} {ifs : List Expr} {scope : Scope} {own : List (Str × Nat)} {pos spos : Pos} {src : DI} {g : DG} {tt : DT} {te : DE} (hc : X.calm = true) (hN : X.N.Nodup)
    (hi : PI X tg iter (upI X.w X.K src)) (ok : BlkOk X.N X.env.scope scope own)
    (hg : ∀ (s : Shared) (H : Hp) (C : Addr) (cl : List (Str × Addr)) (fp : List Addr), PG (X.blk s H scope (compEnvC scope cl C X.env) fp) tg (upGw X.w X.K (own.map (·.2)) g)) (ht : ∀ (s : Shared) (H : Hp) (C : Addr) (cl : List (Str × Addr)) (fp : List Addr), PTs (X.blk s H scope (compEnvC scope cl C X.env) fp) ifs (upT X.w X.K tt))
    (he : ∀ (s : Shared) (H : Hp) (C : Addr) (cl : List (Str × Addr)) (fp : List Addr), PE (X.blk s H scope (compEnvC scope cl C X.env) fp) elt (upE X.w X.K te)) (hy : X.N[i]? = some y := by rfl) (hyl : X.env.scope.names.lookup y = some .local := by rfl)
    (hsw : swapsWith (.ListComp elt [⟨tg, iter, ifs, 0⟩] scope pos) (some (.Name y py)) spos.line X.env = pure true := by rfl) (hs : ∀ x, foldedSetIterable iter X.env x = pure x := by intro _; rfl) :
    PS X (.Assign [.Name y py] (.ListComp elt [⟨tg, iter, ifs, 0⟩] scope pos) spos) (upS X.w X.K (dSet i (dPure (dLc0 src g tt te (own.map (·.2)))))) := by
  refine ⟨fun pins s σ H D I hw => ?_⟩
  obtain ⟨τ, G, D0, ab, q, U⟩ := hw
  let D' : Ends := { D with nx := fun σ' H' => ∃ xs G' vs p, σ' = σ.set i (some (.ref p)) ∧ (∃ ds, seeL xs = some ds ∧ D0.nx (τ.set i (some (.dat (.list ds)))) G') ∧ RelAs X.w X.K H' xs vs ∧ H' p = some (.lst vs) ∧ G' p = none ∧ AbsG X.w X.K H' G' ∧ (∀ a o, a ≠ p → H a = some o → G a = none → H' a = some o ∧ G' a = none) ∧ Ext H H' ∧ (G p = none → H p = none) }
  refine thn ((ps_setLc hc hN hy hyl hsw hi ok hg ht he hs).run pins s σ H D' I (lc_imp ⟨τ, G, _, ab, q, fun xs G' vs p H' q1 r1 hp _ gp a1 kp ex fr => ⟨xs, G', vs, p, rfl, q1, r1, hp, gp, a1, kp, ex, fr⟩⟩)) fun f s1 qf => ?_
  cases f with
  | next =>
    obtain ⟨σ', H', I', xs, G', vs, p, eσ, ⟨ds, e1, q1⟩, ra, hp, gp, ag, kp, ex, fr⟩ := qf
    subst eσ
    obtain ⟨o, I2⟩ := freeze I' hp
    have exF : Ext H' (upd H' p (.frz o (.lst vs))) := Ext.lock hp True.intro
    have rl : Rel X.w X.K (upd H' p (.frz o (.lst vs))) (.list ds) (.ref p) := by
      rw [seeL_some e1] at ra
      exact Rel.lst upd_same (RelAll.ext exF ra.dats)
    have ag2 : AbsG X.w X.K (upd H' p (.frz o (.lst vs))) G' := fun a m ga => by
      have ne : a ≠ p := fun e => by rw [e, gp] at ga; cases ga
      exact (ag a m ga).keep exF (upd_ne ne)
    refine ⟨_, _, I2, U.nx _ G' _ _ q1 ((ab.step (ex.trans exF) ag2).set (x := .dat (.list ds)) rl i) ⟨fun a ob ha ga => ?_, ex.trans exF⟩⟩
    have ne : a ≠ p := fun e => by
      subst e
      rw [fr ga] at ha; cases ha
    rw [upd_ne ne]
    exact kp a ob ne ha ga
  | cont => exact qf
  | brk => exact qf
  | ret v => exact qf
end
end DL

/-! DLn: methods, o[i] = v. -/
namespace DL
open PySem PySem.Spec PyProof.Rows L2

/-! ### o.m(..) -/
/-- what a method does: the thing, what is handed in -/
abbrev DMt := Va → List Va → Gp → VQ → Prop
def rMt (w : World) (K : PySem.W.Frag) (m : DMt) : V → List V → Hp → VK → Prop := fun v vs H Q => ∃ x ys G Q0, RelA w K H x v ∧ RelAs w K H ys vs ∧ AbsG w K H G ∧ m x ys G Q0 ∧ upQ w K H G Q0 Q
/-- what tells the type of a thing -/
def TyOk (X : Cx) (T : String) (ty : Gp → Va → Prop) : Prop :=
  ∀ (pins : List (Addr × Obj)) (s : Shared) (σ : L2.St) (H : Hp) (G : Gp) (x : Va) (v : V) (u : Value), Inv X pins σ H s → AbsG X.w X.K H G → RelA X.w X.K H x v → RelV v u → ty G x → s.TypeIs u T ∧ ∀ a, u = .ref a → ∃ ob, s.heap.get? a = some ob ∧ ob.dict = none
def dMt (ty : Gp → Va → Prop) (m : DMt) (to : DE) (ta : DA) : DE := fun τ G Q => to τ G fun x G1 => ty G1 x ∧ ta τ G1 fun ys G2 => m x ys G2 Q
def dMt0 (ty : Gp → Va → Prop) (m : DMt) (to : DE) : DE := fun τ G Q => to τ G fun x G1 => ty G1 x ∧ m x [] G1 Q
section
variable {X : Cx} {o e : Expr} {es : List Expr} {to : DE} {ta : DA} {m : DMt} {name : Str} {id T : String} {apos cpos : Pos} {ty : Gp → Va → Prop}
theorem q_mt0 (pa : PlainAttrs T) (slot : Slot T name id) (hty : typeOf (.builtin id) = pure (.type "method_descriptor")) (ht : TyOk X T ty) (hm : MtR X id (rMt X.w X.K m)) (ho : PE X o (upE X.w X.K to))
    (hbase : attributeBase o name X.env (eval o X.env) = eval o X.env := by rfl) (hline : (apos.endLine == cpos.line) = true := by rfl) : PE X (.Call (.Attribute o name apos) [] [] cpos) (upE X.w X.K (dMt0 ty m to)) := by
  refine ⟨fun pins s σ H Q I h => ?_⟩
  obtain ⟨τ, G, Q0, ab, q, hQ⟩ := h
  refine wpAny_Call_method0_late hbase hline (thn (ho.run pins s σ H (fun v H' => ∃ x G1, RelA X.w X.K H' x v ∧ AbsG X.w X.K H' G1 ∧ Step H G H' G1 ∧ ty G1 x ∧ m x [] G1 Q0) I ⟨τ, G, _, ab, q, fun x G1 v H1 q1 r1 a1 s1 => ⟨x, G1, r1, a1, s1, q1⟩⟩) fun u s1 ⟨v, H1, I1, rv, x, G1, rx, ag, st, t1, q1⟩ => ?_)
  obtain ⟨h1, h2⟩ := ht pins s1 σ H1 G1 x v u I1 ag rx rv t1
  exact ⟨T, id, pa, slot, hty, h1, h2, Calls.callWith_builtin rfl (PySem.evalArgs_none (hm pins s1 σ H1 v [] u [] Q I1 rv .nil ⟨x, [], G1, Q0, rx, .nil, ag, q1, hQ.step st⟩))⟩
theorem q_mt (pa : PlainAttrs T) (slot : Slot T name id) (hty : typeOf (.builtin id) = pure (.type "method_descriptor")) (ht : TyOk X T ty) (hm : MtR X id (rMt X.w X.K m)) (ho : PE X o (upE X.w X.K to)) (ha : PA X (e :: es) (upA X.w X.K ta))
    (hbase : attributeBase o name X.env (eval o X.env) = eval o X.env := by rfl)
    (hfew : ((backTo cpos (starEach (e :: es) X.env)).all (fun x => !x.1) && (backToKw cpos (keywordEach [] X.env)).all (fun x => x.1.isSome)
      && decide ((e :: es).length + ([] : List Keyword).length + (if ([] : List Keyword).isEmpty then 0 else 1) < 30)) = true := by rfl)
    (hline : (apos.endLine == cpos.line) = true := by rfl) (hs : starEach (e :: es) X.env = (false, eval e X.env) :: starEach es X.env := by rfl) (hplain : (backTo cpos (starEach es X.env)).any (·.1) = false := by rfl) :
    PE X (.Call (.Attribute o name apos) (e :: es) [] cpos) (upE X.w X.K (dMt ty m to ta)) := by
  refine ⟨fun pins s σ H Q I h => ?_⟩
  obtain ⟨τ, G, Q0, ab, q, hQ⟩ := h
  refine wpAny_Call_method_late hbase hfew hline rfl (thn (ho.run pins s σ H (fun v H' => ∃ x G1, RelA X.w X.K H' x v ∧ AbsG X.w X.K H' G1 ∧ Step H G H' G1 ∧ ty G1 x ∧ ta τ G1 fun ys G2 => m x ys G2 Q0) I ⟨τ, G, _, ab, q, fun x G1 v H1 q1 r1 a1 s1 => ⟨x, G1, r1, a1, s1, q1⟩⟩) fun u s1 ⟨v, H1, I1, rv, x, G1, rx, ag, st, t1, q1⟩ => ?_)
  obtain ⟨h1, h2⟩ := ht pins s1 σ H1 G1 x v u I1 ag rx rv t1
  refine ⟨T, id, pa, slot, hty, h1, h2, ?_⟩
  have hA := ha.run cpos pins s1 σ H1 (fun vs H' => ∃ ys G2, RelAs X.w X.K H' ys vs ∧ AbsG X.w X.K H' G2 ∧ Step H1 G1 H' G2 ∧ m x ys G2 Q0) I1 ⟨τ, G1, _, ab.step st.ext ag, q1, fun ys G2 vs H2 q2 r2 a2 s2 => ⟨ys, G2, r2, a2, s2, q2⟩⟩
  rw [hs] at hA ⊢
  refine Calls.callWith_builtin (by show (false || (backTo cpos (starEach es X.env)).any (·.1)) = false; rw [hplain] <;> rfl) (Calls.evalArgs_plain ?_)
  exact thn hA fun us s2 ⟨vs, H2, I2, r2, ys, G2, ra, a2, s2', q2⟩ => hm pins s2 σ H2 v vs u us Q I2 rv r2 ⟨x, ys, G2, Q0, rx.ext s2'.ext, ra, a2, q2, hQ.step (st.trans s2')⟩
end

/-! ### the types -/
def tyL (G : Gp) (x : Va) : Prop := (∃ ds, x = .dat (.list ds)) ∨ ∃ a xs, x = .ref a ∧ G a = some (.lst xs)
def tyT (_ : Gp) (x : Va) : Prop := ∃ ds, x = .dat (.tuple ds)
def tyS (_ : Gp) (x : Va) : Prop := ∃ z, x = .dat (.str z)
def tyD (G : Gp) (x : Va) : Prop := (∃ kvs, x = .dat (.dict kvs)) ∨ ∃ a kvs, x = .ref a ∧ G a = some (.dct kvs)
section
variable {X : Cx}
theorem ty_list : TyOk X "list" tyL := by
  intro pins s σ H G x v u I A r rv h
  have core : ∀ a vs, SqL X.K H a vs → v = .ref a → s.TypeIs u "list" ∧ ∀ b, u = .ref b → ∃ ob, s.heap.get? b = some ob ∧ ob.dict = none := fun a vs hs e => by
    subst e
    cases rv
    obtain ⟨its, _, pl, _⟩ := I.list hs
    refine ⟨pl.isList.typeIs, fun b e => ?_⟩
    cases e
    obtain ⟨o, n, e, c, hd, _⟩ := pl
    exact ⟨o, e, hd⟩
  rcases h with ⟨ds, rfl⟩ | ⟨a, xs, rfl, g⟩
  · have r' : Rel X.w X.K H (.list ds) v := r
    cases r' with
    | lst h1 h2 => exact core _ _ (.inl (.inr ⟨_, h1⟩)) rfl
  · obtain ⟨vs, hv, _⟩ := A a _ g
    exact core a vs (.inl (.inl hv)) r
theorem ty_tup : TyOk X "tuple" tyT := by
  intro pins s σ H G x v u I A r rv h
  obtain ⟨ds, rfl⟩ := h
  have r' : Rel X.w X.K H (.tuple ds) v := r
  cases r' with
  | tup h1 h2 =>
    cases rv
    rcases h1 with ⟨o, ho, hd⟩ | ⟨o, its, n, hk, hc, hd, _⟩
    · obtain ⟨e, _, us, _, ⟨o2, e2, hc, _⟩⟩ := I.hok _ _ ho
      rw [e] at e2; cases e2
      refine ⟨⟨o, e, hc⟩, fun b eb => ?_⟩
      cases eb
      exact ⟨o, e, hd⟩
    · refine ⟨⟨o, I.kIn _ o hk, hc⟩, fun b eb => ?_⟩
      cases eb
      exact ⟨o, I.kIn _ o hk, hd⟩
theorem ty_str : TyOk X "str" tyS := by
  intro pins s σ H G x v u I A r rv h
  obtain ⟨z, rfl⟩ := h
  have r' : Rel X.w X.K H (.str z) v := r
  cases r'
  obtain ⟨t, rfl⟩ := rv
  exact ⟨typeIs_str s z t, fun _ e => nomatch e⟩
theorem ty_dict : TyOk X "dict" tyD := by
  intro pins s σ H G x v u I A r rv h
  have core : ∀ (a : Addr) (o : Obj) (es : List DictEntry), s.heap.get? a = some o → DObj o es → v = .ref a → s.TypeIs u "dict" ∧ ∀ b, u = .ref b → ∃ ob, s.heap.get? b = some ob ∧ ob.dict = none := fun a o es ho hd e => by
    subst e
    cases rv
    obtain ⟨ar, ep, hx, _⟩ := hd
    refine ⟨⟨o, ho, hx.1⟩, fun b e => ?_⟩
    cases e
    exact ⟨o, ho, hx.2.1⟩
  rcases h with ⟨ds, rfl⟩ | ⟨a, xs, rfl, g⟩
  · have r' : Rel X.w X.K H (.dict ds) v := r
    cases r' with
    | dct h1 h2 => exact core _ _ _ (I.hok _ _ h1).1 h2 rfl
  · obtain ⟨o, es, e1, e2, _⟩ := A a _ g
    exact core a o es (show ObjOk X.prog X.w H s.heap a (.ext (exactly a o)) from I.hok a _ e1).1 e2 r
end

/-! ### methods of lists that may be changed -/
/-- the list, what is handed in, the answer, the list behind it -/
abbrev LM := List Va → List Va → Va → List Va → Prop
def mLM (m : LM) : DMt := fun x ys G Q => ∃ a xs r xs', x = .ref a ∧ G a = some (.lst xs) ∧ m xs ys r xs' ∧ Q r (gup G a (.lst xs'))
def mAppend : LM := fun xs ys r xs' => ∃ y, ys = [y] ∧ xs.length < sizeLine ∧ r = .dat .none ∧ xs' = xs ++ [y]
def mPop : LM := fun xs ys r xs' => ys = [] ∧ xs[xs.length - 1]? = some r ∧ xs' = xs.dropLast
def mPopAt : LM := fun xs ys r xs' => ∃ i k, ys = [.dat (.int i)] ∧ -(2 ^ 63) ≤ i ∧ i < 2 ^ 63 ∧ seqIndex? i xs.length = some k ∧ xs[k]? = some r ∧ xs' = xs.eraseIdx k
def mClear : LM := fun _ ys r xs' => ys = [] ∧ r = .dat .none ∧ xs' = []
theorem relAs_append {w : World} {K : PySem.W.Frag} {H : Hp} : ∀ {xs ys : List Va} {vs us : List V}, RelAs w K H xs vs → RelAs w K H ys us → RelAs w K H (xs ++ ys) (vs ++ us)
  | _, _, _, _, .nil, s => s
  | _, _, _, _, .cons r t, s => .cons r (relAs_append t s)
theorem relAs_erase {w : World} {K : PySem.W.Frag} {H : Hp} : ∀ {xs : List Va} {vs : List V} (i : Nat), RelAs w K H xs vs → RelAs w K H (xs.eraseIdx i) (vs.eraseIdx i)
  | _, _, _, .nil => .nil
  | _, _, 0, .cons r t => t
  | _, _, i + 1, .cons r t => .cons r (relAs_erase i t)
theorem relAs_get {w : World} {K : PySem.W.Frag} {H : Hp} {xs : List Va} {vs : List V} {j : Nat} {z : Va} (r : RelAs w K H xs vs) (e : xs[j]? = some z) : ∃ v, vs[j]? = some v ∧ RelA w K H z v := by
  induction r generalizing j with
  | nil => simp at e
  | cons h t ih =>
    cases j with
    | zero => cases (Option.some.inj (by simpa using e) : _ = _); exact ⟨_, rfl, h⟩
    | succ j => obtain ⟨v, h1, h2⟩ := ih (j := j) (by simpa using e); exact ⟨v, by simpa using h1, h2⟩
theorem relAs_set {w : World} {K : PySem.W.Frag} {H : Hp} {x : Va} {v : V} (rx : RelA w K H x v) : ∀ {xs : List Va} {vs : List V} (i : Nat), RelAs w K H xs vs → RelAs w K H (xs.set i x) (vs.set i v)
  | _, _, _, .nil => .nil
  | _, _, 0, .cons r t => .cons rx t
  | _, _, i + 1, .cons r t => .cons r (relAs_set rx i t)
theorem relAs_dropLast {w : World} {K : PySem.W.Frag} {H : Hp} {xs : List Va} {vs : List V} (r : RelAs w K H xs vs) : RelAs w K H xs.dropLast vs.dropLast := by
  induction r with
  | nil => exact .nil
  | cons h t ih =>
    cases t with
    | nil => exact .nil
    | cons q t' => exact .cons h ih
/-- a told list is written -/
theorem put_list {w : World} {K : PySem.W.Frag} {H : Hp} {G : Gp} (A : AbsG w K H G) {a : Addr} {xs ys : List Va} {vs us : List V} (g : G a = some (.lst xs)) (hv : H a = some (.lst vs)) (r : RelAs w K H ys us) :
    AbsG w K (upd H a (.lst us)) (gup G a (.lst ys)) ∧ Step H G (upd H a (.lst us)) (gup G a (.lst ys)) := by
  have st : Step H G (upd H a (.lst us)) (gup G a (.lst ys)) := Step.put g hv True.intro
  exact ⟨A.put g ⟨us, upd_same, RelAs.ext st.ext r⟩, st⟩
section
variable {X : Cx}
theorem m_append : MtR X "list.append" (rMt X.w X.K (mLM mAppend)) := by
  intro pins s σ H v vs u us Q I rv rus h
  obtain ⟨x, ys, G, Q0, rx, ra, ag, ⟨a, xs, r, xs', rfl, g, ⟨y, rfl, hz, rfl, rfl⟩, q⟩, hQ⟩ := h
  have ev : v = .ref a := rx
  subst ev
  cases ra with
  | cons ry rr =>
    cases rr
    obtain ⟨vs, hv, rl⟩ := ag a _ g
    obtain ⟨ag2, st⟩ := put_list ag g hv (relAs_append rl (.cons ry .nil))
    exact mt_append pins s σ H _ _ u us Q I rv rus ⟨a, vs, _, rfl, rfl, hv, by rw [← Paired.len rl]; exact hz, hQ _ _ .non _ q Rel.non ag2 st⟩
theorem m_pop : MtR X "list.pop" (rMt X.w X.K (mLM mPop)) := by
  intro pins s σ H v vs u us Q I rv rus h
  obtain ⟨x, ys, G, Q0, rx, ra, ag, ⟨a, xs, r, xs', rfl, g, ⟨rfl, hy, rfl⟩, q⟩, hQ⟩ := h
  have ev : v = .ref a := rx
  subst ev
  cases ra
  obtain ⟨vs, hv, rl⟩ := ag a _ g
  obtain ⟨y, h1, h2⟩ := relAs_get rl hy
  obtain ⟨ag2, st⟩ := put_list ag g hv (relAs_dropLast rl)
  exact mt_pop pins s σ H _ _ u us Q I rv rus ⟨a, vs, y, rfl, rfl, hv, by rw [← Paired.len rl]; exact h1, hQ _ _ _ _ q (h2.ext st.ext) ag2 st⟩
theorem m_popAt : MtR X "list.pop" (rMt X.w X.K (mLM mPopAt)) := by
  intro pins s σ H v vs u us Q I rv rus h
  obtain ⟨x, ys, G, Q0, rx, ra, ag, ⟨a, xs, r, xs', rfl, g, ⟨i, k, rfl, h1, h2, h3, hy, rfl⟩, q⟩, hQ⟩ := h
  have ev : v = .ref a := rx
  subst ev
  cases ra with
  | cons ry rr =>
    cases rr
    have ry' : Rel X.w X.K H (.int i) _ := ry
    cases ry'
    obtain ⟨vs, hv, rl⟩ := ag a _ g
    obtain ⟨y, e1, e2⟩ := relAs_get rl hy
    obtain ⟨ag2, st⟩ := put_list ag g hv (relAs_erase k rl)
    exact mt_popAt pins s σ H _ _ u us Q I rv rus ⟨a, vs, i, k, y, rfl, rfl, hv, h1, h2, by rw [← Paired.len rl]; exact h3, e1, hQ _ _ _ _ q (e2.ext st.ext) ag2 st⟩
theorem m_clear : MtR X "list.clear" (rMt X.w X.K (mLM mClear)) := by
  intro pins s σ H v vs u us Q I rv rus h
  obtain ⟨x, ys, G, Q0, rx, ra, ag, ⟨a, xs, r, xs', rfl, g, ⟨rfl, rfl, rfl⟩, q⟩, hQ⟩ := h
  have ev : v = .ref a := rx
  subst ev
  cases ra
  obtain ⟨vs, hv, rl⟩ := ag a _ g
  obtain ⟨ag2, st⟩ := put_list ag g hv .nil
  exact mt_clear pins s σ H _ _ u us Q I rv rus ⟨a, vs, rfl, rfl, hv, hQ _ _ .non _ q Rel.non ag2 st⟩
variable {o e : Expr} {to te : DE} {apos cpos : Pos}
theorem q_append (ho : PE X o (upE X.w X.K to)) (he : PE X e (upE X.w X.K te)) (hbase : attributeBase o "append" X.env (eval o X.env) = eval o X.env := by rfl) (hline : (apos.endLine == cpos.line) = true := by rfl) (hs : starEach [e] X.env = (false, eval e X.env) :: starEach [] X.env := by rfl)
    (hfew : ((backTo cpos (starEach [e] X.env)).all (fun x => !x.1) && (backToKw cpos (keywordEach [] X.env)).all (fun x => x.1.isSome) && decide ([e].length + ([] : List Keyword).length + (if ([] : List Keyword).isEmpty then 0 else 1) < 30)) = true := by rfl) :
    PE X (.Call (.Attribute o "append" apos) [e] [] cpos) (upE X.w X.K (dMt tyL (mLM mAppend) to (dCons te dNil))) := q_mt PySem.F.plainAttrs_list PySem.F.slot_list_append PySem.F.type_list_append ty_list m_append ho (qa_cons he qa_nil hs) hbase hfew hline hs
theorem q_popAt (ho : PE X o (upE X.w X.K to)) (he : PE X e (upE X.w X.K te)) (hbase : attributeBase o "pop" X.env (eval o X.env) = eval o X.env := by rfl) (hline : (apos.endLine == cpos.line) = true := by rfl) (hs : starEach [e] X.env = (false, eval e X.env) :: starEach [] X.env := by rfl)
    (hfew : ((backTo cpos (starEach [e] X.env)).all (fun x => !x.1) && (backToKw cpos (keywordEach [] X.env)).all (fun x => x.1.isSome) && decide ([e].length + ([] : List Keyword).length + (if ([] : List Keyword).isEmpty then 0 else 1) < 30)) = true := by rfl) :
    PE X (.Call (.Attribute o "pop" apos) [e] [] cpos) (upE X.w X.K (dMt tyL (mLM mPopAt) to (dCons te dNil))) := q_mt PySem.F.plainAttrs_list PySem.F.slot_list_pop PySem.F.type_list_pop ty_list m_popAt ho (qa_cons he qa_nil hs) hbase hfew hline hs
theorem q_pop0 (ho : PE X o (upE X.w X.K to)) (hbase : attributeBase o "pop" X.env (eval o X.env) = eval o X.env := by rfl) (hline : (apos.endLine == cpos.line) = true := by rfl) :
    PE X (.Call (.Attribute o "pop" apos) [] [] cpos) (upE X.w X.K (dMt0 tyL (mLM mPop) to)) := q_mt0 PySem.F.plainAttrs_list PySem.F.slot_list_pop PySem.F.type_list_pop ty_list m_pop ho hbase hline
theorem q_clear0 (ho : PE X o (upE X.w X.K to)) (hbase : attributeBase o "clear" X.env (eval o X.env) = eval o X.env := by rfl) (hline : (apos.endLine == cpos.line) = true := by rfl) :
    PE X (.Call (.Attribute o "clear" apos) [] [] cpos) (upE X.w X.K (dMt0 tyL (mLM mClear) to)) := q_mt0 PySem.F.plainAttrs_list PySem.F.slot_list_clear PySem.F.type_list_clear ty_list m_clear ho hbase hline
end
end DL

/-! DLo: o[i] = v. -/
namespace DL
open PySem PySem.Spec PyProof.Rows L2

/-- what o[i] = v makes of o -/
def setL (xs : List Va) (i x : Va) (m : MO) : Prop := ∃ k j, i = .dat (.int k) ∧ ixN xs.length k = some j ∧ m = .lst (xs.set j x)
section
variable {X : Cx} {o i : Expr} {to ti : DE} {pos : Pos}
theorem setL_r : PSet X (fun ov iv vv H Q => ∃ (oa ia xa : Va) (G : Gp) (Q0 : Gp → Prop), RelA X.w X.K H oa ov ∧ RelA X.w X.K H ia iv ∧ RelA X.w X.K H xa vv ∧ AbsG X.w X.K H G ∧ (∃ a xs m, oa = .ref a ∧ G a = some (.lst xs) ∧ setL xs ia xa m ∧ Q0 (gup G a m)) ∧ ∀ G' H', Q0 G' → AbsG X.w X.K H' G' → Step H G H' G' → Q H') := by
  intro pins s σ H ov iv vv u1 u2 u3 Q I r1 r2 r3 h
  obtain ⟨oa, ia, xa, G, Q0, ro, ri, rx, ag, ⟨a, xs, m, rfl, g, ⟨k, j, rfl, hj, rfl⟩, q⟩, hQ⟩ := h
  have eo : ov = .ref a := ro
  subst eo
  have ri' : Rel X.w X.K H (.int k) iv := ri
  cases ri'
  obtain ⟨vs, hv, rl⟩ := ag a _ g
  obtain ⟨ag2, st⟩ := put_list ag g hv (relAs_set rx j rl)
  exact set_list pins s σ H _ _ vv u1 u2 u3 Q I r1 r2 r3 ⟨a, vs, k, j, rfl, rfl, hv, by rw [← Paired.len rl]; exact hj, hQ _ _ q ag2 st⟩
end
end DL

/-! DLp: the law's end: from what the law's def promises to the row. -/
namespace DL
open PySem PySem.Spec PyProof.Rows L2

/-- what the law is asked: at every script it answers True -/
def spLaw : DSp := fun xs _ Q => ∃ ns : List Int, xs = [.dat (.list (ns.map PyData.int))] ∧ ns.length ≤ 63 ∧ ∀ G', Q (.dat (.bool true)) G'
/-- no list among the module's own objects -/
def noList (K : PySem.W.Frag) : Bool := K.all fun p => match p.2.cls with
  | .type n => !(n == "list")
  | _ => true
theorem noList_is {K : PySem.W.Frag} (h : noList K = true) {a : Addr} {o : Obj} (e : K.lookup a = some o) : o.cls ≠ .type "list" := by
  intro q
  unfold noList at h
  rw [List.all_eq_true] at h
  have hm : (a, o) ∈ K := by
    clear h
    induction K with
    | nil => cases e
    | cons p K ih =>
      obtain ⟨b, u⟩ := p
      rw [List.lookup_cons] at e
      split at e
      · rename_i hb
        have hb' : a = b := by simpa using hb
        subst hb'
        cases e
        exact List.mem_cons_self
      · exact List.mem_cons_of_mem _ (ih e)
  have := h _ hm
  dsimp only at this
  rw [q] at this
  simp at this
theorem relAll_ints {w : World} {K : PySem.W.Frag} {H : Hp} : ∀ ns : List Int, RelAll w K H (ns.map PyData.int) (ns.map V.int)
  | [] => .nil
  | n :: ns => .cons (.int n) (relAll_ints ns)
theorem law_callD {P : Program} {w : World} {K : PySem.W.Frag} {mg mb : Str → Option Value} {k : Nat} {fa a : Addr} {fd : FuncData} {x : Str} {s₁ : Shared} {vs : List Value} {ns : List Int}
    (KX : K.In s₁.heap) (hns : s₁.heap.Ns mainGlobals mg) (hb : s₁.heap.Ns builtinsNs mb) (hbb : ∀ x : Str, x ≠ "__name__" → mb x = bootBuiltins x) (hlim : s₁.heap.NoLimit) (hg : s₁.gens = #[])
    (ha : s₁.heap.get? a = some { cls := .type "list", data := .seq vs.toArray }) (hi : IntsAre vs ns) (hl : ns.length ≤ 63) (hr : Room k callerA) (nl : noList K = true)
    (F : ∀ base : Heap, K.In base → base.Ns mainGlobals mg → FnD P w K mg base k fa fd [x] spLaw) (hbind : ∀ (s : Shared) (u : Value), BindsTo s fd ⟨[u], []⟩ [(x, u)]) :
    codeAny (model P w) callerA (.call (.ref fa) ⟨[.ref a], []⟩) (fun r s' => r = .ok (.ret (.bool true)) ∧ OldK s₁.heap s'.heap ∧ s'.os = s₁.os ∧ AllBare s'.gens) s₁ := by
  have rv := vals_ints hi
  have lenV := hi.length
  have hk : K.lookup a = none := by
    cases e : K.lookup a with
    | none => rfl
    | some o =>
      have e2 := KX a o e
      rw [ha] at e2
      cases e2
      exact absurd rfl (noList_is nl e)
  have hz : ns.length ≤ sizeLine := Nat.le_trans hl (by decide)
  let H : Hp := fun b => if b = a then some (.frz { cls := .type "list", data := .seq vs.toArray } (.lst (ns.map V.int))) else none
  have Ha : H a = some (.frz { cls := .type "list", data := .seq vs.toArray } (.lst (ns.map V.int))) := if_pos rfl
  have Hn : ∀ b, b ≠ a → H b = none := fun b hb => if_neg hb
  have hok : HOk P w H s₁.heap := fun b u z => by
    by_cases e : b = a
    · subst e
      rw [Ha] at z; cases z
      exact ⟨ha, by rw [List.length_map]; exact hz, vs, _, rv, ha⟩
    · rw [Hn b e] at z; cases z
  have base_of : ∀ {b : Addr} {o : Obj}, s₁.heap.get? b = some o → b ≠ a → (hidT s₁.heap H).get? b = some o := fun e n => hidT_get e (Hn _ n)
  have noA : ∀ {b : Addr} {o : Obj} {es : Array DictEntry} {ep : Nat}, s₁.heap.get? b = some o → o.data = .dict es ep → b ≠ a := fun {b o es ep} e d q => by
    subst q
    rw [ha] at e; cases e
    cases (d : Data.seq vs.toArray _ = Data.dict es ep)
  have nsK : ∀ {b : Addr} {m : Str → Option Value}, s₁.heap.Ns b m → (hidT s₁.heap H).Ns b m := fun {b m} ⟨o, es, ep, e, d, r⟩ => ⟨o, es, ep, base_of e (noA e d), d, r⟩
  have hKb : K.In (hidT s₁.heap H) := fun b o e => base_of (KX b o e) fun q => by rw [q, hk] at e; cases e
  have hM : Mod K mg (hidT s₁.heap H) := ⟨hKb, nsK hns, ⟨mb, nsK hb, hbb⟩, let ⟨mc, h1, h2⟩ := hlim; ⟨mc, nsK h1, h2⟩⟩
  have e0 : Env0 P w K mg (hidT s₁.heap H) callerA [] s₁ H := ⟨rfl, hM, fun b o e => of_hidT e, Nat.le_of_eq (hidT_size _ _), trivial, fun b hb => absurd (show b ∈ ([] : List Addr) from hb) (by simp), hok, .of_eq hg⟩
  have rl : RelAs w K H [.dat (.list (ns.map PyData.int))] [.ref a] := .cons (show Rel w K H _ _ from Rel.lst Ha (relAll_ints ns)) .nil
  refine codeAny_mono ((F _ hKb (nsK hns)).run callerA [] s₁ H ⟨[.ref a], []⟩ [.ref a] [.ref a] [.dat (.list (ns.map PyData.int))] (fun _ => none) (fun x _ => x = .dat (.bool true)) (fun v _ => v = .bl true) hr rfl e0 (hbind s₁ (.ref a)) (.cons rfl .nil) rl (fun _ _ g => by cases g) ⟨ns, rfl, hl, fun _ => rfl⟩ fun x G v H' q r _ _ => ?_) fun r s' h => ?_
  · subst q
    have r' : Rel w K H' (.bool true) v := r
    cases r'
    rfl
  · cases r with
    | error e => exact False.elim h
    | ok fl =>
      cases fl with
      | next => exact False.elim h
      | brk => exact False.elim h
      | cont => exact False.elim h
      | ret u =>
        obtain ⟨v, H', os, bare, un, hok', r', q⟩ := h
        have q' : v = .bl true := q
        subst q'
        obtain rfl : u = Value.bool true := r'
        refine ⟨rfl, OldK.of_keep fun b o e => ?_, os, bare⟩
        by_cases q : b = a
        · subst q
          have z2 := un.frzs b _ _ Ha
          obtain ⟨e2, _⟩ := hok' b _ z2
          rw [ha] at e; cases e
          exact e2
        · exact un.keep b o e (Hn b q) (by intro z; exact absurd (show b ∈ ([] : List Addr) from z) (by simp)) (by simp)
theorem walkD {l : PySem.W.OpenLaw} {k : Nat} {q : Program} {loose : List Str} {XP : (Str → Option Value) → Heap → Prop} {YP : World → Heap → Prop} {d : DefRec} {K : Params → PySem.W.Frag} {x : Str}
    (hn : l.most = some 63) (hdf : d.params.defaults = []) (hr : Room k callerA) (hY : ∀ (w : World) (h : Heap), YP w h → (K w.params).In h) (nl : ∀ w : World, noList (K w.params) = true)
    (F : ∀ (w : World) (mg : Str → Option Value) (fa : Addr) (h : Heap), (K w.params).In h → h.Ns mainGlobals mg → mg d.name = some (.ref fa) →
      ∃ fd : FuncData, (∀ (s : Shared) (u : Value), BindsTo s fd ⟨[u], []⟩ [(x, u)]) ∧ ∀ base : Heap, (K w.params).In base → base.Ns mainGlobals mg → FnD l.prog w (K w.params) mg base k fa fd [x] spLaw) :
    PySem.W.WalkO q loose XP YP l.row.toRowW d [] (fun f vs => PySem.call f vs) := by
  refine Att.attach_call hn hdf fun w s₀ s₁ mg mb fa o pm cd doc a vs ns G Y ho hd hcd hmg hobj hints hlen hg => ?_
  have KX := hY w _ Y
  obtain ⟨fd, hb, hF⟩ := F w mg fa _ KX G.T.g hmg
  exact law_callD KX G.T.g G.T.b G.T.builtins G.T.nolimit hg hobj hints hlen hr (nl w) hF hb
end DL

/-! DLq: words for a text's defs, calls of them. -/
namespace DL
open PySem PySem.Spec PyProof.Rows L2

/-- a def of the text that stands under its name -/
structure Fd (P : Program) (w : World) (K : PySem.W.Frag) (mg : Str → Option Value) (base : Heap) (k : Nat) (x : Str) (ps : List Str) (sp : DSp) : Prop where
  ex : ∃ f fd, FnD P w K mg base k f fd ps sp ∧ mg x = some (.ref f) ∧ PySem.W.keepIn K (.ref f) = true ∧ Binds K fd ps []
/-- what a def promises: its own reading -/
def spOf (n m : Nat) (r : DS) : DSp := fun xs G Q => xs.length = n ∧ r (bodyEnds Q) (xs.map some ++ List.replicate m none) G
theorem fd_of {P : Program} {w : World} {K : PySem.W.Frag} {mg : Str → Option Value} {base : Heap} {k : Nat} {x : Str} {ps : List Str} {sp : DSp} {f : Addr} {fd : FuncData} (F : FnD P w K mg base k f fd ps sp) (h1 : mg x = some (.ref f)) (h2 : PySem.W.keepIn K (.ref f) = true) (h3 : Binds K fd ps []) : Fd P w K mg base k x ps sp := ⟨f, fd, F, h1, h2, h3⟩
section
variable {X : Cx} {j k : Nat} {ps : List Str} {sp : DSp} {x : Str} {p pos : Pos} {e : Expr} {es : List Expr}
theorem q_def {t : DA} (F : Fd X.prog X.w X.K X.mg X.base j x ps sp) (hr : Room k X.A) (hgd : X.A.guards = some []) (hj : j ≤ k) (ha : PA X (e :: es) (upA X.w X.K t)) (hg : Gl X x := by rfl) (hdb : (x == ("__debug__" : Str)) = false := by decide) (he : starEach (e :: es) X.env = (false, eval e X.env) :: starEach es X.env := by rfl)
    (hpl : (backTo pos (starEach es X.env)).any (·.1) = false := by rfl) : PE X (.Call (.Name x p) (e :: es) [] pos) (upE X.w X.K (dCall sp t)) := by
  obtain ⟨f, fd, G, h1, h2, h3⟩ := F.ex
  exact q_call G (hr.mono hj) hgd h1 h2 h3 hg ha hdb he hpl
end
/-- a number written at the top -/
theorem q_gint {X : Cx} {x : Str} {i : Int} {pos : Pos} (h : ∃ t, X.mg x = some (.int i t)) (hg : Gl X x := by rfl) (hd : (x == ("__debug__" : Str)) = false := by decide) : PE X (.Name x pos) (upE X.w X.K (dC (.int i))) := by
  obtain ⟨t, h⟩ := h
  exact q_glob h (v := .int i) ⟨t, rfl⟩ (fun _ => .int i) hg hd
/-- products of numbers -/
def mulI : PyData → PyData → Option PyData
  | .int i, .int j => if small i || small j then some (.int (i * j)) else none
  | _, _ => none
theorem o_mulI {X : Cx} : O2 X (binaryOp .Mult) mulI := by
  intro pins s σ H d e z x y u1 u2 Q I n1 r1 n2 r2 h k
  refine o_mul pins s σ H d e z x y u1 u2 Q I n1 r1 n2 r2 ?_ k
  rw [← h]
  cases d <;> cases e <;> rfl
end DL

/-! DLr: names written at the top; a promise made less. -/
namespace DL
open PySem PySem.Spec PyProof.Rows L2

theorem FnD.weak {P : Program} {w : World} {K : PySem.W.Frag} {mg : Str → Option Value} {base : Heap} {k : Nat} {f : Addr} {fd : FuncData} {ps : List Str} {sp sp' : DSp} (F : FnD P w K mg base k f fd ps sp) (h : ∀ xs G Q, sp' xs G Q → sp xs G Q) : FnD P w K mg base k f fd ps sp' :=
  ⟨fun xs G Q q => F.len xs G Q (h xs G Q q), fun A outer s H args us vs xs G Q0 Q a b c d e f g i j => F.run A outer s H args us vs xs G Q0 Q a b c d e f g (h xs G Q0 i) j⟩
theorem q_gstr {X : Cx} {x z : Str} {pos : Pos} (h : ∃ t, X.mg x = some (.str z t)) (hg : Gl X x := by rfl) (hd : (x == ("__debug__" : Str)) = false := by decide) : PE X (.Name x pos) (upE X.w X.K (dC (.str z))) := by
  obtain ⟨t, h⟩ := h
  exact q_glob h (v := .str z) ⟨t, rfl⟩ (fun _ => .str z) hg hd
/-- a tuple of texts written at the top -/
def GTup (K : PySem.W.Frag) (mg : Str → Option Value) (x : Str) (zs : List Str) : Prop :=
  ∃ (a : Addr) (o : Obj) (its : Array Value) (n : Nat), mg x = some (.ref a) ∧ K.lookup a = some o ∧ o.cls = .type "tuple" ∧ o.dict = none ∧ o.data = .seq its n ∧ its.size ≤ sizeLine ∧ Vals (zs.map V.str) its.toList
theorem gtup_of {K : PySem.W.Frag} {mg : Str → Option Value} {x : Str} {zs : List Str} {a : Addr} {its : Array Value} {n : Nat} {sl : Array (Option Value)} (h1 : mg x = some (.ref a)) (h2 : K.lookup a = some ⟨.type "tuple", none, .seq its n, sl⟩) (h3 : its.size ≤ sizeLine) (h4 : Vals (zs.map V.str) its.toList) : GTup K mg x zs :=
  ⟨a, _, its, n, h1, h2, rfl, rfl, rfl, h3, h4⟩
theorem relAll_strs {w : World} {K : PySem.W.Frag} {H : Hp} : ∀ zs : List Str, RelAll w K H (zs.map PyData.str) (zs.map V.str)
  | [] => .nil
  | z :: zs => .cons (.str z) (relAll_strs zs)
theorem q_gtup {X : Cx} {x : Str} {zs : List Str} {pos : Pos} (h : GTup X.K X.mg x zs) (hg : Gl X x := by rfl) (hd : (x == ("__debug__" : Str)) = false := by decide) : PE X (.Name x pos) (upE X.w X.K (dC (.tuple (zs.map PyData.str)))) := by
  obtain ⟨a, o, its, n, h1, h2, h3, h4, h5, h6, h7⟩ := h
  exact q_glob h1 (v := .ref a) rfl (fun H => Rel.tup (.inr ⟨o, its, n, h2, h3, h4, h5, h6, h7⟩) (relAll_strs zs)) hg hd
end DL

/-! DLs: places in tuples, joined texts, lists' parts and multiples. -/
namespace DL
open PySem PySem.Spec PyProof.Rows L2

/-- t.index(x) of numbers, of texts -/
def mTIndex : DMt := fun x ys G Q => ∃ xs k, x = .dat (.tuple xs) ∧ ys = [.dat k] ∧
  ((∃ (ns : List Int) (i : Int), xs = ns.map PyData.int ∧ k = .int i ∧ i ∈ ns ∧ Q (.dat (.int (ns.idxOf i : Nat))) G) ∨ ∃ (zs : List Str) (z : Str), xs = zs.map PyData.str ∧ k = .str z ∧ z ∈ zs ∧ Q (.dat (.int (zs.idxOf z : Nat))) G)
theorem intsAre_of_rel {w : World} {K : PySem.W.Frag} {H : Hp} : ∀ {ns : List Int} {vs : List V} {us : List Value}, RelAll w K H (ns.map PyData.int) vs → Vals vs us → IntsAre us ns
  | [], _, _, r, v => by cases r; cases v; exact .nil
  | n :: ns, _, _, r, v => by
    cases r with
    | cons h t =>
      cases h
      cases v with
      | cons hv tv =>
        obtain ⟨tk, rfl⟩ := hv
        exact .cons n tk (intsAre_of_rel t tv)
theorem strsAre_of_rel {w : World} {K : PySem.W.Frag} {H : Hp} : ∀ {zs : List Str} {vs : List V} {us : List Value}, RelAll w K H (zs.map PyData.str) vs → Vals vs us → StrsAre us zs
  | [], _, _, r, v => by cases r; cases v; exact .nil
  | n :: ns, _, _, r, v => by
    cases r with
    | cons h t =>
      cases h
      cases v with
      | cons hv tv =>
        obtain ⟨tk, rfl⟩ := hv
        exact .cons n tk (strsAre_of_rel t tv)
section
variable {X : Cx}
theorem m_tindex : MtR X "tuple.index" (rMt X.w X.K mTIndex) := by
  intro pins s σ H v vs u us Q I rv rus h
  obtain ⟨x, ys, G, Q0, rx, ra, ag, ⟨xs, k, rfl, rfl, h⟩, hQ⟩ := h
  have rx' : Rel X.w X.K H (.tuple xs) v := rx
  cases ra with
  | cons ry rr =>
    cases rr
    cases rx' with
    | tup ht hal =>
      cases rv
      obtain ⟨u', rfl, ru⟩ := rus.one
      obtain ⟨its, r, p, _⟩ := I.tuple ht.sq
      have p' : s.heap.IsTuple _ its.toArray := p
      rcases h with ⟨ns, i, rfl, rfl, hi, q⟩ | ⟨zs, z, rfl, rfl, hi, q⟩
      · have ry' : Rel X.w X.K H (.int i) _ := ry
        cases ry'
        obtain ⟨t, rfl⟩ := ru
        exact PySem.SeqAt.tuple_index_ints p' (intsAre_of_rel hal r) hi ⟨.int (ns.idxOf i : Nat), H, I.tok _, ⟨_, rfl⟩, hQ _ G _ H q (Rel.int _) ag .refl⟩
      · have ry' : Rel X.w X.K H (.str z) _ := ry
        cases ry'
        obtain ⟨t, rfl⟩ := ru
        exact PySem.SeqAt.tuple_index_strs p' (strsAre_of_rel hal r) hi ⟨.int (zs.idxOf z : Nat), H, I.tok _, ⟨_, rfl⟩, hQ _ G _ H q (Rel.int _) ag .refl⟩
/-- a.join(texts) -/
def mJoin : DMt := fun x ys G Q => ∃ a y zs, x = .dat (.str a) ∧ ys = [y] ∧ (see G y = some (.list (zs.map PyData.str)) ∨ see G y = some (.tuple (zs.map PyData.str))) ∧ (zs.map (·.length)).sum + zs.length * a.length ≤ 16777216 ∧ Q (.dat (.str (Txt.join a zs))) G
theorem relAll_strs_inv {w : World} {K : PySem.W.Frag} {H : Hp} : ∀ {zs : List Str} {vs : List V}, RelAll w K H (zs.map PyData.str) vs → vs = zs.map V.str
  | [], _, r => by cases r; rfl
  | z :: zs, _, r => by
    cases r with
    | cons h t =>
      cases h
      rw [relAll_strs_inv t]; rfl
theorem m_join : MtR X "str.join" (rMt X.w X.K mJoin) := by
  intro pins s σ H v vs u us Q I rv rus h
  obtain ⟨x, ys, G, Q0, rx, ra, ag, ⟨a, y, zs, rfl, rfl, hy, hz, q⟩, hQ⟩ := h
  have rx' : Rel X.w X.K H (.str a) v := rx
  cases rx'
  cases ra with
  | @cons _ vy _ _ ry rr =>
    cases rr
    have fin : ∀ p, (SqL X.K H p (zs.map V.str) ∨ SqT X.K H p (zs.map V.str)) → vy = V.ref p → wpAny (model X.prog X.w) X.A (call (.builtin "str.join") (u :: us)) (EP X pins σ Q) X.xe s := fun p hp e =>
      mt_join pins s σ H _ _ u us Q I rv rus ⟨a, p, zs, rfl, by rw [e], hp, hz, hQ _ G _ H q (Rel.str _) ag .refl⟩
    rcases hy with hy | hy
    · obtain ⟨p, ws, e, h1, h2⟩ := now_list (see_now ag ry hy)
      rw [relAll_strs_inv h2] at h1
      exact fin p (.inl (.inl h1)) e
    · obtain ⟨p, ws, e, h1, h2⟩ := now_tup (see_now ag ry hy)
      rw [relAll_strs_inv h2] at h1
      exact fin p (.inr h1) e
variable {o e : Expr} {to te : DE} {apos cpos : Pos}
theorem q_tindex (ho : PE X o (upE X.w X.K to)) (he : PE X e (upE X.w X.K te)) (hbase : attributeBase o "index" X.env (eval o X.env) = eval o X.env := by rfl) (hline : (apos.endLine == cpos.line) = true := by rfl) (hs : starEach [e] X.env = (false, eval e X.env) :: starEach [] X.env := by rfl)
    (hfew : ((backTo cpos (starEach [e] X.env)).all (fun x => !x.1) && (backToKw cpos (keywordEach [] X.env)).all (fun x => x.1.isSome) && decide ([e].length + ([] : List Keyword).length + (if ([] : List Keyword).isEmpty then 0 else 1) < 30)) = true := by rfl) :
    PE X (.Call (.Attribute o "index" apos) [e] [] cpos) (upE X.w X.K (dMt tyT mTIndex to (dCons te dNil))) := q_mt PySem.F.plainAttrs_tuple PySem.F.slot_tuple_index PySem.F.type_tuple_index ty_tup m_tindex ho (qa_cons he qa_nil hs) hbase hfew hline hs
theorem q_join (ho : PE X o (upE X.w X.K to)) (he : PE X e (upE X.w X.K te)) (hbase : attributeBase o "join" X.env (eval o X.env) = eval o X.env := by rfl) (hline : (apos.endLine == cpos.line) = true := by rfl) (hs : starEach [e] X.env = (false, eval e X.env) :: starEach [] X.env := by rfl)
    (hfew : ((backTo cpos (starEach [e] X.env)).all (fun x => !x.1) && (backToKw cpos (keywordEach [] X.env)).all (fun x => x.1.isSome) && decide ([e].length + ([] : List Keyword).length + (if ([] : List Keyword).isEmpty then 0 else 1) < 30)) = true := by rfl) :
    PE X (.Call (.Attribute o "join" apos) [e] [] cpos) (upE X.w X.K (dMt tyS mJoin to (dCons te dNil))) := q_mt PySem.F.plainAttrs_str PySem.F.slot_str_join PySem.F.type_str_join ty_str m_join ho (qa_cons he qa_nil hs) hbase hfew hline hs
end
/-! ### new lists out of lists -/
section
variable {X : Cx} {a b : Expr} {ta tb : DE} {pos p2 : Pos}
/-- a list many times -/
def dRep (ta tb : DE) : DA := fun τ G Q => ta τ G fun x G1 => tb τ G1 fun y G2 => ∃ a xs k, x = .ref a ∧ y = .dat (.int k) ∧ G2 a = some (.lst xs) ∧ -(2 ^ 63) ≤ k ∧ k < 2 ^ 63 ∧ xs.length * k.toNat ≤ sizeLine ∧ Q (List.replicate k.toNat xs).flatten G2
theorem relAs_rep {w : World} {K : PySem.W.Frag} {H : Hp} {xs : List Va} {vs : List V} (r : RelAs w K H xs vs) : ∀ n : Nat, RelAs w K H (List.replicate n xs).flatten (List.replicate n vs).flatten
  | 0 => .nil
  | n + 1 => by
    rw [List.replicate_succ, List.replicate_succ, List.flatten_cons, List.flatten_cons]
    exact relAs_append r (relAs_rep r n)
theorem len_rep {α : Type} (xs : List α) : ∀ n : Nat, (List.replicate n xs).flatten.length = xs.length * n
  | 0 => by simp
  | n + 1 => by rw [List.replicate_succ, List.flatten_cons, List.length_append, len_rep xs n, Nat.mul_succ, Nat.add_comm]
/-- a list just made, told by nobody -/
theorem upL_new {w : World} {K : PySem.W.Frag} {H H2 : Hp} {G G2 : Gp} {Q0 : List Va → Gp → Prop} {Q : VK} (hQ : ∀ xs G' vs p H', Q0 xs G' → RelAs w K H' xs vs → H' p = some (.lst vs) → vs.length ≤ sizeLine → G' p = none → AbsG w K H' G' → (∀ a o, a ≠ p → H a = some o → G a = none → H' a = some o ∧ G' a = none) → Ext H H' → (G p = none → H p = none) → Q (.ref p) H')
    {xs : List Va} {vs : List V} {p : Addr} (q : Q0 xs G2) (r : RelAs w K H2 xs vs) (hp : H2 p = none) (hz : vs.length ≤ sizeLine) (ag : AbsG w K H2 G2) (st : Step H G H2 G2) : Q (.ref p) (upd H2 p (.lst vs)) := by
  have exn := (Step.new (G := G2) (o := .lst vs) hp).ext
  refine hQ xs G2 vs p _ q (RelAs.ext exn r) upd_same hz (ag.off hp) (ag.new hp) (fun a o ne ha ga => ?_) (st.ext.trans exn) fun gp => ?_
  · rw [upd_ne ne]; exact st.keep a o ha ga
  · cases e : H p with
    | none => rfl
    | some o => have := (st.keep p o e gp).1; rw [hp] at this; cases this
theorem ql_rep (ha : PE X a (upE X.w X.K ta)) (hb : PE X b (upE X.w X.K tb)) : PE X (.BinOp a .Mult b pos) (upL X.w X.K (dRep ta tb)) :=
  (pe_op op_rep ha hb).imp fun σ H Q ⟨τ, G, Q0, ab, q, hQ⟩ => ⟨τ, G, _, ab, q, fun x G1 v1 H1 q1 r1 a1 s1 => ⟨τ, G1, _, ab.step s1.ext a1, q1, fun y G2 v2 H2 q2 r2 a2 s2 => by
    obtain ⟨a, xs, k, rfl, rfl, g, h1, h2, h3, q3⟩ := q2
    have e1 : v1 = .ref a := r1
    have r2' : Rel X.w X.K H2 (.int k) v2 := r2
    cases r2'
    obtain ⟨vs, hv, rl⟩ := a2 a _ g
    have hl := Paired.len rl
    refine ⟨a, k, vs, e1, rfl, hv, h1, h2, by rw [← hl]; exact h3, fun p hp => ?_⟩
    exact upL_new hQ q3 (relAs_rep rl k.toNat) hp (by rw [len_rep, ← hl]; exact h3) a2 (s1.trans s2)⟩⟩
/-- two lists of data, one behind the other -/
def dCat (ta tb : DE) : DA := fun τ G Q => ta τ G fun x G1 => tb τ G1 fun y G2 => ∃ xs ys, see G2 x = some (.list xs) ∧ see G2 y = some (.list ys) ∧ xs.length + ys.length ≤ sizeLine ∧ Q ((xs ++ ys).map Va.dat) G2
theorem cat_r : OpR X (binaryOp .Add) (fun x y H Q => ∃ a b xs ys, x = .ref a ∧ y = .ref b ∧ Rd H a (.lst xs) ∧ Rd H b (.lst ys) ∧ xs.length + ys.length ≤ sizeLine ∧ ∀ p, H p = none → Q (.ref p) (upd H p (.lst (xs ++ ys)))) := by
  intro pins s σ H x y v u Q I rx ry h
  obtain ⟨a, b, xs, ys, rfl, rfl, ha, hb, hz, q⟩ := h
  cases rx
  cases ry
  obtain ⟨its, n, r, e, z⟩ := rd_lst I ha
  obtain ⟨jts, m, r2, e2, z2⟩ := rd_lst I hb
  have l1 := r.length
  have l2 := r2.length
  refine PySem.P.add_list e e2 ?_ (by rw [List.size_toArray, List.size_toArray]; omega)
  have ea : its.toArray ++ jts.toArray = (its ++ jts).toArray := by simp
  rw [ea]
  exact ⟨.ref _, _, I.lnew (t' := s.toks) (r.append r2) (by rw [List.length_append]; omega), rfl, q _ I.fresh⟩
theorem ql_cat (ha : PE X a (upE X.w X.K ta)) (hb : PE X b (upE X.w X.K tb)) : PE X (.BinOp a .Add b pos) (upL X.w X.K (dCat ta tb)) :=
  (pe_op cat_r ha hb).imp fun σ H Q ⟨τ, G, Q0, ab, q, hQ⟩ => ⟨τ, G, _, ab, q, fun x G1 v1 H1 q1 r1 a1 s1 => ⟨τ, G1, _, ab.step s1.ext a1, q1, fun y G2 v2 H2 q2 r2 a2 s2 => by
    obtain ⟨xs, ys, h1, h2, hz, q3⟩ := q2
    obtain ⟨a, vs, rfl, ha, hv⟩ := now_list (see_now a2 (r1.ext s2.ext) h1)
    obtain ⟨b, ws, rfl, hb, hw⟩ := now_list (see_now a2 r2 h2)
    have l1 := RelAll.length hv
    have l2 := RelAll.length hw
    exact ⟨a, b, vs, ws, rfl, rfl, ha, hb, by omega, fun p hp => upL_new hQ q3 (hv.append hw).vas hp (by rw [List.length_append]; omega) a2 (s1.trans s2)⟩⟩⟩
theorem ql_sl {e : Expr} {lo hi : Option Expr} {te : DE} {tl th : DO} (he : PE X e (upE X.w X.K te)) (hl : PO X lo (upO X.w X.K tl)) (hh : PO X hi (upO X.w X.K th)) : PE X (.Subscript e (.Slice lo hi none p2) pos) (upL X.w X.K (dSlL te tl th)) :=
  (pe_slice sl_list he hl hh).imp fun σ H Q ⟨τ, G, Q0, ab, q, hQ⟩ => ⟨τ, G, _, ab, q, fun x G1 v H1 q1 r1 a1 s1 => ⟨τ, G1, _, ab.step s1.ext a1, q1, fun l G2 H2 q2 a2 s2 => ⟨τ, G2, _, ab.step (s1.trans s2).ext a2, q2, fun u G3 H3 q3 a3 s3 => by
    obtain ⟨ds, h1, hz, q4⟩ := q3
    obtain ⟨a, vs, rfl, ha, hv⟩ := now_list (see_now a3 ((r1.ext s2.ext).ext s3.ext) h1)
    have hl := RelAll.length hv
    exact ⟨a, vs, rfl, .inl ha, fun p hp => upL_new hQ q4 (cut_rel hv l u).vas hp (Nat.le_trans (cutV_length vs l u) (by omega)) a3 ((s1.trans s2).trans s3)⟩⟩⟩⟩
end
end DL

/-! DLt: dicts: their entries. -/
namespace DL
open PySem PySem.Spec PyProof.Rows L2

/-! ### keys -/
def dkeyEq (a b : PyData) : Bool := decide (nkey a = nkey b)
def dlook {α : Type} (kvs : List (PyData × α)) (k : PyData) : Option α := (kvs.find? fun p => dkeyEq p.1 k).map (·.2)
def dstore {α : Type} (kvs : List (PyData × α)) (k : PyData) (y : α) : List (PyData × α) := if (dlook kvs k).isSome then kvs.map fun p => if dkeyEq p.1 k then (p.1, y) else p else kvs ++ [(k, y)]
def dwo {α : Type} (kvs : List (PyData × α)) (k : PyData) : List (PyData × α) := kvs.filter fun p => !dkeyEq p.1 k
/-- a tuple that can be a key -/
def tk : PyData → Bool
  | .tuple xs => match nkey (.tuple xs) with
    | some n => decide (n.depth ≤ 8)
    | none => false
  | _ => false
/-- a number or a text -/
def fk : PyData → Bool
  | .int _ => true
  | .str _ => true
  | _ => false
def homB {α : Type} (kvs : List (PyData × α)) (k : PyData) : Bool := (tk k && kvs.all fun p => tk p.1) || (fk k && kvs.all fun p => fk p.1)
theorem tk_of {k : PyData} (h : tk k = true) : ∃ xs n, k = .tuple xs ∧ nkey k = some n ∧ n.depth ≤ 8 := by
  cases k with
  | tuple xs =>
    unfold tk at h
    cases e : nkey (.tuple xs) with
    | none => simp [e] at h
    | some n => simp [e] at h; exact ⟨xs, n, rfl, e ▸ rfl, h⟩
  | _ => cases h
def keyN : Key → NestedKey
  | .inl i => .num i
  | .inr x => .text x
def keyP : Key → PyData
  | .inl i => .int i
  | .inr x => .str x
theorem fk_of {k : PyData} (h : fk k = true) : ∃ q, k = keyP q ∧ nkey k = some (keyN q) := by
  cases k with
  | int i => exact ⟨.inl i, rfl, rfl⟩
  | str x => exact ⟨.inr x, rfl, rfl⟩
  | _ => cases h
theorem keyN_inj {a b : Key} (h : keyN a = keyN b) : a = b := by
  cases a <;> cases b <;> simp only [keyN] at h <;> first | (cases h; rfl) | cases h
theorem keyN_hash (w : World) (q : Key) : (keyN q).hash w = keyH w q := by
  cases q <;> rfl

/-! ### the nested key of a value -/
section
variable {X : Cx} {pins : List (Addr × Obj)} {σ : L2.St} {H : Hp} {s : Shared}
mutual
theorem rel_nested (I : Inv X pins σ H s) : ∀ {d : PyData} {v : V} {u : Value} {n : NestedKey}, Rel X.w X.K H d v → RelV v u → nkey d = some n → NestedIs s.heap n u
  | _, _, _, _, .non, r, e => by cases r; cases e; exact .none
  | _, _, _, _, .bl b, r, e => by cases r; cases e; exact .bool rfl
  | _, _, _, _, .int i, r, e => by obtain ⟨t, rfl⟩ := r; cases e; exact .int i t
  | _, _, _, _, .str x, r, e => by obtain ⟨t, rfl⟩ := r; cases e; exact .text x t
  | .tuple ds, _, _, n, .tup hs ha, r, e => by
    cases r
    obtain ⟨its, rv, ⟨o, ho, hc, m, hd⟩, _⟩ := I.tuple hs.sq
    unfold nkey at e
    obtain ⟨ks, hk, rfl⟩ := Option.map_eq_some_iff.mp e
    exact .tup ho hc hd (rel_nestedAll I ha rv hk)
  | _, _, _, _, .lst _ _, _, e => by cases e
  | _, _, _, _, .dct _ _ _ _ _ _, _, e => by cases e
theorem rel_nestedAll (I : Inv X pins σ H s) : ∀ {ds : List PyData} {vs : List V} {us : List Value} {ks : List NestedKey}, RelAll X.w X.K H ds vs → Vals vs us → nkeys ds = some ks → NestedAll s.heap ks us
  | _, _, _, _, .nil, .nil, e => by cases e; exact .nil
  | d :: ds, _, _, ks, .cons h1 h2, .cons r1 r2, e => by
    unfold nkeys at e
    cases e1 : nkey d with
    | none => rw [e1] at e; cases e
    | some k =>
      cases e2 : nkeys ds with
      | none => rw [e1, e2] at e; cases e
      | some kk =>
        rw [e1, e2] at e
        cases e
        exact .cons (rel_nested I h1 r1 e1) (rel_nestedAll I h2 r2 e2)
end
/-- a key that is a tuple -/
theorem key_tup (I : Inv X pins σ H s) {k : PyData} {v : V} {u : Value} (h : tk k = true) (r : Rel X.w X.K H k v) (rv : RelV v u) : ∃ n a, nkey k = some n ∧ v = .ref a ∧ u = .ref a ∧ (nestedKind X.prog X.w).is s.heap n a := by
  obtain ⟨xs, n, rfl, e, hn⟩ := tk_of h
  cases r with
  | tup hs ha =>
    cases rv
    exact ⟨n, _, e, rfl, rfl, rel_nested I (.tup hs ha) rfl e, hn⟩
theorem key_flat {k : PyData} {v : V} {u : Value} (h : fk k = true) (r : Rel X.w X.K H k v) (rv : RelV v u) : ∃ q, k = keyP q ∧ nkey k = some (keyN q) ∧ keyIs q u = true := by
  cases r with
  | int i => obtain ⟨t, rfl⟩ := rv; exact ⟨.inl i, rfl, rfl, by simp [keyIs, Value.isInt]⟩
  | str x => obtain ⟨t, rfl⟩ := rv; exact ⟨.inr x, rfl, rfl, by simp [keyIs, Value.isStrOf]⟩
  | _ => cases h
end

/-! ### entries -/
structure TP (w : World) (K : PySem.W.Frag) (H : Hp) (p : PyData × Va) (x : NestedKey × Addr × Value) : Prop where
  key : nkey p.1 = some x.1
  rel : Rel w K H p.1 (.ref x.2.1)
  val : ∃ dv, RelA w K H p.2 dv ∧ RelV dv x.2.2
structure FP (w : World) (K : PySem.W.Frag) (H : Hp) (p : PyData × Va) (x : Key × Value) : Prop where
  key : p.1 = keyP x.1
  val : ∃ dv, RelA w K H p.2 dv ∧ RelV dv x.2
theorem keyP_n (q : Key) : nkey (keyP q) = some (keyN q) := by cases q <;> rfl
section
variable {w : World} {K : PySem.W.Frag} {H : Hp}
theorem tp_look {kvs : List (PyData × Va)} {xs : List (NestedKey × Addr × Value)} (h : Paired (TP w K H) kvs xs) {k : PyData} {n : NestedKey} (e : nkey k = some n) :
    (atKey xs n = none ∧ dlook kvs k = none) ∨ ∃ p y dv, atKey xs n = some p ∧ dlook kvs k = some y ∧ RelA w K H y dv ∧ RelV dv p.2 := by
  induction h with
  | nil => exact .inl ⟨rfl, rfl⟩
  | @cons p x l l' h t ih =>
    by_cases hx : x.1 = n
    · refine .inr ?_
      obtain ⟨dv, h1, h2⟩ := h.val
      refine ⟨x.2, p.2, dv, ?_, ?_, h1, h2⟩
      · unfold atKey
        rw [List.find?_cons_of_pos (by simpa using hx)]; rfl
      · unfold dlook
        rw [List.find?_cons_of_pos (by unfold dkeyEq; rw [h.key, e, hx]; simp)]; rfl
    · have a1 : atKey (x :: l') n = atKey l' n := by
        unfold atKey
        rw [List.find?_cons_of_neg (by simpa using hx)]
      have a2 : dlook (p :: l) k = dlook l k := by
        unfold dlook
        rw [List.find?_cons_of_neg (by unfold dkeyEq; rw [h.key, e]; simpa using hx)]
      rw [a1, a2]
      exact ih
theorem fp_look {kvs : List (PyData × Va)} {xs : List (Key × Value)} (h : Paired (FP w K H) kvs xs) (q : Key) :
    (valueAt xs q = none ∧ dlook kvs (keyP q) = none) ∨ ∃ v y dv, valueAt xs q = some v ∧ dlook kvs (keyP q) = some y ∧ RelA w K H y dv ∧ RelV dv v := by
  induction h with
  | nil => exact .inl ⟨rfl, rfl⟩
  | @cons p x l l' h t ih =>
    by_cases hx : x.1 = q
    · refine .inr ?_
      obtain ⟨dv, h1, h2⟩ := h.val
      refine ⟨x.2, p.2, dv, ?_, ?_, h1, h2⟩
      · unfold valueAt
        rw [List.find?_cons_of_pos (by simpa using hx)]; rfl
      · unfold dlook
        rw [List.find?_cons_of_pos (by unfold dkeyEq; rw [h.key, hx]; simp)]; rfl
    · have a1 : valueAt (x :: l') q = valueAt l' q := by
        unfold valueAt
        rw [List.find?_cons_of_neg (by simpa using hx)]
      have a2 : dlook (p :: l) (keyP q) = dlook l (keyP q) := by
        unfold dlook
        rw [List.find?_cons_of_neg (by
          unfold dkeyEq
          rw [h.key, keyP_n, keyP_n]
          intro z
          exact hx (keyN_inj (by simpa using z)))]
      rw [a1, a2]
      exact ih
theorem tp_put {kvs : List (PyData × Va)} {xs : List (NestedKey × Addr × Value)} (h : Paired (TP w K H) kvs xs) {k : PyData} {n : NestedKey} (e : nkey k = some n) {y : Va} {dv : V} {v : Value} (r1 : RelA w K H y dv) (r2 : RelV dv v) :
    Paired (TP w K H) (kvs.map fun p => if dkeyEq p.1 k then (p.1, y) else p) (xs.map (putAt n v)) := by
  induction h with
  | nil => exact .nil
  | @cons p x l l' h t ih =>
    refine .cons ?_ ih
    unfold putAt dkeyEq
    dsimp only
    rw [h.key, e]
    by_cases hx : x.1 = n
    · rw [if_pos (by simpa using hx), if_pos hx]
      exact ⟨h.key, h.rel, dv, r1, r2⟩
    · rw [if_neg (by simpa using hx), if_neg hx]
      exact h
theorem paired_append {α β : Type} {F : α → β → Prop} {a b : List α} {c d : List β} (h : Paired F a c) (h2 : Paired F b d) : Paired F (a ++ b) (c ++ d) := by
  induction h with
  | nil => exact h2
  | cons r t ih => exact .cons r ih
theorem tp_store {kvs : List (PyData × Va)} {xs : List (NestedKey × Addr × Value)} (h : Paired (TP w K H) kvs xs) {k : PyData} {n : NestedKey} {a : Addr} (e : nkey k = some n) (rk : Rel w K H k (.ref a)) {y : Va} {dv : V} {v : Value} (r1 : RelA w K H y dv) (r2 : RelV dv v) :
    Paired (TP w K H) (dstore kvs k y) (storedH xs n a v) := by
  unfold dstore storedH
  rcases tp_look h e with ⟨h1, h2⟩ | ⟨p, z, _, h1, h2, _⟩
  · rw [h1, h2, if_neg (by simp), if_neg (by simp)]
    exact paired_append h (.cons ⟨e, rk, dv, r1, r2⟩ .nil)
  · rw [h1, h2, if_pos (by simp), if_pos (by simp)]
    exact tp_put h e r1 r2
theorem fp_store {kvs : List (PyData × Va)} {xs : List (Key × Value)} (h : Paired (FP w K H) kvs xs) (q : Key) {y : Va} {dv : V} {v : Value} (r1 : RelA w K H y dv) (r2 : RelV dv v) :
    Paired (FP w K H) (dstore kvs (keyP q) y) (stored xs q v) := by
  have hany : (xs.any fun kv => decide (kv.1 = q)) = (valueAt xs q).isSome := by
    clear h
    induction xs with
    | nil => rfl
    | cons x xs ih =>
      unfold valueAt
      by_cases hx : x.1 = q
      · rw [List.find?_cons_of_pos (by simpa using hx)]; simp [hx]
      · rw [List.find?_cons_of_neg (by simpa using hx), List.any_cons, ih]; simp [hx, valueAt]
  unfold dstore stored
  rw [hany]
  rcases fp_look h q with ⟨h1, h2⟩ | ⟨p, z, _, h1, h2, _⟩
  · rw [h1, h2, if_neg (by simp), if_neg (by simp)]
    exact paired_append h (.cons ⟨rfl, dv, r1, r2⟩ .nil)
  · rw [h1, h2, if_pos (by simp), if_pos (by simp)]
    clear h1 h2 hany
    induction h with
    | nil => exact .nil
    | @cons p x l l' h t ih =>
      refine .cons ?_ ih
      dsimp only
      by_cases hx : x.1 = q
      · rw [if_pos (by unfold dkeyEq; rw [h.key, hx]; simp), if_pos hx]
        exact ⟨h.key, dv, r1, r2⟩
      · rw [if_neg (by
          unfold dkeyEq
          rw [h.key, keyP_n, keyP_n]
          intro z
          exact hx (keyN_inj (by simpa using z))), if_neg hx]
        exact h
theorem tp_wo {kvs : List (PyData × Va)} {xs : List (NestedKey × Addr × Value)} (h : Paired (TP w K H) kvs xs) {k : PyData} {n : NestedKey} (e : nkey k = some n) : Paired (TP w K H) (dwo kvs k) (withoutH xs n) := by
  unfold dwo withoutH
  induction h with
  | nil => exact .nil
  | @cons p x l l' h t ih =>
    by_cases hx : x.1 = n
    · rw [List.filter_cons_of_neg (by unfold dkeyEq; rw [h.key, e, hx]; simp), List.filter_cons_of_neg (by simpa using hx)]
      exact ih
    · rw [List.filter_cons_of_pos (by unfold dkeyEq; rw [h.key, e]; simpa using hx), List.filter_cons_of_pos (by simpa using hx)]
      exact .cons h ih
theorem fp_wo {kvs : List (PyData × Va)} {xs : List (Key × Value)} (h : Paired (FP w K H) kvs xs) (q : Key) : Paired (FP w K H) (dwo kvs (keyP q)) (without xs q) := by
  unfold dwo without
  induction h with
  | nil => exact .nil
  | @cons p x l l' h t ih =>
    by_cases hx : x.1 = q
    · rw [List.filter_cons_of_neg (by unfold dkeyEq; rw [h.key, hx]; simp), List.filter_cons_of_neg (by simpa using hx)]
      exact ih
    · rw [List.filter_cons_of_pos (by
        unfold dkeyEq
        rw [h.key, keyP_n, keyP_n]
        simp only [Bool.not_eq_true', decide_eq_false_iff_not]
        intro z
        exact hx (keyN_inj (by simpa using z))), List.filter_cons_of_pos (by simpa using hx)]
      exact .cons h ih
end
end DL

/-! DLu: a dict at an address; what is asked of it. -/
namespace DL
open PySem PySem.Spec PyProof.Rows L2

theorem ent_nd {w : World} {K : PySem.W.Frag} {H : Hp} {kvs : List (PyData × Va)} {xs : List (NestedKey × Addr × Value)} (h : Paired (TP w K H) kvs xs) (hn : (kvs.map fun p => nkey p.1).Nodup) : (xs.map (·.1)).Nodup := by
  have e : kvs.map (fun p => nkey p.1) = (xs.map (·.1)).map some := by
    clear hn
    induction h with
    | nil => rfl
    | cons h t ih => rw [List.map_cons, List.map_cons, List.map_cons, ih, h.key]
  rw [e] at hn
  rw [List.nodup_iff_pairwise_ne, List.pairwise_map] at hn
  rw [List.nodup_iff_pairwise_ne]
  exact hn.imp fun h z => h (by rw [z])
theorem ent_ndF {w : World} {K : PySem.W.Frag} {H : Hp} {kvs : List (PyData × Va)} {xs : List (Key × Value)} (h : Paired (FP w K H) kvs xs) (hn : (kvs.map fun p => nkey p.1).Nodup) : (xs.map (·.1)).Nodup := by
  have e : kvs.map (fun p => nkey p.1) = (xs.map (·.1)).map fun q => some (keyN q) := by
    clear hn
    induction h with
    | nil => rfl
    | cons h t ih => rw [List.map_cons, List.map_cons, List.map_cons, ih, h.key, keyP_n]
  rw [e] at hn
  rw [List.nodup_iff_pairwise_ne, List.pairwise_map] at hn
  rw [List.nodup_iff_pairwise_ne]
  exact hn.imp fun h z => h (by rw [z])
theorem nd_ent {w : World} {K : PySem.W.Frag} {H : Hp} {kvs : List (PyData × Va)} {xs : List (NestedKey × Addr × Value)} (h : Paired (TP w K H) kvs xs) (hn : (xs.map (·.1)).Nodup) : (kvs.map fun p => nkey p.1).Nodup := by
  have e : kvs.map (fun p => nkey p.1) = (xs.map (·.1)).map some := by
    clear hn
    induction h with
    | nil => rfl
    | cons h t ih => rw [List.map_cons, List.map_cons, List.map_cons, ih, h.key]
  rw [e]
  rw [List.nodup_iff_pairwise_ne, List.pairwise_map]
  rw [List.nodup_iff_pairwise_ne] at hn
  exact hn.imp fun h z => h (Option.some.inj z)
theorem nd_entF {w : World} {K : PySem.W.Frag} {H : Hp} {kvs : List (PyData × Va)} {xs : List (Key × Value)} (h : Paired (FP w K H) kvs xs) (hn : (xs.map (·.1)).Nodup) : (kvs.map fun p => nkey p.1).Nodup := by
  have e : kvs.map (fun p => nkey p.1) = (xs.map (·.1)).map fun q => some (keyN q) := by
    clear hn
    induction h with
    | nil => rfl
    | cons h t ih => rw [List.map_cons, List.map_cons, List.map_cons, ih, h.key, keyP_n]
  rw [e]
  rw [List.nodup_iff_pairwise_ne, List.pairwise_map]
  rw [List.nodup_iff_pairwise_ne] at hn
  exact hn.imp fun h z => h (keyN_inj (Option.some.inj z))
section
variable {X : Cx} {pins : List (Addr × Obj)} {σ : L2.St} {H : Hp} {s : Shared}
theorem ents_tp (I : Inv X pins σ H s) : ∀ {kvs : List (PyData × Va)} {es : List DictEntry}, Paired (EntOk X.w X.K H) kvs es → (kvs.all fun p => tk p.1) = true →
    ∃ xs, es = xs.map (entryOfKey (nestedKind X.prog X.w)) ∧ Paired (TP X.w X.K H) kvs xs ∧ ∀ x ∈ xs, (nestedKind X.prog X.w).is s.heap x.1 x.2.1
  | [], _, h, _ => by cases h; exact ⟨[], rfl, .nil, fun _ hx => (List.not_mem_nil hx).elim⟩
  | p :: kvs, _, h, ht => by
    cases h with
    | @cons _ e _ es h t =>
      rw [List.all_cons, Bool.and_eq_true] at ht
      obtain ⟨xs, rfl, hp, hi⟩ := ents_tp I t ht.2
      obtain ⟨kv, r1, r2⟩ := h.key
      obtain ⟨n', hn', hh⟩ := h.hash
      obtain ⟨n, a, hn, rfl, ek, his⟩ := key_tup I ht.1 r1 r2
      have en : n' = n := Option.some.inj (hn'.symm.trans hn)
      subst en
      refine ⟨(n', a, e.val) :: xs, ?_, .cons ⟨hn', r1, h.val⟩ hp, fun x hx => ?_⟩
      · rw [List.map_cons]
        congr 1
        unfold entryOfKey
        obtain ⟨eh, ekk, ev⟩ := e
        simp only at ek hh
        rw [ek, hh]; rfl
      · rcases List.mem_cons.mp hx with rfl | hx
        · exact his
        · exact hi x hx
theorem tp_ents : ∀ {kvs : List (PyData × Va)} {xs : List (NestedKey × Addr × Value)}, Paired (TP X.w X.K H) kvs xs → Paired (EntOk X.w X.K H) kvs (xs.map (entryOfKey (nestedKind X.prog X.w)))
  | _, _, .nil => .nil
  | _, _, .cons h t => .cons ⟨⟨_, h.rel, rfl⟩, ⟨_, h.key, rfl⟩, h.val⟩ (tp_ents t)
theorem ents_fp : ∀ {kvs : List (PyData × Va)} {es : List DictEntry}, Paired (EntOk X.w X.K H) kvs es → (kvs.all fun p => fk p.1) = true →
    ∃ xs, Pairs (mixKind X.prog X.w) es xs ∧ Paired (FP X.w X.K H) kvs xs ∧ ∀ e ∈ es, ∃ k, keyIs k e.key = true ∧ e.hash = keyH X.w k
  | [], _, h, _ => by cases h; exact ⟨[], .nil, .nil, fun _ hx => (List.not_mem_nil hx).elim⟩
  | p :: kvs, _, h, ht => by
    cases h with
    | @cons _ e _ es h t =>
      rw [List.all_cons, Bool.and_eq_true] at ht
      obtain ⟨xs, hp, hf, hi⟩ := ents_fp t ht.2
      obtain ⟨kv, r1, r2⟩ := h.key
      obtain ⟨n', hn', hh⟩ := h.hash
      obtain ⟨q, ek, hn, hk⟩ := key_flat ht.1 r1 r2
      rw [hn] at hn'
      cases hn'
      refine ⟨(q, e.val) :: xs, .cons hk rfl hp, .cons ⟨ek, h.val⟩ hf, fun x hx => ?_⟩
      rcases List.mem_cons.mp hx with rfl | hx
      · exact ⟨q, hk, by rw [hh, keyN_hash]⟩
      · exact hi x hx
theorem rel_keyP {w : World} {K : PySem.W.Frag} (q : Key) {u : Value} (h : keyIs q u = true) : ∃ kv, Rel w K H (keyP q) kv ∧ RelV kv u := by
  rcases keyIs_shape h with ⟨i, t, rfl, rfl⟩ | ⟨x, t, rfl, rfl⟩
  · exact ⟨.int i, .int i, t, rfl⟩
  · exact ⟨.str x, .str x, t, rfl⟩
theorem fp_ents : ∀ {kvs : List (PyData × Va)} {xs : List (Key × Value)} {es : List DictEntry}, Paired (FP X.w X.K H) kvs xs → Pairs (mixKind X.prog X.w) es xs → (∀ e ∈ es, ∃ k, keyIs k e.key = true ∧ e.hash = keyH X.w k) → Paired (EntOk X.w X.K H) kvs es
  | _, _, _, .nil, hp, _ => by cases hp; exact .nil
  | _, _, _, .cons h t, hp, hk => by
    cases hp with
    | cons h1 h2 hp =>
      obtain ⟨k, k1, k2⟩ := hk _ List.mem_cons_self
      have ek := (mixKind X.prog X.w).inj _ _ _ k1 h1
      subst ek
      refine .cons ⟨?_, ?_, ?_⟩ (fp_ents t hp fun e he => hk e (List.mem_cons_of_mem _ he))
      · rw [h.key]; exact rel_keyP _ h1
      · rw [h.key]; exact ⟨_, keyP_n _, by rw [k2, keyN_hash]⟩
      · rw [h2]; exact h.val

/-- a dict of these entries stands at a -/
structure DTh (X : Cx) (H : Hp) (s : Shared) (a : Addr) (o : Obj) (es : List DictEntry) (kvs : List (PyData × Va)) : Prop where
  at_ : s.heap.get? a = some o
  obj : DObj o es
  ents : Paired (EntOk X.w X.K H) kvs es
  nosys : a ≠ sysModules
  len : es.length ≤ sizeLine
  nd : (kvs.map fun p => nkey p.1).Nodup
theorem DTh.tups {a : Addr} {o : Obj} {es : List DictEntry} {kvs : List (PyData × Va)} (D : DTh X H s a o es kvs) (I : Inv X pins σ H s) (h : (kvs.all fun p => tk p.1) = true) :
    ∃ xs, s.heap.DictOfH (nestedKind X.prog X.w) a xs ∧ Paired (TP X.w X.K H) kvs xs ∧ xs.length = es.length := by
  obtain ⟨xs, e, hp, hi⟩ := ents_tp I D.ents h
  obtain ⟨ar, ep, hx, hd, he⟩ := D.obj
  exact ⟨xs, ⟨o, ar, ep, D.at_, hx, hd, by rw [he, e], hi, ent_nd hp D.nd⟩, hp, by rw [e, List.length_map]⟩
theorem DTh.flat {a : Addr} {o : Obj} {es : List DictEntry} {kvs : List (PyData × Va)} (D : DTh X H s a o es kvs) (h : (kvs.all fun p => fk p.1) = true) :
    ∃ xs, s.heap.DictOf (mixKind X.prog X.w) a xs ∧ Paired (FP X.w X.K H) kvs xs ∧ xs.length = es.length := by
  obtain ⟨xs, hp, hf, hk⟩ := ents_fp D.ents h
  obtain ⟨ar, ep, hx, hd, he⟩ := D.obj
  refine ⟨xs, ⟨o, ar, ep, D.at_, hx, hd, fun e hm => ?_, by rw [he]; exact hp, ent_ndF hf D.nd⟩, hf, hp.length.symm⟩
  exact hk e (by rw [← he]; exact Array.mem_toList_iff.mpr hm)
theorem homB_of {α : Type} {kvs : List (PyData × α)} {k : PyData} (h : homB kvs k = true) : (tk k = true ∧ (kvs.all fun p => tk p.1) = true) ∨ (fk k = true ∧ (kvs.all fun p => fk p.1) = true) := by
  unfold homB at h
  rw [Bool.or_eq_true, Bool.and_eq_true, Bool.and_eq_true] at h
  exact h
/-- k in d -/
theorem dict_in {a : Addr} {o : Obj} {es : List DictEntry} {kvs : List (PyData × Va)} {k : PyData} {v : V} {u : Value} {Q E : Value → Shared → Prop} (D : DTh X H s a o es kvs) (I : Inv X pins σ H s) (h : homB kvs k = true) (r : Rel X.w X.K H k v) (rv : RelV v u) (hu : X.A.units + 9 < cLine)
    (q : ∀ tk, Q (.bool (dlook kvs k).isSome) { s with toks := tk }) : wpAny (model X.prog X.w) X.A (compareOp .In u (.ref a)) Q E s := by
  have hs : (a == sysModules) = false := beq_eq_false_iff_ne.mpr D.nosys
  rcases homB_of h with ⟨h1, h2⟩ | ⟨h1, h2⟩
  · obtain ⟨xs, hd, hp, hl⟩ := D.tups I h2
    obtain ⟨n, b, hn, rfl, rfl, his⟩ := key_tup I h1 r rv
    refine wpAny_in_heap (by show X.A.units + 1 + 8 < cLine; omega) his hs hd ?_
    rcases tp_look hp hn with ⟨e1, e2⟩ | ⟨p, y, dv, e1, e2, _, _⟩
    · rw [e1]; have := q (s.toks + (nestedKind X.prog X.w).draws n); rw [e2] at this; exact this
    · rw [e1]; have := q (s.toks + (nestedKind X.prog X.w).draws n); rw [e2] at this; exact this
  · obtain ⟨xs, hd, hp, hl⟩ := D.flat h2
    obtain ⟨g, rfl, hn, hk⟩ := key_flat h1 r rv
    refine wpAny_in_of (knd := mixKind X.prog X.w) hk hs hd.mapOf ?_
    rcases fp_look hp g with ⟨e1, e2⟩ | ⟨p, y, dv, e1, e2, _, _⟩
    · rw [e1]; have := q (s.toks + 1); rw [e2] at this; exact this
    · rw [e1]; have := q (s.toks + 1); rw [e2] at this; exact this
/-- k not in d -/
theorem dict_notin {a : Addr} {o : Obj} {es : List DictEntry} {kvs : List (PyData × Va)} {k : PyData} {v : V} {u : Value} {Q E : Value → Shared → Prop} (D : DTh X H s a o es kvs) (I : Inv X pins σ H s) (h : homB kvs k = true) (r : Rel X.w X.K H k v) (rv : RelV v u) (hu : X.A.units + 9 < cLine)
    (q : ∀ tk, Q (.bool (!(dlook kvs k).isSome)) { s with toks := tk }) : wpAny (model X.prog X.w) X.A (compareOp .NotIn u (.ref a)) Q E s := by
  have hs : (a == sysModules) = false := beq_eq_false_iff_ne.mpr D.nosys
  rcases homB_of h with ⟨h1, h2⟩ | ⟨h1, h2⟩
  · obtain ⟨xs, hd, hp, hl⟩ := D.tups I h2
    obtain ⟨n, b, hn, rfl, rfl, his⟩ := key_tup I h1 r rv
    show wpAny _ _ (do return .bool (!(← contains (.ref a) (.ref b)))) Q E s
    refine wpAny_bind (wpAny_contains_heap (by show X.A.units + 1 + 8 < cLine; omega) his hs hd (wpAny_pure ?_))
    rcases tp_look hp hn with ⟨e1, e2⟩ | ⟨p, y, dv, e1, e2, _, _⟩
    · rw [e1]; have := q (s.toks + (nestedKind X.prog X.w).draws n); rw [e2] at this; exact this
    · rw [e1]; have := q (s.toks + (nestedKind X.prog X.w).draws n); rw [e2] at this; exact this
  · obtain ⟨xs, hd, hp, hl⟩ := D.flat h2
    obtain ⟨g, rfl, hn, hk⟩ := key_flat h1 r rv
    refine wpAny_notIn_of (knd := mixKind X.prog X.w) hk hs hd.mapOf ?_
    rcases fp_look hp g with ⟨e1, e2⟩ | ⟨p, y, dv, e1, e2, _, _⟩
    · rw [e1]; have := q (s.toks + 1); rw [e2] at this; exact this
    · rw [e1]; have := q (s.toks + 1); rw [e2] at this; exact this
/-- d[k] -/
theorem dict_get {a : Addr} {o : Obj} {es : List DictEntry} {kvs : List (PyData × Va)} {k : PyData} {v : V} {u : Value} {y : Va} {Q E : Value → Shared → Prop} (D : DTh X H s a o es kvs) (I : Inv X pins σ H s) (h : homB kvs k = true) (r : Rel X.w X.K H k v) (rv : RelV v u) (hu : X.A.units + 9 < cLine) (hy : dlook kvs k = some y)
    (q : ∀ dv u' tk, RelA X.w X.K H y dv → RelV dv u' → Q u' { s with toks := tk }) : wpAny (model X.prog X.w) X.A (getItem (.ref a) u) Q E s := by
  rcases homB_of h with ⟨h1, h2⟩ | ⟨h1, h2⟩
  · obtain ⟨xs, hd, hp, hl⟩ := D.tups I h2
    obtain ⟨n, b, hn, rfl, rfl, his⟩ := key_tup I h1 r rv
    rcases tp_look hp hn with ⟨e1, e2⟩ | ⟨p, y', dv, e1, e2, r1, r2⟩
    · rw [e2] at hy; cases hy
    · rw [e2] at hy; cases hy
      exact wpAny_getItem_heap (by show X.A.units + 1 + 8 < cLine; omega) his hd e1 (q dv p.2 _ r1 r2)
  · obtain ⟨xs, hd, hp, hl⟩ := D.flat h2
    obtain ⟨g, rfl, hn, hk⟩ := key_flat h1 r rv
    rcases fp_look hp g with ⟨e1, e2⟩ | ⟨p, y', dv, e1, e2, r1, r2⟩
    · rw [e2] at hy; cases hy
    · rw [e2] at hy; cases hy
      exact wpAny_getItem_of (knd := mixKind X.prog X.w) hk hd.mapOf e1 (q dv p _ r1 r2)
/-- d.get(k) -/
theorem dict_getm {a : Addr} {o : Obj} {es : List DictEntry} {kvs : List (PyData × Va)} {k : PyData} {v : V} {u : Value} {Q E : Value → Shared → Prop} (D : DTh X H s a o es kvs) (I : Inv X pins σ H s) (h : homB kvs k = true) (r : Rel X.w X.K H k v) (rv : RelV v u) (hu : X.A.units + 9 < cLine)
    (q : ∀ dv u' tk, RelA X.w X.K H ((dlook kvs k).getD (.dat .none)) dv → RelV dv u' → Q u' { s with toks := tk }) : wpAny (model X.prog X.w) X.A (call (.builtin "dict.get") [.ref a, u]) Q E s := by
  have hs : (a == sysModules) = false := beq_eq_false_iff_ne.mpr D.nosys
  rcases homB_of h with ⟨h1, h2⟩ | ⟨h1, h2⟩
  · obtain ⟨xs, hd, hp, hl⟩ := D.tups I h2
    obtain ⟨n, b, hn, rfl, rfl, his⟩ := key_tup I h1 r rv
    refine get_keyed (by show X.A.units + 1 + 8 < cLine; omega) his hs ⟨xs, hd, rfl⟩ ?_
    rw [valueAt_pairsH]
    rcases tp_look hp hn with ⟨e1, e2⟩ | ⟨p, y', dv, e1, e2, r1, r2⟩
    · rw [e1]; rw [e2] at q; exact q .non .none _ Rel.non rfl
    · rw [e1]; rw [e2] at q; exact q dv p.2 _ r1 r2
  · obtain ⟨xs, hd, hp, hl⟩ := D.flat h2
    obtain ⟨g, rfl, hn, hk⟩ := key_flat h1 r rv
    refine call_meetsIn F.slot_dict_get hd.typeIs F.entry_dict_get (F.args_dict_get_2 _ _) (meets_dict_get (mixKind X.prog X.w) a (k := g) hk hs) ⟨_, hd.mapOf, ?_⟩
    rcases fp_look hp g with ⟨e1, e2⟩ | ⟨p, y', dv, e1, e2, r1, r2⟩
    · rw [e1]; rw [e2] at q; exact q .non .none _ Rel.non rfl
    · rw [e1]; rw [e2] at q; exact q dv p _ r1 r2
end
end DL

/-! DLv: dicts that are changed; what stands where a name of a dict stands. -/
namespace DL
open PySem PySem.Spec PyProof.Rows L2

section
variable {X : Cx} {pins : List (Addr × Obj)} {σ : L2.St} {H : Hp} {s : Shared}
theorem DTh.told (I : Inv X pins σ H s) {G : Gp} (A : AbsG X.w X.K H G) {a : Addr} {kvs : List (PyData × Va)} (g : G a = some (.dct kvs)) : ∃ o es, DTh X H s a o es kvs ∧ H a = some (.ext (exactly a o)) := by
  obtain ⟨o, es, e1, e2, e3, e4, e5, e6⟩ := A a _ g
  exact ⟨o, es, ⟨(show ObjOk X.prog X.w H s.heap a (.ext (exactly a o)) from I.hok a _ e1).1, e2, e6, e3, e4, e5⟩, e1⟩
theorem DTh.data (I : Inv X pins σ H s) {v : V} {kvs : List (PyData × PyData)} (n : Now X.w X.K H (.dict kvs) v) : ∃ a o es, v = .ref a ∧ DTh X H s a o es (kvs.map fun p => (p.1, Va.dat p.2)) := by
  cases n with
  | rel n => cases n with | dct h1 h2 h3 h4 h5 h6 => exact ⟨_, _, _, rfl, (I.hok _ _ h1).1, h2, h6.ents, h3, h4, by rw [List.map_map]; exact h5⟩
  | dct h1 h2 h3 h4 h5 h6 => exact ⟨_, _, _, rfl, (show ObjOk X.prog X.w H s.heap _ (.ext (exactly _ _)) from I.hok _ _ h1).1, h2, h6.ents, h3, h4, by rw [List.map_map]; exact h5⟩
/-- a dict has been written -/
theorem put_dict (I : Inv X pins σ H s) {G : Gp} (A : AbsG X.w X.K H G) {a : Addr} {o o' : Obj} {kvs kvs' : List (PyData × Va)} {es' : List DictEntry} {h' : Heap} {tk : Nat} (g : G a = some (.dct kvs)) (ha : H a = some (.ext (exactly a o))) (hs : a ≠ sysModules) (sb : Heap.SameBut a s.heap h')
    (e : h'.get? a = some o') (d : DObj o' es') (p : Paired (EntOk X.w X.K H) kvs' es') (hz : es'.length ≤ sizeLine) (nd : (kvs'.map fun p => nkey p.1).Nodup) :
    Inv X pins σ (upd H a (.ext (exactly a o'))) { s with heap := h', toks := tk } ∧ AbsG X.w X.K (upd H a (.ext (exactly a o'))) (gup G a (.dct kvs')) ∧ Step H G (upd H a (.ext (exactly a o'))) (gup G a (.dct kvs')) := by
  have st : Step H G (upd H a (.ext (exactly a o'))) (gup G a (.dct kvs')) := Step.put g ha True.intro
  refine ⟨I.write (x := a) (e := a) (by rw [ha]; exact True.intro) (.inl rfl) (fun b u hb q => (sb.2 b hb).trans q) ⟨_, e⟩ ?_, ?_, st⟩
  · exact ⟨e, ⟨_, e⟩, fun h1 h2 q k => k _ q⟩
  · exact A.put g ⟨o', es', upd_same, d, hs, hz, nd, Paired.mapP p fun _ _ q => q.ext st.ext⟩
theorem stored_len {K : Type} [DecidableEq K] {xs : List (K × Addr × Value)} {k : K} {a : Addr} {v : Value} : (storedH xs k a v).length ≤ xs.length + 1 := by
  unfold storedH
  split
  · rw [List.length_map]; omega
  · rw [List.length_append, List.length_singleton]; omega
theorem storedF_len {K : Type} [DecidableEq K] {xs : List (K × Value)} {k : K} {v : Value} : (stored xs k v).length ≤ xs.length + 1 := by
  unfold stored
  split
  · rw [List.length_map]; omega
  · rw [List.length_append, List.length_singleton]; omega
/-- what stands at d behind a write -/
theorem after_tups {h' : Heap} {a : Addr} {xs : List (NestedKey × Addr × Value)} {kvs : List (PyData × Va)} (hd : h'.DictOfH (nestedKind X.prog X.w) a xs) (hp : Paired (TP X.w X.K H) kvs xs) :
    ∃ o es, h'.get? a = some o ∧ DObj o es ∧ Paired (EntOk X.w X.K H) kvs es ∧ es.length = xs.length ∧ (kvs.map fun p => nkey p.1).Nodup := by
  obtain ⟨o, es, ep, ho, hx, hd, he, _, hn⟩ := hd
  exact ⟨o, _, ho, ⟨es, ep, hx, hd, he⟩, tp_ents hp, by rw [List.length_map], nd_ent hp hn⟩
theorem after_flat {h' : Heap} {a : Addr} {xs : List (Key × Value)} {kvs : List (PyData × Va)} (hd : h'.DictOf (mixKind X.prog X.w) a xs) (hp : Paired (FP X.w X.K H) kvs xs) :
    ∃ o es, h'.get? a = some o ∧ DObj o es ∧ Paired (EntOk X.w X.K H) kvs es ∧ es.length = xs.length ∧ (kvs.map fun p => nkey p.1).Nodup := by
  obtain ⟨o, es, ep, ho, hx, hd, hk, hp', hn⟩ := hd
  refine ⟨o, es.toList, ho, ⟨es, ep, hx, hd, rfl⟩, fp_ents hp hp' fun e he => ?_, hp'.length, nd_entF hp hn⟩
  obtain ⟨k, k1, k2⟩ := hk e (Array.mem_toList_iff.mp he)
  exact ⟨k, k1, k2⟩
/-- d[k] = v -/
theorem dict_set {a : Addr} {G : Gp} {kvs : List (PyData × Va)} {k : PyData} {y : Va} {v yv : V} {u uv : Value} {Q : Unit → Shared → Prop} {E : Value → Shared → Prop} (I : Inv X pins σ H s) (A : AbsG X.w X.K H G) (g : G a = some (.dct kvs)) (h : homB kvs k = true) (hz : kvs.length < sizeLine) (r : Rel X.w X.K H k v) (rv : RelV v u) (ry : RelA X.w X.K H y yv) (ruv : RelV yv uv) (hu : X.A.units + 9 < cLine)
    (q : ∀ (H' : Hp) (s' : Shared), Inv X pins σ H' s' → AbsG X.w X.K H' (gup G a (.dct (dstore kvs k y))) → Step H G H' (gup G a (.dct (dstore kvs k y))) → Q () s') : wpAny (model X.prog X.w) X.A (setItem (.ref a) u uv) Q E s := by
  obtain ⟨o, es, D, ha⟩ := DTh.told I A g
  have hl := Paired.len D.ents
  rcases homB_of h with ⟨h1, h2⟩ | ⟨h1, h2⟩
  · obtain ⟨xs, hd, hp, hxl⟩ := D.tups I h2
    obtain ⟨n, b, hn, rfl, rfl, his⟩ := key_tup I h1 r rv
    refine wpAny_setItem_heap (hsz := by omega) (by show X.A.units + 1 + 8 < cLine; omega) his hd fun h' hd' sb => ?_
    obtain ⟨o', es', e1, e2, e3, e4, e5⟩ := after_tups hd' (tp_store hp hn r ry ruv)
    have := stored_len (xs := xs) (k := n) (a := b) (v := uv)
    obtain ⟨I', A', st⟩ := put_dict (tk := s.toks + (nestedKind X.prog X.w).draws n) I A g ha D.nosys sb e1 e2 e3 (by omega) e5
    exact q _ _ I' A' st
  · obtain ⟨xs, hd, hp, hxl⟩ := D.flat h2
    obtain ⟨f, rfl, hn, hk⟩ := key_flat h1 r rv
    refine wpAny_setItem_pairs (knd := mixKind X.prog X.w) (hsz := by omega) hk hd fun h' hd' sb => ?_
    obtain ⟨o', es', e1, e2, e3, e4, e5⟩ := after_flat hd' (fp_store hp f ry ruv)
    have := storedF_len (xs := xs) (k := f) (v := uv)
    obtain ⟨I', A', st⟩ := put_dict (tk := s.toks + 1) I A g ha D.nosys sb e1 e2 e3 (by omega) e5
    exact q _ _ I' A' st
end

/-! ### o[i] = v -/
def setO (m : MO) (i x : Va) (m' : MO) : Prop := match m with
  | .lst xs => setL xs i x m'
  | .dct kvs => ∃ k, i = .dat k ∧ homB kvs k = true ∧ kvs.length < sizeLine ∧ m' = .dct (dstore kvs k x)
  | .ins _ _ => False
def gIx (to ti : DE) : DG := fun x τ G Q => to τ G fun o G1 => ti τ G1 fun i G2 => ∃ a m m', o = .ref a ∧ G2 a = some m ∧ setO m i x m' ∧ Q τ (gup G2 a m')
section
variable {X : Cx} {o i : Expr} {to ti : DE} {pos : Pos}
theorem setO_r {k : Nat} (hr : Room k X.A) : PSet X (fun ov iv vv H Q => ∃ (oa ia xa : Va) (G : Gp) (Q0 : Gp → Prop), RelA X.w X.K H oa ov ∧ RelA X.w X.K H ia iv ∧ RelA X.w X.K H xa vv ∧ AbsG X.w X.K H G ∧ (∃ a m m', oa = .ref a ∧ G a = some m ∧ setO m ia xa m' ∧ Q0 (gup G a m')) ∧ ∀ G' H', Q0 G' → AbsG X.w X.K H' G' → Step H G H' G' → Q H') := by
  intro pins s σ H ov iv vv u1 u2 u3 Q I r1 r2 r3 h
  obtain ⟨oa, ia, xa, G, Q0, ro, ri, rx, ag, ⟨a, m, m', rfl, g, hm, q⟩, hQ⟩ := h
  cases m with
  | lst xs => exact setL_r pins s σ H ov iv vv u1 u2 u3 Q I r1 r2 r3 ⟨.ref a, ia, xa, G, Q0, ro, ri, rx, ag, ⟨a, xs, m', rfl, g, hm, q⟩, hQ⟩
  | ins _ _ => exact hm.elim
  | dct kvs =>
    obtain ⟨k, rfl, hh, hz, rfl⟩ := hm
    have eo : ov = .ref a := ro
    subst eo
    cases r1
    exact dict_set I ag g hh hz ri r2 rx r3 (by have := hr.un; omega) fun H' s' I' A' st => ⟨H', I', hQ _ _ q A' st⟩
theorem qg_ix {k : Nat} (hr : Room k X.A) (ho : PE X o (upE X.w X.K to)) (hi : PE X i (upE X.w X.K ti))
    (ha : ∀ v, assign (.Subscript o i pos) X.env v = (do
      let ov ← holding [v] (eval o X.env)
      let iv ← holding [v, ov] (eval i X.env)
      standAt pos
      holding [v, ov, iv] (setItem ov iv v)
      release [v, ov, iv] []) := by intro _; rfl) : PG X (.Subscript o i pos) (upG X.w X.K (gIx to ti)) :=
  PG.imp (pg_sub ho hi (setO_r hr) ha) fun v σ H Q ⟨x, τ, G, Q0, r, ab, q, hQ⟩ => ⟨τ, G, _, ab, q, fun oa G1 v1 H1 q1 r1 a1 s1 => ⟨τ, G1, _, ab.step s1.ext a1, q1, fun ia G2 v2 H2 q2 r2 a2 s2 =>
    ⟨oa, ia, x, G2, fun G' => Q0 τ G', r1.ext s2.ext, r2, (r.ext s1.ext).ext s2.ext, a2, q2, fun G' H' q' a' s' => hQ τ G' σ H' q' (ab.step ((s1.trans s2).trans s').ext a') ((s1.trans s2).trans s')⟩⟩⟩
end
end DL

/-! DLw: dicts asked: in, d[k], len, get, setdefault, pop; new dicts. -/
namespace DL
open PySem PySem.Spec PyProof.Rows L2

abbrev dats (kvs : List (PyData × PyData)) : List (PyData × Va) := kvs.map fun p => (p.1, Va.dat p.2)
theorem dlook_dats (kvs : List (PyData × PyData)) (k : PyData) : dlook (dats kvs) k = (dlook kvs k).map Va.dat := by
  unfold dlook
  induction kvs with
  | nil => rfl
  | cons p kvs ih =>
    show Option.map _ (List.find? _ ((p.1, Va.dat p.2) :: dats kvs)) = _
    by_cases h : dkeyEq p.1 k = true
    · rw [List.find?_cons_of_pos (by exact h), List.find?_cons_of_pos (by exact h)]; rfl
    · rw [List.find?_cons_of_neg (by exact h), List.find?_cons_of_neg (by exact h)]; exact ih
theorem homB_dats (kvs : List (PyData × PyData)) (k : PyData) : homB (dats kvs) k = homB kvs k := by
  unfold homB
  rw [List.all_map, List.all_map]; rfl

/-! ### in -/
def inDF (d e : PyData) : Option PyData := match e with
  | .dict kvs => if homB kvs d then some (.bool (dlook kvs d).isSome) else none
  | _ => inF d e
def notInDF (d e : PyData) : Option PyData := match e with
  | .dict kvs => if homB kvs d then some (.bool (!(dlook kvs d).isSome)) else none
  | _ => notInF d e
section
variable {X : Cx}
theorem o_inD {k : Nat} (hr : Room k X.A) : O2 X (compareOp .In) inDF := by
  intro pins s σ H d e z x y u1 u2 Q I n1 r1 n2 r2 h kk
  by_cases he : ∃ kvs, e = .dict kvs
  · obtain ⟨kvs, rfl⟩ := he
    have h' : (if homB kvs d then some (PyData.bool (dlook kvs d).isSome) else none) = some z := h
    split at h'
    · cases h'
      rename_i hh
      obtain ⟨a, o, es, rfl, D⟩ := DTh.data I n2
      cases r2
      have hd : Rel X.w X.K H d x := by
        cases n1 with
        | rel n1 => exact n1
        | lst _ _ => unfold homB at hh; simp [tk, fk] at hh
        | dct _ _ _ _ _ _ => unfold homB at hh; simp [tk, fk] at hh
      refine dict_in D I (by rw [homB_dats]; exact hh) hd r1 (by have := hr.un; omega) fun tk => ?_
      rw [dlook_dats, Option.isSome_map]
      exact kk (.bl _) _ H _ (I.tok tk) rfl (Rel.bl _) (Same.refl _)
    · cases h'
  · refine o_in hr pins s σ H d e z x y u1 u2 Q I n1 r1 n2 r2 ?_ kk
    rw [← h]
    cases e <;> first | rfl | exact absurd ⟨_, rfl⟩ he
theorem o_notInD {k : Nat} (hr : Room k X.A) : O2 X (compareOp .NotIn) notInDF := by
  intro pins s σ H d e z x y u1 u2 Q I n1 r1 n2 r2 h kk
  by_cases he : ∃ kvs, e = .dict kvs
  · obtain ⟨kvs, rfl⟩ := he
    have h' : (if homB kvs d then some (PyData.bool (!(dlook kvs d).isSome)) else none) = some z := h
    split at h'
    · cases h'
      rename_i hh
      obtain ⟨a, o, es, rfl, D⟩ := DTh.data I n2
      cases r2
      have hd : Rel X.w X.K H d x := by
        cases n1 with
        | rel n1 => exact n1
        | lst _ _ => unfold homB at hh; simp [tk, fk] at hh
        | dct _ _ _ _ _ _ => unfold homB at hh; simp [tk, fk] at hh
      refine dict_notin D I (by rw [homB_dats]; exact hh) hd r1 (by have := hr.un; omega) fun tk => ?_
      rw [dlook_dats, Option.isSome_map]
      exact kk (.bl _) _ H _ (I.tok tk) rfl (Rel.bl _) (Same.refl _)
    · cases h'
  · refine o_notin hr pins s σ H d e z x y u1 u2 Q I n1 r1 n2 r2 ?_ kk
    rw [← h]
    cases e <;> first | rfl | exact absurd ⟨_, rfl⟩ he

/-! ### d[k] -/
def ixDF (d e : PyData) : Option PyData := match d with
  | .dict kvs => if homB kvs e then dlook kvs e else none
  | _ => ixF d e
def ixV (G : Gp) (x y : Va) : Option Va := match x, y with
  | .dat d, .dat e => (ixDF d e).map .dat
  | .ref a, .dat e => match G a with
    | some (.lst xs) => match e with
      | .int i => atI xs i
      | _ => none
    | some (.dct kvs) => if homB kvs e then dlook kvs e else none
    | _ => none
  | _, _ => none
def dIx (ta tb : DE) : DE := fun τ G Q => ta τ G fun x G1 => tb τ G1 fun y G2 => ∃ z, ixV G2 x y = some z ∧ Q z G2
def rIxA (w : World) (K : PySem.W.Frag) : R2 := fun x y H Q => ∃ xa ya G Q0 z, RelA w K H xa x ∧ RelA w K H ya y ∧ AbsG w K H G ∧ ixV G xa ya = some z ∧ Q0 z G ∧ upQ w K H G Q0 Q
theorem ix_any {k : Nat} (hr : Room k X.A) : IxR X (rIxA X.w X.K) := by
  intro value slice pins s σ H x y v u Q I rx ry h hs
  obtain ⟨xa, ya, G, Q0, z, r1, r2, ag, e, q, hQ⟩ := h
  have un := hr.un
  have dic : ∀ (a : Addr) (o : Obj) (es : List DictEntry) (kvs : List (PyData × Va)) (e : PyData), v = .ref a → DTh X H s a o es kvs → homB kvs e = true → dlook kvs e = some z → Rel X.w X.K H e y → wpAny (model X.prog X.w) X.A (subscriptTail value slice v u) (EP X pins σ Q) X.xe s := by
    intro a o es kvs e ev D hh hl re
    subst ev
    obtain ⟨ar, ep, hx, _⟩ := D.obj
    exact tail_any (show s.TypeIs (.ref a) "dict" from ⟨o, D.at_, hx.1⟩) slot_dict_getitem.lookup (dict_get D I hh re ry (by omega) hl fun dv u' tk ra rv => ⟨dv, H, I.tok tk, rv, hQ z G dv H q ra ag .refl⟩) hs
  cases xa with
  | dat d =>
    cases ya with
    | ref b => cases e
    | dat e' =>
      by_cases hd : ∃ kvs, d = .dict kvs
      · obtain ⟨kvs, rfl⟩ := hd
        have e2 : ((if homB kvs e' then dlook kvs e' else none).map Va.dat) = some z := e
        split at e2
        · rename_i hh
          obtain ⟨a, o, es, rfl, D⟩ := DTh.data I (.rel r1)
          cases rx
          exact dic a o es _ e' rfl D (by rw [homB_dats]; exact hh) (by rw [dlook_dats]; exact e2) r2
        · cases e2
      · have e2 : ixVs G (.dat d) (.dat e') = some z := by
          rw [← e]
          cases d <;> first | rfl | exact absurd ⟨_, rfl⟩ hd
        exact ix_data value slice pins s σ H x y v u Q I rx ry ⟨.dat d, .dat e', G, Q0, z, r1, r2, ag, e2, q, hQ⟩ hs
  | ref a =>
    cases ya with
    | ref b => cases e
    | dat e' =>
      cases g : G a with
      | none => simp [ixV, g] at e
      | some o =>
        cases o with
        | ins _ _ => simp [ixV, g] at e
        | lst xs =>
          cases e' with
          | int i =>
            refine ix_data value slice pins s σ H x y v u Q I rx ry ⟨.ref a, .dat (.int i), G, Q0, z, r1, r2, ag, ?_, q, hQ⟩ hs
            simp [ixV, g] at e
            simp [ixVs, g, e]
          | _ => simp [ixV, g] at e
        | dct kvs =>
          simp [ixV, g] at e
          obtain ⟨o, es, D, _⟩ := DTh.told I ag g
          have ex : x = .ref a := r1
          subst ex
          cases rx
          exact dic a o es kvs e' rfl D e.1 e.2 r2
variable {a b : Expr} {ta tb : DE} {pos : Pos}
theorem q_ix {k : Nat} (hr : Room k X.A) (ha : PE X a (upE X.w X.K ta)) (hb : PE X b (upE X.w X.K tb)) (hs : PlainIx b := by exact fun _ _ => rfl) : PE X (.Subscript a b pos) (upE X.w X.K (dIx ta tb)) := (pe_ix (ix_any hr) ha hb hs).imp fun σ H Q h => by
  obtain ⟨τ, G, Q0, ab, q, hQ⟩ := h
  refine ⟨τ, G, _, ab, q, fun x G1 v1 H1 q1 r1 a1 s1 => ⟨τ, G1, _, ab.step s1.ext a1, q1, fun y G2 v2 H2 q2 r2 a2 s2 => ?_⟩⟩
  obtain ⟨z, e1, q3⟩ := q2
  exact ⟨x, y, G2, Q0, z, r1.ext s2.ext, r2, a2, e1, q3, hQ.step (s1.trans s2)⟩
end
end DL

/-! DLx: len of dicts, d.get, new dicts. -/
namespace DL
open PySem PySem.Spec PyProof.Rows L2

theorem len_body_raw {prog : Program} {w : World} {A : Around} {E : Value → Shared → Prop} {s : Shared} {d : Addr} {es : Array DictEntry} {ep : Nat} {Q : Value → Shared → Prop} (hd : (d == sysModules) = false) (hm : s.heap.DictRaw d es ep) (hfit : (es.size : Int) < 2 ^ 63)
    (h : Q (.int es.size (s.toks + 1)) { s with toks := s.toks + 1 + 1 }) : wpAny (model prog w) A (call (.builtin "len") [.ref d]) Q E s := by
  refine Calls.call_function_entry kind_len plain_len entry_len (args_len1 _) ?_
  unfold Builtin.«len»
  refine wpAny_bind (m := oneArg "len" _) (wpAny_pure ?_)
  refine wpAny_bind (m := callSpecial? (.ref d) (Str.ofString "__len__")) (wpAny_callSpecial?_slot (name := Str.ofString "__len__") hm.typeIs F.slot_dict_len
    (call_meetsIn F.slot_dict_len hm.typeIs F.entry_dict_len (F.args_dict_len_1 _) (meets_dict_len_raw d hd) ⟨es, ep, hm, ?_⟩))
  show wpAny _ _ _ _ _ { s with toks := s.toks + 1 }
  refine wpAny_bind (wpAny_holding (wpAny_pure ?_))
  refine wpAny_bind (wpAny_letGo ?_)
  show wpAny _ _ (if ((es.size : Nat) : Int) < 0 then _ else _) _ _ _
  rw [if_neg (by omega)]
  show wpAny _ _ (if ((es.size : Nat) : Int) ≥ 2 ^ 63 then _ else _) _ _ _
  rw [if_neg (by omega)]
  exact wpAny_bind (wpAny_mkInt (wpAny_pure ⟨_, rfl, h⟩))
/-- len of data, dicts too -/
def lenDF : PyData → PyData → Prop
  | .dict kvs, z => z = .int kvs.length
  | d, z => lenF d z
section
variable {X : Cx}
theorem c_lenD : C1 X (.builtin "len") lenDF := by
  intro pins s σ H d z x u Q I n r o k
  by_cases hd : ∃ kvs, d = .dict kvs
  · obtain ⟨kvs, rfl⟩ := hd
    obtain rfl : z = .int kvs.length := o
    obtain ⟨a, ob, es, rfl, D⟩ := DTh.data I n
    cases r
    obtain ⟨ar, ep, hx, hdt, he⟩ := D.obj
    have hl := Paired.len D.ents
    have hsz : ar.size = es.length := by rw [← he, Array.length_toList]
    have hz := D.len
    rw [List.length_map] at hl
    refine len_body_raw (beq_eq_false_iff_ne.mpr D.nosys) ⟨ob, D.at_, hx, hdt⟩ (by rw [hsz]; rw [sizeLine_eq] at hz; omega) ?_
    have e : ((ar.size : Nat) : Int) = ((kvs.length : Nat) : Int) := by rw [hsz, ← hl]
    rw [e]
    exact k (.int _) _ H _ (I.tok _) ⟨_, rfl⟩ (Rel.int _) (Same.refl _)
  · refine c_len pins s σ H d z x u Q I n r ?_ k
    cases d <;> first | exact o | exact absurd ⟨_, rfl⟩ hd
/-- d.get(k) -/
def mGet : DMt := fun x ys G Q => ∃ kvs k, see G x = some (.dict kvs) ∧ ys = [.dat k] ∧ homB kvs k = true ∧ Q (.dat ((dlook kvs k).getD .none)) G
theorem m_get {k : Nat} (hr : Room k X.A) : MtR X "dict.get" (rMt X.w X.K mGet) := by
  intro pins s σ H v vs u us Q I rv rus h
  obtain ⟨x, ys, G, Q0, rx, ra, ag, ⟨kvs, ky, hs, rfl, hh, q⟩, hQ⟩ := h
  obtain ⟨a, o, es, rfl, D⟩ := DTh.data I (see_now ag rx hs)
  cases rv
  cases ra with
  | cons ry rr =>
    cases rr
    obtain ⟨u', rfl, ru⟩ := rus.one
    refine dict_getm D I (by rw [homB_dats]; exact hh) ry ru (by have := hr.un; omega) fun dv u2 tk r1 r2 => ?_
    rw [dlook_dats] at r1
    have e : ((dlook kvs ky).map Va.dat).getD (.dat .none) = .dat ((dlook kvs ky).getD .none) := by cases dlook kvs ky <;> rfl
    rw [e] at r1
    exact ⟨dv, H, I.tok tk, r2, hQ _ G dv H q r1 ag .refl⟩
variable {o e : Expr} {to te : DE} {apos cpos pos : Pos}
theorem q_get {k : Nat} (hr : Room k X.A) (ho : PE X o (upE X.w X.K to)) (he : PE X e (upE X.w X.K te)) (hbase : attributeBase o "get" X.env (eval o X.env) = eval o X.env := by rfl) (hline : (apos.endLine == cpos.line) = true := by rfl) (hs : starEach [e] X.env = (false, eval e X.env) :: starEach [] X.env := by rfl)
    (hfew : ((backTo cpos (starEach [e] X.env)).all (fun x => !x.1) && (backToKw cpos (keywordEach [] X.env)).all (fun x => x.1.isSome) && decide ([e].length + ([] : List Keyword).length + (if ([] : List Keyword).isEmpty then 0 else 1) < 30)) = true := by rfl) :
    PE X (.Call (.Attribute o "get" apos) [e] [] cpos) (upE X.w X.K (dMt tyD mGet to (dCons te dNil))) := q_mt PySem.F.plainAttrs_dict PySem.F.slot_dict_get PySem.F.type_dict_get ty_dict (m_get hr) ho (qa_cons he qa_nil hs) hbase hfew hline hs

/-! ### {} and {k: v} -/
def dD0 : DE := fun _ G Q => ∀ p, G p = none → Q (.ref p) (gup G p (.dct []))
theorem laid0 {pins : List (Addr × Obj)} {σ : L2.St} {H : Hp} {s : Shared} (I : Inv X pins σ H s) : Inv X pins σ (upd H s.heap.objs.size (.ext (exactly s.heap.objs.size { cls := .type "dict", data := .dict #[] }))) { s with heap := s.heap.push { cls := .type "dict", data := .dict #[] } } ∧ H s.heap.objs.size = none := by
  have e : (s.heap.push { cls := .type "dict", data := .dict #[] }).get? s.heap.objs.size = some ({ cls := .type "dict", data := .dict #[] } : Obj) := Heap.get?_push_size _ rfl
  exact ⟨I.laid (t' := s.toks) (fun _ _ q => Heap.get?_push_of_some _ q) (Nat.le_refl _) ⟨e, ⟨_, e⟩, fun h1 h2 q k => k _ q⟩, I.hok.fresh (Nat.le_refl _)⟩
theorem dobj0 : DObj ({ cls := .type "dict", data := .dict #[] } : Obj) [] := ⟨#[], 0, ⟨rfl, rfl, rfl⟩, rfl, rfl⟩
theorem nosys0 {pins : List (Addr × Obj)} {σ : L2.St} {H : Hp} {s : Shared} (I : Inv X pins σ H s) : s.heap.objs.size ≠ sysModules := Ne.symm (Nat.ne_of_lt I.big)
theorem q_dict0 : PE X (.Dict [] [] pos) (upE X.w X.K dD0) := ⟨fun pins s σ H Q I h => by
  obtain ⟨τ, G, Q0, ab, q, hQ⟩ := h
  obtain ⟨I2, hn⟩ := laid0 I
  refine wpAny_Dict_empty ⟨.ref s.heap.objs.size, _, I2, rfl, hQ (.ref s.heap.objs.size) _ (.ref s.heap.objs.size) _ (q _ (ab.obj.off hn)) rfl (ab.obj.newG hn ⟨_, [], upd_same, dobj0, nosys0 I, Nat.zero_le _, List.nodup_nil, .nil⟩) (Step.newG hn)⟩⟩
/-- a key that a dict may have -/
def dD1 (kok : PyData → Bool) (tk tv : DE) : DE := fun τ G Q => tk τ G fun x G1 => tv τ G1 fun y G2 => ∃ kd, x = .dat kd ∧ kok kd = true ∧ ∀ p, G2 p = none → Q (.ref p) (gup G2 p (.dct [(kd, y)]))
theorem pairs_run {k v : Expr} {tk tv : DE} (hk : PE X k (upE X.w X.K tk)) (hv : PE X v (upE X.w X.K tv)) {pins : List (Addr × Obj)} {s : Shared} {σ : L2.St} {H : Hp} {τ : Ts} {G : Gp} {Q0 : Va → Va → Gp → Prop} {Q : List (Value × Value) → Shared → Prop} (I : Inv X pins σ H s) (ab : Abs X.w X.K σ H τ G)
    (q : tk τ G fun x G1 => tv τ G1 fun y G2 => Q0 x y G2) (hQ : ∀ x y G2 H2 kv vv ku vu s2, Q0 x y G2 → RelA X.w X.K H2 x kv → RelA X.w X.K H2 y vv → RelV kv ku → RelV vv vu → AbsG X.w X.K H2 G2 → Step H G H2 G2 → Inv X pins σ H2 s2 → Q [(ku, vu)] s2) :
    wpAny (model X.prog X.w) X.A (evalPairs (pairTrees [some k] [v] X.env pos)) Q X.xe s := by
  refine pairTrees_cons_walk (thn (hk.run pins s σ H (fun kv H1 => ∃ x G1, RelA X.w X.K H1 x kv ∧ AbsG X.w X.K H1 G1 ∧ Step H G H1 G1 ∧ tv τ G1 fun y G2 => Q0 x y G2) I ⟨τ, G, _, ab, q, fun x G1 v H1 q1 r a st => ⟨x, G1, r, a, st, q1⟩⟩) fun ku s1 ⟨kv, H1, I1, rk, x, G1, rx, a1, st1, q1⟩ => ?_)
  refine thn (hv.run pins s1 σ H1 (fun vv H2 => ∃ y G2, RelA X.w X.K H2 y vv ∧ AbsG X.w X.K H2 G2 ∧ Step H1 G1 H2 G2 ∧ Q0 x y G2) I1 ⟨τ, G1, _, ab.step st1.ext a1, q1, fun y G2 v H2 q2 r a st => ⟨y, G2, r, a, st, q2⟩⟩) fun vu s2 ⟨vv, H2, I2, rv, y, G2, ry, a2, st2, q2⟩ => ?_
  exact pairTrees_nil_walk (hQ x y G2 H2 kv vv ku vu s2 q2 (rx.ext st2.ext) ry rk rv a2 (st1.trans st2) I2)
theorem empty_at {pins : List (Addr × Obj)} {σ : L2.St} {H : Hp} {s : Shared} {p : Addr} (I : Inv X pins σ H s) (h : H p = some (.ext (exactly p { cls := .type "dict", data := .dict #[] }))) : s.heap.get? p = some ({ cls := .type "dict", data := .dict #[] } : Obj) :=
  (show ObjOk X.prog X.w H s.heap p (.ext (exactly p { cls := .type "dict", data := .dict #[] })) from I.hok p _ h).1
/-- the new dict has been written, by address -/
theorem newD {pins : List (Addr × Obj)} {σ : L2.St} {H : Hp} {s : Shared} {G : Gp} {p : Addr} {o0 o' : Obj} {es' : List DictEntry} {kvs' : List (PyData × Va)} {h' : Heap} {tk : Nat} (I : Inv X pins σ H s) (A : AbsG X.w X.K H G) (ha : H p = some (.ext (exactly p o0))) (gp : G p = none) (hs : p ≠ sysModules) (sb : ∀ b u, b ≠ p → s.heap.get? b = some u → h'.get? b = some u)
    (e : h'.get? p = some o') (d : DObj o' es') (pr : Paired (EntOk X.w X.K H) kvs' es') (hz : es'.length ≤ sizeLine) (nd : (kvs'.map fun p => nkey p.1).Nodup) :
    Inv X pins σ (upd H p (.ext (exactly p o'))) { s with heap := h', toks := tk } ∧ AbsG X.w X.K (upd H p (.ext (exactly p o'))) (gup G p (.dct kvs')) ∧ Ext H (upd H p (.ext (exactly p o'))) := by
  have ex : Ext H (upd H p (.ext (exactly p o'))) := ⟨fun b xs hb => by rw [upd_ne (fun z => by rw [z, ha] at hb; cases hb)]; exact hb, fun b u v hb => by rw [upd_ne (fun z => by rw [z, ha] at hb; cases hb)]; exact hb⟩
  refine ⟨I.write (x := p) (e := p) (by rw [ha]; exact True.intro) (.inl rfl) sb ⟨_, e⟩ ⟨e, ⟨_, e⟩, fun h1 h2 q k => k _ q⟩, fun a m ga => ?_, ex⟩
  by_cases hap : a = p
  · subst hap
    rw [gup_same] at ga; cases ga
    exact ⟨o', es', upd_same, d, hs, hz, nd, Paired.mapP pr fun _ _ q => q.ext ex⟩
  · rw [gup_ne hap] at ga
    exact (A a m ga).keep ex (upd_ne hap)
theorem q_dict1T {k v : Expr} {tk' tv : DE} {n : Nat} (hr : Room n X.A) (hk : PE X k (upE X.w X.K tk')) (hv : PE X v (upE X.w X.K tv)) : PE X (.Dict [some k] [v] pos) (upE X.w X.K (dD1 tk tk' tv)) := by
  refine ⟨fun pins s σ H Q I hw => ?_⟩
  obtain ⟨τ, G, Q0, ab, q, hQ⟩ := hw
  obtain ⟨I1, hn⟩ := laid0 I
  have un := hr.un
  rw [arm_eval_Dict, zip_pairTrees [some k] [v] X.env pos rfl rfl, dictDisplay_pairs _ (by intro z; cases z) (by show 1 < 17; decide)]
  refine wpAny_bind (wpAny_standAt (wpAny_bind (wpAny_subDictH (knd := nestedKind X.prog X.w) (by show X.A.units + 8 < cLine; omega) (by show 1 ≤ 15; decide) ?_)))
  refine pairs_run hk hv I1 (ab.step (Step.new (G := G) hn).ext (ab.obj.new hn)) q fun x y G2 H2 kv vv ku vu s2 q2 rx ry rk rv a2 st I2 => ?_
  obtain ⟨kd, rfl, hkd, q3⟩ := q2
  obtain ⟨hp2, gp2⟩ := st.keep s.heap.objs.size _ upd_same (ab.obj.off hn)
  obtain ⟨nn, b, hnk, rfl, rfl, his⟩ := key_tup I2 hkd rx rk
  have h0 := empty_at I2 hp2
  refine ⟨[(nn, b, vu)], ⟨rfl, rfl, his, trivial⟩, ⟨_, #[], 0, h0, ⟨rfl, rfl, rfl⟩, rfl, rfl, (fun _ z => nomatch z), List.nodup_nil⟩, fun h' tk hd' sb => wpAny_pure ?_⟩
  have hp : Paired (TP X.w X.K H2) [(kd, y)] (storedAllH [] [(nn, b, vu)]) := .cons ⟨hnk, rx, vv, ry, rv⟩ .nil
  obtain ⟨o', es', e1, e2, e3, e4, e5⟩ := after_tups hd' hp
  obtain ⟨I3, A3, ex⟩ := newD (tk := tk) I2 a2 hp2 gp2 (nosys0 I) (fun b u hb z => (sb.2 b hb).trans z) e1 e2 e3 (by rw [e4]; show 1 ≤ sizeLine; decide) e5
  refine ⟨.ref _, _, I3, rfl, hQ (.ref s.heap.objs.size) _ (.ref s.heap.objs.size) _ (q3 _ gp2) rfl A3 ⟨fun a u ha ga => ?_, ((Step.new (G := G) hn).trans st).ext.trans ex⟩⟩
  have ne : a ≠ s.heap.objs.size := fun z => by rw [z, hn] at ha; cases ha
  rw [upd_ne ne, gup_ne ne]
  exact ((Step.new (G := G) hn).trans st).keep a u ha ga
theorem q_dict1F {k v : Expr} {tk' tv : DE} (hk : PE X k (upE X.w X.K tk')) (hv : PE X v (upE X.w X.K tv)) : PE X (.Dict [some k] [v] pos) (upE X.w X.K (dD1 fk tk' tv)) := by
  refine ⟨fun pins s σ H Q I hw => ?_⟩
  obtain ⟨τ, G, Q0, ab, q, hQ⟩ := hw
  obtain ⟨I1, hn⟩ := laid0 I
  refine wpAny_Dict_walk (knd := mixKind X.prog X.w) rfl rfl (by simp) (by show 1 ≤ 15; decide) ?_
  refine pairs_run hk hv I1 (ab.step (Step.new (G := G) hn).ext (ab.obj.new hn)) q fun x y G2 H2 kv vv ku vu s2 q2 rx ry rk rv a2 st I2 => ?_
  obtain ⟨kd, rfl, hkd, q3⟩ := q2
  obtain ⟨hp2, gp2⟩ := st.keep s.heap.objs.size _ upd_same (ab.obj.off hn)
  obtain ⟨f, rfl, hnk, hkk⟩ := key_flat hkd rx rk
  have h0 := empty_at I2 hp2
  refine ⟨[(f, vu)], ⟨hkk, rfl, trivial⟩, ⟨_, #[], 0, h0, ⟨rfl, rfl, rfl⟩, rfl, (fun e z => by simp at z), .nil, List.nodup_nil⟩, fun h' hd' sb => ?_⟩
  have hp : Paired (FP X.w X.K H2) [(keyP f, y)] (merged [] [(f, vu)]) := .cons ⟨rfl, vv, ry, rv⟩ .nil
  obtain ⟨o', es', e1, e2, e3, e4, e5⟩ := after_flat hd' hp
  obtain ⟨I3, A3, ex⟩ := newD (tk := s2.toks + 1) I2 a2 hp2 gp2 (nosys0 I) (fun b u hb z => (sb.2 b hb).trans z) e1 e2 e3 (by rw [e4]; show 1 ≤ sizeLine; decide) e5
  refine ⟨.ref _, _, I3, rfl, hQ (.ref s.heap.objs.size) _ (.ref s.heap.objs.size) _ (q3 _ gp2) rfl A3 ⟨fun a u ha ga => ?_, ((Step.new (G := G) hn).trans st).ext.trans ex⟩⟩
  have ne : a ≠ s.heap.objs.size := fun z => by rw [z, hn] at ha; cases ha
  rw [upd_ne ne, gup_ne ne]
  exact ((Step.new (G := G) hn).trans st).keep a u ha ga
end
end DL

/-! DLy: dict(a list of pairs). -/
namespace DL
open PySem PySem.Spec PyProof.Rows L2

def pairD : PyData → Option (PyData × PyData)
  | .tuple [k, v] => some (k, v)
  | _ => none
def pairsD : List PyData → Option (List (PyData × PyData))
  | [] => some []
  | d :: ds => match pairD d, pairsD ds with
    | some p, some ps => some (p :: ps)
    | _, _ => none
def dmerge {α : Type} (acc kvs : List (PyData × α)) : List (PyData × α) := kvs.foldl (fun a p => dstore a p.1 p.2) acc
/-- all keys alike: tuples, or numbers and texts -/
def homAll {α : Type} (kvs : List (PyData × α)) : Bool := (kvs.all fun p => tk p.1) || (kvs.all fun p => fk p.1)
theorem pairsD_some : ∀ {ds : List PyData} {kvs : List (PyData × PyData)}, pairsD ds = some kvs → ds = kvs.map fun p => PyData.tuple [p.1, p.2]
  | [], kvs, h => by cases h; rfl
  | d :: ds, kvs, h => by
    unfold pairsD at h
    cases e1 : pairD d with
    | none => simp [e1] at h
    | some p =>
      cases e2 : pairsD ds with
      | none => simp [e1, e2] at h
      | some ps =>
        simp only [e1, e2, Option.some.injEq] at h
        subst h
        rw [List.map_cons, ← pairsD_some e2]
        congr 1
        unfold pairD at e1
        split at e1
        · cases e1; rfl
        · cases e1
section
variable {X : Cx} {pins : List (Addr × Obj)} {σ : L2.St} {H : Hp} {s : Shared}
/-- what stands at the places of a list of pairs -/
structure PR (X : Cx) (H : Hp) (s : Shared) (p : PyData × PyData) (q : Addr × Value × Value) : Prop where
  at_ : PairAt s.heap q.1 q.2.1 q.2.2
  key : ∃ kv, Rel X.w X.K H p.1 kv ∧ RelV kv q.2.1
  val : ∃ dv, Rel X.w X.K H p.2 dv ∧ RelV dv q.2.2
theorem pairs_at (I : Inv X pins σ H s) : ∀ {kvs : List (PyData × PyData)} {vs : List V} {its : List Value}, RelAll X.w X.K H (kvs.map fun p => PyData.tuple [p.1, p.2]) vs → Vals vs its → ∃ qs, its = qs.map (fun q => Value.ref q.1) ∧ Paired (PR X H s) kvs qs
  | [], _, _, r, v => by cases r; cases v; exact ⟨[], rfl, .nil⟩
  | p :: kvs, _, _, r, v => by
    cases r with
    | cons h t =>
      cases v with
      | cons hv tv =>
        obtain ⟨qs, rfl, hp⟩ := pairs_at I t tv
        cases h with
        | tup ht ha =>
          cases hv
          obtain ⟨us, ru, p', _⟩ := I.tuple ht.sq
          cases ha with
          | cons r1 ha =>
            cases ha with
            | cons r2 ha =>
              cases ha
              cases ru with
              | cons v1 ru =>
                cases ru with
                | cons v2 ru =>
                  cases ru
                  exact ⟨(_, _, _) :: qs, rfl, .cons ⟨.inl p', ⟨_, r1, v1⟩, ⟨_, r2, v2⟩⟩ hp⟩
theorem tp_merge {w : World} {K : PySem.W.Frag} {H : Hp} : ∀ {kvs : List (PyData × Va)} {ps : List (NestedKey × Addr × Value)} {acc : List (PyData × Va)} {xs : List (NestedKey × Addr × Value)}, Paired (TP w K H) kvs ps → Paired (TP w K H) acc xs → Paired (TP w K H) (dmerge acc kvs) (storedAllH xs ps)
  | _, _, _, _, .nil, h => h
  | p :: _, x :: _, acc, xs, .cons h t, hp => by
    obtain ⟨dv, r1, r2⟩ := h.val
    have := tp_merge t (tp_store hp h.key h.rel r1 r2)
    unfold dmerge storedAllH
    rw [List.foldl_cons, List.foldl_cons]
    exact this
theorem fp_merge {w : World} {K : PySem.W.Frag} {H : Hp} : ∀ {kvs : List (PyData × Va)} {ps : List (Key × Value)} {acc : List (PyData × Va)} {xs : List (Key × Value)}, Paired (FP w K H) kvs ps → Paired (FP w K H) acc xs → Paired (FP w K H) (dmerge acc kvs) (merged xs ps)
  | _, _, _, _, .nil, h => h
  | p :: _, x :: _, acc, xs, .cons h t, hp => by
    obtain ⟨dv, r1, r2⟩ := h.val
    have := fp_merge t (fp_store hp x.1 r1 r2)
    unfold dmerge
    rw [List.foldl_cons, h.key]
    exact this
theorem pr_get {kvs : List (PyData × PyData)} {qs : List (Addr × Value × Value)} (h : Paired (PR X H s) kvs qs) {j : Nat} {q : Addr × Value × Value} (e : qs[j]? = some q) : PairAt s.heap q.1 q.2.1 q.2.2 := by
  induction h generalizing j with
  | nil => simp at e
  | cons h t ih =>
    cases j with
    | zero => cases (Option.some.inj (by simpa using e) : _ = _); exact h.at_
    | succ j => exact ih (by simpa using e)
/-- dict(xs) -/
theorem dict_pairs {a : Addr} {vs : List V} {kvs : List (PyData × PyData)} {G : Gp} {E Q : Value → Shared → Prop} (I : Inv X pins σ H s) (A : AbsG X.w X.K H G) (hl : Rd H a (.lst vs)) (r : RelAll X.w X.K H (kvs.map fun p => PyData.tuple [p.1, p.2]) vs) (hh : homAll kvs = true) (hd : X.A.handled = none) (hu : X.A.units + 10 < cLine)
    (q : ∀ p H' s', G p = none → Inv X pins σ H' s' → AbsG X.w X.K H' (gup G p (.dct (dats (dmerge [] kvs)))) → Step H G H' (gup G p (.dct (dats (dmerge [] kvs)))) → Q (.ref p) s') : wpAny (model X.prog X.w) X.A (call (.type "dict") [.ref a]) Q E s := by
  obtain ⟨its, n, rv, ho, hz⟩ := rd_lst I hl
  obtain ⟨qs, rfl, hp⟩ := pairs_at I r rv
  have hn : H s.heap.objs.size = none := I.hok.fresh (Nat.le_refl _)
  have gp := A.off hn
  have hlen := Paired.len hp
  have hvl := rv.length
  rw [List.length_map] at hvl
  let Ts : Nat → Addr := fun j => ((qs[j]?).map (·.1)).getD 0
  let ps : List (Value × Value) := qs.map (·.2)
  have hTs : ∀ j q, qs[j]? = some q → Ts j = q.1 := fun j q e => by show ((qs[j]?).map (·.1)).getD 0 = _; rw [e]; rfl
  have ok : PlainSeq "list" s.heap a (qs.map fun q => Value.ref q.1).toArray ∧ PairItems s.heap (qs.map fun q => Value.ref q.1).toArray Ts ps := by
    refine ⟨⟨_, n, ho, rfl, rfl, rfl⟩, by show (qs.map _).toArray.size = (qs.map _).length; simp, fun j k v e => ?_⟩
    have e' : (qs.map (·.2))[j]? = some (k, v) := e
    rw [List.getElem?_map] at e'
    obtain ⟨q, hq, e2⟩ := Option.map_eq_some_iff.mp e'
    refine ⟨?_, ?_⟩
    · rw [List.getElem?_toArray, List.getElem?_map, hq, hTs j q hq]; rfl
    · rw [hTs j q hq]
      have := pr_get hp hq
      rw [e2] at this
      exact this
  have PA := PairArg.list (prog := X.prog) (w := X.w) a (qs.map fun q => Value.ref q.1).toArray Ts ps
  have hpl : ps.length = qs.length := List.length_map ..
  -- what the new dict is, from what its raw object is
  have fin : ∀ (h' : Heap) (tk : Nat) (o' : Obj) (es' : List DictEntry), h'.get? s.heap.objs.size = some o' → DObj o' es' → Paired (EntOk X.w X.K H) (dats (dmerge [] kvs)) es' → es'.length ≤ sizeLine → ((dats (dmerge [] kvs)).map fun p => nkey p.1).Nodup → (∀ b o, b ∉ ([] : List Addr) → s.heap.get? b = some o → h'.get? b = some o) → Q (.ref s.heap.objs.size) { s with heap := h', toks := tk } := by
    intro h' tk o' es' e1 e2 e3 e4 e5 kp
    have st : Step H G (upd H s.heap.objs.size (.ext (exactly s.heap.objs.size o'))) (gup G s.heap.objs.size (.dct (dats (dmerge [] kvs)))) := Step.newG hn
    refine q _ _ _ gp (I.laid (o := .ext (exactly s.heap.objs.size o')) (t' := tk) (fun b o z => kp b o (fun z => nomatch z) z) (Nat.le_refl _) ⟨e1, ⟨_, e1⟩, fun h1 h2 q k => k _ q⟩) (A.newG hn ⟨o', es', upd_same, e2, nosys0 I, e4, e5, Paired.mapP e3 fun _ _ q => q.ext st.ext⟩) st
  have hdm : dats (dmerge [] kvs) = dmerge [] (dats kvs) := by
    have gen : ∀ (kvs acc : List (PyData × PyData)), dats (dmerge acc kvs) = dmerge (dats acc) (dats kvs) := by
      intro kvs
      induction kvs with
      | nil => intro acc; rfl
      | cons p kvs ih =>
        intro acc
        show dats (dmerge (dstore acc p.1 p.2) kvs) = dmerge (dstore (dats acc) p.1 (Va.dat p.2)) (dats kvs)
        rw [ih]
        congr 1
        unfold dstore
        rw [dlook_dats, Option.isSome_map]
        split
        · unfold dats
          rw [List.map_map, List.map_map]
          apply List.map_congr_left
          intro x _
          dsimp only [Function.comp]
          split <;> rfl
        · unfold dats
          rw [List.map_append]; rfl
    exact gen kvs []
  unfold homAll at hh
  rw [Bool.or_eq_true] at hh
  rcases hh with hh | hh
  · obtain ⟨xs, hx, hxl, hi, hph⟩ : ∃ xs : List (NestedKey × Addr × Value), Paired (TP X.w X.K H) (dats kvs) xs ∧ xs.length = qs.length ∧ (∀ x ∈ xs, (nestedKind X.prog X.w).is s.heap x.1 x.2.1) ∧ ∀ (j : Nat) key v, ps[j]? = some (key, v) → ∃ k b, xs[j]? = some (k, b, v) ∧ key = .ref b := by
      clear fin ok PA hdm hvl r rv hz ho q A gp hl hn
      show ∃ xs : List (NestedKey × Addr × Value), Paired (TP X.w X.K H) (dats kvs) xs ∧ xs.length = qs.length ∧ (∀ x ∈ xs, (nestedKind X.prog X.w).is s.heap x.1 x.2.1) ∧ ∀ (j : Nat) key v, (qs.map (·.2))[j]? = some (key, v) → ∃ k b, xs[j]? = some (k, b, v) ∧ key = .ref b
      clear hTs Ts hpl ps hlen
      induction hp with
      | nil => exact ⟨[], .nil, rfl, fun _ z => (List.not_mem_nil z).elim, fun j key v e => by simp at e⟩
      | @cons p q kvs qs h t ih =>
        rw [List.all_cons, Bool.and_eq_true] at hh
        obtain ⟨xs, h1, h2, h3, h4⟩ := ih hh.2
        obtain ⟨kv, r1, r2⟩ := h.key
        obtain ⟨nn, b, hnk, rfl, eu, his⟩ := key_tup I hh.1 r1 r2
        obtain ⟨dv, r3, r4⟩ := h.val
        refine ⟨(nn, b, q.2.2) :: xs, .cons ⟨hnk, r1, dv, r3, r4⟩ h1, by simp [h2], fun x hx => ?_, fun j key v e => ?_⟩
        · rcases List.mem_cons.mp hx with rfl | hx
          · exact his
          · exact h3 x hx
        · cases j with
          | zero =>
            have e' : q.2 = (key, v) := by simpa using e
            refine ⟨nn, b, by rw [e']; rfl, ?_⟩
            have : q.2.1 = key := by rw [e']
            rw [← this]; exact eu
          | succ j => simpa using h4 j key v (by simpa using e)
    refine call_dict_pairsH (knd := nestedKind X.prog X.w) (ps := xs) PA hd (by show X.A.units + 1 + 1 + 8 < cLine; omega) ok ⟨by rw [hxl, hpl], fun i key v e => hph i key v e⟩ (fun h' kp x hx => nestedKind_stays.stays (fun b o vs m e _ => kp b o (Nat.ne_of_lt (Heap.lt_size e)) (fun z => nomatch z) e) (hi x hx)) (by rw [hpl]; omega) fun h' tk hd' kp => ?_
    obtain ⟨o', es', e1, e2, e3, e4, e5⟩ := after_tups hd' (tp_merge hx .nil)
    rw [← hdm] at e3 e5
    refine fin h' tk o' es' e1 e2 e3 ?_ e5 kp
    have : (storedAllH [] xs).length ≤ xs.length := by
      have gen : ∀ (xs acc : List (NestedKey × Addr × Value)), (storedAllH acc xs).length ≤ acc.length + xs.length := by
        intro xs
        induction xs with
        | nil => intro acc; exact Nat.le_refl _
        | cons x xs ih =>
          intro acc
          have h1 := ih (storedH acc x.1 x.2.1 x.2.2)
          have h2 := stored_len (xs := acc) (k := x.1) (a := x.2.1) (v := x.2.2)
          show (storedAllH (storedH acc x.1 x.2.1 x.2.2) xs).length ≤ _
          rw [List.length_cons]
          omega
      have := gen xs []
      simpa using this
    omega
  · obtain ⟨xs, hx, hxl, hph⟩ : ∃ xs : List (Key × Value), Paired (FP X.w X.K H) (dats kvs) xs ∧ xs.length = qs.length ∧ ∀ (j : Nat) key v, ps[j]? = some (key, v) → ∃ k, xs[j]? = some (k, v) ∧ keyIs k key = true := by
      clear fin ok PA hdm hvl r rv hz ho q A gp hl hn
      show ∃ xs : List (Key × Value), Paired (FP X.w X.K H) (dats kvs) xs ∧ xs.length = qs.length ∧ ∀ (j : Nat) key v, (qs.map (·.2))[j]? = some (key, v) → ∃ k, xs[j]? = some (k, v) ∧ keyIs k key = true
      clear hTs Ts hpl ps hlen
      induction hp with
      | nil => exact ⟨[], .nil, rfl, fun j key v e => by simp at e⟩
      | @cons p q kvs qs h t ih =>
        rw [List.all_cons, Bool.and_eq_true] at hh
        obtain ⟨xs, h1, h2, h4⟩ := ih hh.2
        obtain ⟨kv, r1, r2⟩ := h.key
        obtain ⟨f, ef, hnk, hkk⟩ := key_flat hh.1 r1 r2
        obtain ⟨dv, r3, r4⟩ := h.val
        refine ⟨(f, q.2.2) :: xs, .cons ⟨ef, dv, r3, r4⟩ h1, by simp [h2], fun j key v e => ?_⟩
        cases j with
        | zero =>
          have e' : q.2 = (key, v) := by simpa using e
          refine ⟨f, by rw [e']; rfl, ?_⟩
          have : q.2.1 = key := by rw [e']
          rw [← this]; exact hkk
        | succ j => simpa using h4 j key v (by simpa using e)
    refine call_dict_pairs (knd := mixKind X.prog X.w) (kvs := xs) PA hd ok ⟨by rw [hxl, hpl], fun i key v e => hph i key v e⟩ (by rw [hpl]; omega) fun h' tk hd' kp => ?_
    obtain ⟨o', es', e1, e2, e3, e4, e5⟩ := after_flat hd' (fp_merge hx .nil)
    rw [← hdm] at e3 e5
    refine fin h' tk o' es' e1 e2 e3 ?_ e5 kp
    have := merged_length_le ([] : List (Key × Value)) xs
    simp at this
    omega
end
end DL

/-! DLz: the call dict(a list of pairs). -/
namespace DL
open PySem PySem.Spec PyProof.Rows L2

/-- dict(xs), xs a list of pairs -/
def dDictP (t : DE) : DE := fun τ G Q => t τ G fun x G1 => ∃ kvs : List (PyData × PyData), see G1 x = some (.list (kvs.map fun p => PyData.tuple [p.1, p.2])) ∧ homAll kvs = true ∧ ∀ p, G1 p = none → Q (.ref p) (gup G1 p (.dct (dats (dmerge [] kvs))))
section
variable {X : Cx} {e : Expr} {t : DE} {x : Str} {p pos : Pos}
theorem dictP_r {k : Nat} (hr : Room k X.A) (hc : X.calm = true) : CallR X (.type "dict") fun xs H Q => ∃ xa v G Q0 kvs, xs = [v] ∧ RelA X.w X.K H xa v ∧ AbsG X.w X.K H G ∧ see G xa = some (.list (kvs.map fun p : PyData × PyData => PyData.tuple [p.1, p.2])) ∧ homAll kvs = true ∧ (∀ p, G p = none → Q0 (Va.ref p) (gup G p (.dct (dats (dmerge [] kvs))))) ∧ upQ X.w X.K H G Q0 Q := by
  intro pins s σ H xs us Q I r hw
  obtain ⟨xa, v, G, Q0, kvs, rfl, ra, ag, sd, hh, q, hQ⟩ := hw
  obtain ⟨u, rfl, rx⟩ := vals1 r
  obtain ⟨a, vs, rfl, ha, hv⟩ := now_list (see_now ag ra sd)
  cases rx
  have un := hr.un
  refine dict_pairs I ag ha hv hh (I.ok.hd hc) (by omega) fun p H' s' gp I' A' st => ⟨.ref p, H', I', rfl, hQ (.ref p) _ (.ref p) H' (q p gp) rfl A' st⟩
theorem dictP_imp {σ : L2.St} {H : Hp} {Q : VK} (h : upE X.w X.K (dDictP t) σ H Q) :
    tCB (fun xs H Q => ∃ xa v G Q0 kvs, xs = [v] ∧ RelA X.w X.K H xa v ∧ AbsG X.w X.K H G ∧ see G xa = some (.list (kvs.map fun p : PyData × PyData => PyData.tuple [p.1, p.2])) ∧ homAll kvs = true ∧ (∀ p, G p = none → Q0 (Va.ref p) (gup G p (.dct (dats (dmerge [] kvs))))) ∧ upQ X.w X.K H G Q0 Q) (tCons (upE X.w X.K t) tNil) σ H Q := by
  obtain ⟨τ, G, Q0, ab, q, hQ⟩ := h
  refine ⟨τ, G, _, ab, q, fun x G1 v H1 q1 r1 a1 s1 => ?_⟩
  obtain ⟨kvs, h1, h2, h3⟩ := q1
  exact ⟨x, v, G1, Q0, kvs, rfl, r1, a1, h1, h2, h3, hQ.step s1⟩
theorem q_dictP {k : Nat} (hr : Room k X.A) (hc : X.calm = true) (hm : X.mg x = none) (hv : bootBuiltins x = some (.type "dict")) (ha : PE X e (upE X.w X.K t)) (hg : Gl X x := by rfl) (hn : x ≠ "__name__" := by decide) (hdb : (x == ("__debug__" : Str)) = false := by decide)
    (he : starEach [e] X.env = (false, eval e X.env) :: starEach [] X.env := by rfl) (hpl : (backTo pos (starEach [] X.env)).any (·.1) = false := by rfl) : PE X (.Call (.Name x p) [e] [] pos) (upE X.w X.K (dDictP t)) :=
  (pe_callTy (dictP_r hr hc) hg hm hv (pa_cons ha pa_nil he) hn hdb he hpl).imp fun σ H Q h => dictP_imp h
end
end DL

/-! DMa: the greatest and the least of a list, its sum. -/
namespace DL
open PySem PySem.Spec PyProof.Rows L2

def bestOk (xs : List PyData) : Prop := PySem.W.AlikeAll xs ∧ PyData.depthAll xs ≤ 60
def maxLF : PyData → PyData → Prop
  | .list (x :: xs), z => bestOk (x :: xs) ∧ z = PySem.W.maxD x xs
  | _, _ => False
def minLF : PyData → PyData → Prop
  | .list (x :: xs), z => bestOk (x :: xs) ∧ z = PySem.W.minD x xs
  | _, _ => False
def sumLF : PyData → PyData → Prop
  | .list xs, z => ∃ ns : List Int, xs = ns.map PyData.int ∧ z = .int ns.sum
  | _, _ => False
theorem best_mem {p : PyData → PyData → Bool} : ∀ (xs : List PyData) (x : PyData), xs.foldl (fun a y => if p a y then y else a) x ∈ x :: xs
  | [], x => List.mem_cons_self
  | y :: xs, x => by
    rw [List.foldl_cons]
    have := best_mem (p := p) xs (if p x y = true then y else x)
    rcases List.mem_cons.mp this with e | h
    · rw [e]
      split
      · exact List.mem_cons_of_mem _ List.mem_cons_self
      · exact List.mem_cons_self
    · exact List.mem_cons_of_mem _ (List.mem_cons_of_mem _ h)
section
variable {X : Cx}
theorem best_rel {pins : List (Addr × Obj)} {s : Shared} {σ : L2.St} {H : Hp} (I : Inv X pins σ H s) {ds : List PyData} {vs : List V} {its : List Value} (hv : RelAll X.w X.K H ds vs) (ri : Vals vs its) (ha : PySem.W.AlikeAll ds) {i : Nat} {u : Value} {h' : Heap} {m : PyData} {bs : List Addr}
    (e : its[i]? = some u) (kp : ∀ b o, s.heap.get? b = some o → h'.get? b = some o) (r : Reads h' u m bs) (hm : m ∈ ds) : ∃ v, RelV v u ∧ Rel X.w X.K H m v := by
  have hl := ri.length
  have hi : i < vs.length := by
    have := (List.getElem?_eq_some_iff.mp e).1
    omega
  have e2 : vs[i]? = some vs[i] := List.getElem?_eq_getElem hi
  obtain ⟨u', e3, rv⟩ := ri.get e2
  rw [e] at e3
  cases e3
  obtain ⟨d, e4, rd⟩ := RelAll.getV hv e2
  obtain ⟨as, q⟩ := reads I rd rv
  have := PySem.W.alike_unique d m u _ _ (ha.1 d (List.mem_of_getElem? e4) m hm) (PyProof.Rows.Reads.keeps kp q) r
  subst this
  exact ⟨_, rv, rd⟩
theorem c_maxL {k : Nat} (hc : X.calm = true) (hr : Room k X.A) : C1 X (.builtin "max") maxLF := by
  intro pins s σ H d z x u Q I n r o kk
  have un := hr.un
  cases d with
  | list ds =>
    cases ds with
    | nil => exact o.elim
    | cons y ys =>
      obtain ⟨⟨ha, hd⟩, rfl⟩ := o
      obtain ⟨a, vs, rfl, hl, hv⟩ := now_list n
      cases r
      obtain ⟨its, m, ri, ei, zi⟩ := rd_lst I hl
      obtain ⟨as, rs⟩ := readsAll I hv ri
      refine PySem.W.max_list_data (vs := its.toArray) (I.ok.hd hc) ⟨_, ei, rfl, _, rfl⟩ rs ha (by omega) fun i v h' tk bs e r kp => ?_
      obtain ⟨vv, q1, q2⟩ := best_rel I hv ri ha (by simpa using e) kp r (best_mem (p := fun a y => PySem.W.dataLt a y) ys y)
      exact kk vv v H _ (I.kept kp) q1 q2 (Same.refl _)
  | _ => exact o.elim
theorem c_minL {k : Nat} (hc : X.calm = true) (hr : Room k X.A) : C1 X (.builtin "min") minLF := by
  intro pins s σ H d z x u Q I n r o kk
  have un := hr.un
  cases d with
  | list ds =>
    cases ds with
    | nil => exact o.elim
    | cons y ys =>
      obtain ⟨⟨ha, hd⟩, rfl⟩ := o
      obtain ⟨a, vs, rfl, hl, hv⟩ := now_list n
      cases r
      obtain ⟨its, m, ri, ei, zi⟩ := rd_lst I hl
      obtain ⟨as, rs⟩ := readsAll I hv ri
      refine PySem.W.min_list_data (vs := its.toArray) (I.ok.hd hc) ⟨_, ei, rfl, _, rfl⟩ rs ha (by omega) fun i v h' tk bs e r kp => ?_
      obtain ⟨vv, q1, q2⟩ := best_rel I hv ri ha (by simpa using e) kp r (best_mem (p := fun a y => PySem.W.dataLt y a) ys y)
      exact kk vv v H _ (I.kept kp) q1 q2 (Same.refl _)
  | _ => exact o.elim
theorem c_sumL (hc : X.calm = true) : C1 X (.builtin "sum") sumLF := by
  intro pins s σ H d z x u Q I n r o kk
  cases d with
  | list ds =>
    obtain ⟨ns, rfl, rfl⟩ := o
    obtain ⟨a, vs, rfl, hl, hv⟩ := now_list n
    cases r
    obtain ⟨its, m, ri, ei, zi⟩ := rd_lst I hl
    exact sum_raw (I.ok.hd hc) ⟨_, ei, rfl, _, rfl⟩ (intsAre_of_rel hv ri) fun h' tk t' kp => kk (.int ns.sum) _ H _ (I.kept kp) ⟨_, rfl⟩ (Rel.int _) (Same.refl _)
  | _ => exact o.elim
end
end DL

/-! DMb: for x in d.values(). -/
namespace DL
open PySem PySem.Spec PyProof.Rows L2

def Itv (d : Addr) (o : Obj) (ks : List V) : It :=
  ⟨fun i H => (∃ u, H d = some (.frz o u)) ∧ i < ks.length, fun i H x H' => H' = H ∧ ks[i]? = some x, fun i H => (∃ u, H d = some (.frz o u)) ∧ ks.length ≤ i⟩
theorem turn_val {P : Program} {w : World} {K : PySem.W.Frag} {tg : Expr} {d : Addr} {o : Obj} {es : Array DictEntry} {ep : Nat} {ks : List V} (it : Addr) (hx : o.ExactDict) (hod : o.data = .dict es ep) (hk : Vals ks (es.toList.map (·.val))) :
    Turn P w K tg (Itv d o ks) [it] it (fun i h => h.IsValIter it d i es.size ep) where
  mem := by simp
  obj := fun i h st b hb => by
    have e : b = it := by simpa using hb
    subst e
    obtain ⟨oi, e, c, dd⟩ := st
    exact ⟨oi, e, fun v z => by rw [dd] at z; cases z⟩
  keep := fun i h h' st k => st.at fun oi e => k it (by simp) oi e
  item := by
    intro X hP hw hK hc i pins s σ H E I hf st hg
    subst hP hw hK
    obtain ⟨⟨u, hd⟩, hi⟩ := hg
    obtain ⟨f0, f1, f2, f3, f4, f5⟩ := hf it (by simp)
    have hgd : s.heap.get? d = some o := (I.hok d _ hd).1
    have hl := hk.length
    simp only [List.length_map, Array.length_toList] at hl
    have hi' : i < es.size := by omega
    obtain ⟨v, uu, h1, h2, rv⟩ := vals_at hk hi
    rw [List.getElem?_map, Array.getElem?_toList, Array.getElem?_eq_getElem hi'] at h2
    have h2' : es[i].val = uu := Option.some.inj h2
    refine wpAny_pyNext_values_item_raw st ⟨o, hgd, hx, hod⟩ hi' fun h' st' sb => ?_
    have I1 : Inv X pins σ H { s with heap := h' } := I.turned (t' := s.toks) (fun b ob hb e => (sb.2 b hb).trans e) f0 f1 f3 f4 f5
    obtain ⟨oi, e, c, dd⟩ := id st'
    exact ⟨_, rfl, go_of (s := { s with heap := h' }) e c dd (by decide) ⟨v, H, I1, by rw [h2']; exact rv, ⟨rfl, h1⟩, st', fun b hb => (hf b hb).1⟩⟩
  done := by
    intro X hP hw hK hc i pins s σ H E I hf st hg
    subst hP hw hK
    obtain ⟨⟨u, hd⟩, hi⟩ := hg
    obtain ⟨f0, f1, f2, f3, f4, f5⟩ := hf it (by simp)
    have hgd : s.heap.get? d = some o := (I.hok d _ hd).1
    have hl := hk.length
    simp only [List.length_map, Array.length_toList] at hl
    exact wpAny_pyNext_values_end_raw (I.ok.hd hc) st ⟨o, hgd, hx, hod⟩ (by omega) fun h' eb => ⟨rfl, I.turned (t' := s.toks) (fun b ob hb e => eb b ob hb e) f0 f1 f3 f4 f5⟩
  self := fun A i s Q E st h => wpAny_pyIter_valiter st h
theorem walk_val {d : Addr} {o : Obj} {ks : List V} : Walk (Itv d o ks) ks.length (fun H => ∃ u, H d = some (.frz o u)) (YAt ks) :=
  ⟨fun _ _ hi q => ⟨q, hi⟩, fun _ q => ⟨q, Nat.le_refl _⟩, fun _ _ _ _ _ _ y => y⟩
/-- for x in d.values() -/
def dIvals (t : DE) : DI := fun τ G R => t τ G fun x G1 => ∃ kvs, x = .dat (.dict kvs) ∧ R ((kvs.map (·.2)).map Va.dat) G1
section
variable {X : Cx} {tg e : Expr} {t : DE} {apos cpos : Pos}
theorem qi_values (h : PE X e (upE X.w X.K t)) (hbase : attributeBase e "values" X.env (eval e X.env) = eval e X.env := by rfl) (hline : (apos.endLine == cpos.line) = true := by rfl) : PI X tg (.Call (.Attribute e "values" apos) [] [] cpos) (upI X.w X.K (dIvals t)) := by
  refine ⟨fun pins s σ H R I hw => ?_⟩
  obtain ⟨τ, G, Q0, ab, q, hQ⟩ := hw
  refine wpAny_Call_method (T := "dict") (id := "dict.values") hbase rfl hline F.plainAttrs_dict F.slot_dict_values F.type_dict_values (thn (h.run pins s σ H (fun v H' => ∃ kvs G', Rel X.w X.K H' (.dict kvs) v ∧ AbsG X.w X.K H' G' ∧ Step H G H' G' ∧ Q0 ((kvs.map (·.2)).map Va.dat) G') I ⟨τ, G, _, ab, q, fun x G' v H' q r a st => ?_⟩) fun u s1 ⟨v, H1, I1, rv, kvs, G1, r, ag, st, q1⟩ => ?_)
  · obtain ⟨kvs, rfl, q⟩ := q
    exact ⟨kvs, G', r, a, st, q⟩
  cases r with
  | dct h1 h2 h3 h4 h5 h6 =>
    cases rv
    rename_i d o u xx yy
    obtain ⟨ar, ep, hx, hdt, he⟩ := id h2
    have ho := (I1.hok _ _ h1).1
    have hm : s1.heap.DictRaw _ ar ep := ⟨_, ho, hx, hdt⟩
    subst he
    obtain ⟨ks, hk, ra⟩ := relkv_vals h6
    have hl := RelAll.length ra
    rw [List.length_map] at hl
    have hkl := hk.length
    simp only [List.length_map, Array.length_toList] at hkl
    rw [Array.length_toList] at h4
    refine ⟨hm.typeIs, ?_, ?_⟩
    · exact fun b eb => by cases eb; exact ⟨o, ho, hx.2.1⟩
    have I2 : Inv X pins σ H1 { s1 with heap := s1.heap.push { cls := .type "dict_values", data := .fields #[.ref d] } } := I1.kept (t' := s1.toks) fun b ob q => Heap.get?_push_of_some _ q
    have hm2 : (s1.heap.push { cls := .type "dict_values", data := .fields #[.ref d] }).DictRaw d ar ep := ⟨o, Heap.get?_push_of_some _ ho, hx, hdt⟩
    have fin : wpAny (model X.prog X.w) X.A (pyIter (.ref s1.heap.objs.size)) (PIE X pins σ tg R) X.xe { s1 with heap := s1.heap.push { cls := .type "dict_values", data := .fields #[.ref d] } } := by
      refine wpAny_pyIter_values_raw (d := d) ⟨_, Heap.get?_push_size _ rfl, rfl, rfl⟩ hm2 (pi_one (tk := s1.toks) I2 _ (turn_val _ hx hdt hk) ⟨_, Heap.get?_push_size _ rfl, rfl, rfl⟩ (hQ _ G1 _ H1 q1 ag st ?_))
      exact src_of walk_val (fun H' e => ⟨_, e.frzs _ _ _ h1⟩) ra (by omega)
    show wpAny _ _ (callWith cpos (.builtin "dict.values") [.ref d] [] []) _ X.xe s1
    exact method_meetsIn F.slot_dict_values F.entry_dict_values rfl (PySem.evalArgs_none ⟨rfl, hm.typeIs, F.args_dict_values_1 _, _, meets_dict_values_raw d (beq_eq_false_iff_ne.mpr h3), ⟨⟨ar, ep, hm⟩, fin⟩⟩)
end
end DL

/-! DMc: a whole expression while an object is only read; count, remove, extend, clear of dicts, [::-1]. -/
namespace DL
open PySem PySem.Spec PyProof.Rows L2

def flatD : PyData → Bool
  | .none => true
  | .bool _ => true
  | .int _ => true
  | .str _ => true
  | _ => false
theorem flat_rel {w : World} {K : PySem.W.Frag} {H H' : Hp} {d : PyData} {v : V} (h : flatD d = true) (r : Rel w K H d v) : Rel w K H' d v := by
  cases r with
  | non => exact .non
  | bl b => exact .bl b
  | int i => exact .int i
  | str x => exact .str x
  | _ => exact absurd h Bool.false_ne_true
/-- the object at slot i is data while the expression runs, and an object again behind it; nothing else is told meanwhile -/
def dLk (i : Nat) (t : DE) : DE := fun τ G Q => ∃ a d, τ[i]? = some (some (.ref a)) ∧ see G (.ref a) = some d ∧ t (frzT a d τ) (fun _ => none) fun x _ => ∃ e, x = .dat e ∧ flatD e = true ∧ Q x G
theorem q_lk {X : Cx} {e : Expr} {t : DE} (i : Nat) (h : PE X e (upE X.w X.K t)) : PE X e (upE X.w X.K (dLk i t)) := by
  refine ⟨fun pins s σ H Q I hw => ?_⟩
  obtain ⟨τ, G, Q0, ab, ⟨a, d, hi, hs, q⟩, hQ⟩ := hw
  obtain ⟨o, u, I2, hu, hm, r⟩ := freezes I ab.obj hs
  have hn := I.nofrz hu hm
  have A2 : Abs X.w X.K σ (upd H a (.frz o u)) (frzT a d τ) (fun _ => none) := ⟨(ab.frz hu hm r).len, (ab.frz hu hm r).slot, fun b m g => nomatch g⟩
  refine thn (h.run pins s σ _ (fun v H' => ∃ x G', RelA X.w X.K H' x v ∧ Step (upd H a (.frz o u)) (fun _ => none) H' G' ∧ ∃ e, x = .dat e ∧ flatD e = true ∧ Q0 x G) I2 ⟨_, _, _, A2, q, fun x G' v H' q r a st => ⟨x, G', r, st, q⟩⟩) fun uu s' ⟨v, H', I', rv, x, G', rx, st, e, ex, hf, q1⟩ => ?_
  subst ex
  have hfz : H' a = some (.frz o u) := (st.keep a _ upd_same rfl).1
  have I3 := I'.unlock hfz hn
  have sm : Same H (upd H' a u) := fun b w hb => by
    by_cases e : b = a
    · subst e
      rw [upd_same, ← hb, hu]
    · rw [upd_ne e]
      exact (st.keep b w (by rw [upd_ne e]; exact hb) rfl).1
  have rx' : Rel X.w X.K H' _ v := rx
  exact ⟨v, _, I3, rv, hQ _ G v _ q1 (flat_rel hf rx') (ab.obj.same sm) (Same.step sm)⟩

section
variable {X : Cx} {o e : Expr} {to te : DE} {apos cpos pos p2 : Pos}
/-- d.clear() -/
def mDClear : DMt := fun x ys G Q => ∃ a kvs, x = .ref a ∧ ys = [] ∧ G a = some (.dct kvs) ∧ Q (.dat .none) (gup G a (.dct []))
theorem m_dclear : MtR X "dict.clear" (rMt X.w X.K mDClear) := by
  intro pins s σ H v vs u us Q I rv rus h
  obtain ⟨x, ys, G, Q0, rx, ra, ag, ⟨a, kvs, rfl, rfl, g, q⟩, hQ⟩ := h
  have ev : v = .ref a := rx
  subst ev
  cases rv
  cases ra
  obtain rfl := rus.zero
  obtain ⟨o, es, D, ha⟩ := DTh.told I ag g
  obtain ⟨ar, ep, hx, hd, he⟩ := D.obj
  have hz : ar.size ≤ sizeLine := by have := D.len; rw [← he, Array.length_toList] at this; exact this
  refine call_meetsIn F.slot_dict_clear ⟨o, D.at_, hx.1⟩ F.entry_dict_clear (F.args_dict_clear_1 _) (meets_dict_clear_raw a) ⟨ar, ep, ⟨o, D.at_, hx, hd⟩, hz, fun h' hd' sb => ?_⟩
  obtain ⟨o', e1, hx', hd2⟩ := hd'
  obtain ⟨I2, A2, st⟩ := put_dict (tk := s.toks) I ag (kvs' := []) (es' := []) g ha D.nosys sb e1 ⟨_, _, hx', hd2, rfl⟩ .nil (Nat.zero_le _) List.nodup_nil
  exact ⟨.non, _, I2, rfl, hQ _ _ .non _ q Rel.non A2 st⟩
theorem q_dclear (ho : PE X o (upE X.w X.K to)) (hbase : attributeBase o "clear" X.env (eval o X.env) = eval o X.env := by rfl) (hline : (apos.endLine == cpos.line) = true := by rfl) :
    PE X (.Call (.Attribute o "clear" apos) [] [] cpos) (upE X.w X.K (dMt0 tyD mDClear to)) := q_mt0 PySem.F.plainAttrs_dict PySem.F.slot_dict_clear PySem.F.type_dict_clear ty_dict m_dclear ho hbase hline
/-- l.count(x) -/
def mCount : DMt := fun x ys G Q => ∃ xs k d, see G x = some (.list xs) ∧ ys = [k] ∧ see G k = some d ∧ fineAll xs = true ∧ fine d = true ∧ Q (.dat (.int ((xs.countP fun y => PyData.eqv y d : Nat) : Int))) G
theorem m_count {k : Nat} (hr : Room k X.A) : MtR X "list.count" (rMt X.w X.K mCount) := by
  intro pins s σ H v vs u us Q I rv rus h
  have un := hr.un
  obtain ⟨x, ys, G, Q0, rx, ra, ag, ⟨xs, y, d, hs, rfl, hy, hf, hd, q⟩, hQ⟩ := h
  cases ra with
  | cons ry rr =>
    cases rr
    obtain ⟨u', rfl, ru⟩ := rus.one
    have n1 := see_now ag rx hs
    obtain ⟨a, ws, rfl, hl, hv⟩ := now_list n1
    cases rv
    obtain ⟨its, m, ri, ei, zi⟩ := rd_lst I hl
    obtain ⟨as, rs⟩ := readsAll I hv ri
    obtain ⟨bs, rd⟩ := now_reads I (see_now ag ry hy) ru
    unfold fineAll at hf
    unfold fine at hd
    rw [Bool.and_eq_true] at hf hd
    have h2 := of_decide_eq_true hf.2
    have h3 := of_decide_eq_true hd.2
    exact PySem.SeqAt.count_list_data (vs := its.toArray) ⟨_, ei, rfl, _, rfl⟩ rs rd hf.1 hd.1 (by have := Nat.min_le_left (PyData.depthAll xs) d.depth; omega) ⟨.int _, H, I.tok _, ⟨_, rfl⟩, hQ _ G _ H q (Rel.int _) ag .refl⟩
theorem q_count {k : Nat} (hr : Room k X.A) (ho : PE X o (upE X.w X.K to)) (he : PE X e (upE X.w X.K te)) (hbase : attributeBase o "count" X.env (eval o X.env) = eval o X.env := by rfl) (hline : (apos.endLine == cpos.line) = true := by rfl) (hs : starEach [e] X.env = (false, eval e X.env) :: starEach [] X.env := by rfl)
    (hfew : ((backTo cpos (starEach [e] X.env)).all (fun x => !x.1) && (backToKw cpos (keywordEach [] X.env)).all (fun x => x.1.isSome) && decide ([e].length + ([] : List Keyword).length + (if ([] : List Keyword).isEmpty then 0 else 1) < 30)) = true := by rfl) :
    PE X (.Call (.Attribute o "count" apos) [e] [] cpos) (upE X.w X.K (dMt tyL mCount to (dCons te dNil))) := q_mt PySem.F.plainAttrs_list PySem.F.slot_list_count PySem.F.type_list_count ty_list (m_count hr) ho (qa_cons he qa_nil hs) hbase hfew hline hs
/-- l.remove(x), found -/
def mRemove : DMt := fun x ys G Q => ∃ a xs d j, x = .ref a ∧ G a = some (.lst (xs.map Va.dat)) ∧ ys = [.dat d] ∧ fineAll xs = true ∧ fine d = true ∧ PySem.SeqAt.dataPlace xs d = some j ∧ Q (.dat .none) (gup G a (.lst ((xs.eraseIdx j).map Va.dat)))
theorem map_erase {α β : Type} (f : α → β) : ∀ (xs : List α) (j : Nat), (xs.map f).eraseIdx j = (xs.eraseIdx j).map f
  | [], _ => by simp
  | x :: xs, 0 => by simp
  | x :: xs, j + 1 => by simp [map_erase f xs j]
theorem m_remove {k : Nat} (hr : Room k X.A) : MtR X "list.remove" (rMt X.w X.K mRemove) := by
  intro pins s σ H v vs u us Q I rv rus h
  have un := hr.un
  obtain ⟨x, ys, G, Q0, rx, ra, ag, ⟨a, xs, d, j, rfl, g, rfl, hf, hd, hj, q⟩, hQ⟩ := h
  have ev : v = .ref a := rx
  subst ev
  cases rv
  cases ra with
  | cons ry rr =>
    cases rr
    obtain ⟨u', rfl, ru⟩ := rus.one
    obtain ⟨ws, hv, rl⟩ := ag a _ g
    obtain ⟨z, its, n, r, hl, e⟩ := I.lstM hv
    obtain ⟨as, rs⟩ := readsAll I rl.dats r
    obtain ⟨bs, rd⟩ := reads I (show Rel X.w X.K H d _ from ry) ru
    unfold fineAll at hf
    unfold fine at hd
    rw [Bool.and_eq_true] at hf hd
    have h2 := of_decide_eq_true hf.2
    have h3 := of_decide_eq_true hd.2
    obtain ⟨ag2, st⟩ := put_list ag g hv (relAs_erase j rl)
    refine PySem.SeqAt.remove_list_data (vs := its.toArray) (j := j) ⟨_, e, rfl, _, rfl⟩ rs rd hf.1 hd.1 (by have := Nat.min_le_left (PyData.depthAll xs) d.depth; omega) hj (by rw [List.size_toArray]; omega) ?_
    rw [map_erase] at ag2 st
    refine ⟨.non, _, I.lset (t' := s.toks) (its' := its.eraseIdx j) hv e ?_ (r.eraseIdx j) ?_, rfl, hQ _ _ .non _ q Rel.non ag2 st⟩
    · show its.toArray.eraseIdxIfInBounds j = (its.eraseIdx j).toArray
      rw [List.eraseIdxIfInBounds_toArray]
    · have := len_erase ws j
      omega
theorem q_remove {k : Nat} (hr : Room k X.A) (ho : PE X o (upE X.w X.K to)) (he : PE X e (upE X.w X.K te)) (hbase : attributeBase o "remove" X.env (eval o X.env) = eval o X.env := by rfl) (hline : (apos.endLine == cpos.line) = true := by rfl) (hs : starEach [e] X.env = (false, eval e X.env) :: starEach [] X.env := by rfl)
    (hfew : ((backTo cpos (starEach [e] X.env)).all (fun x => !x.1) && (backToKw cpos (keywordEach [] X.env)).all (fun x => x.1.isSome) && decide ([e].length + ([] : List Keyword).length + (if ([] : List Keyword).isEmpty then 0 else 1) < 30)) = true := by rfl) :
    PE X (.Call (.Attribute o "remove" apos) [e] [] cpos) (upE X.w X.K (dMt tyL mRemove to (dCons te dNil))) := q_mt PySem.F.plainAttrs_list PySem.F.slot_list_remove PySem.F.type_list_remove ty_list (m_remove hr) ho (qa_cons he qa_nil hs) hbase hfew hline hs
/-- l.extend(list) -/
def mExtend : DMt := fun x ys G Q => ∃ a b xs zs, x = .ref a ∧ ys = [.ref b] ∧ G a = some (.lst xs) ∧ G b = some (.lst zs) ∧ xs.length + zs.length ≤ sizeLine ∧ Q (.dat .none) (gup G a (.lst (xs ++ zs)))
theorem m_extend : MtR X "list.extend" (rMt X.w X.K mExtend) := by
  intro pins s σ H v vs u us Q I rv rus h
  obtain ⟨x, ys, G, Q0, rx, ra, ag, ⟨a, b, xs, zs, rfl, rfl, g, gb, hz, q⟩, hQ⟩ := h
  have ev : v = .ref a := rx
  subst ev
  cases ra with
  | cons ry rr =>
    cases rr
    have ey : _ = V.ref b := ry
    subst ey
    obtain ⟨vs, hv, rl⟩ := ag a _ g
    obtain ⟨ws, hw, rl2⟩ := ag b _ gb
    obtain ⟨ag2, st⟩ := put_list ag g hv (relAs_append rl rl2)
    exact mt_extend pins s σ H _ _ u us Q I rv rus ⟨a, b, vs, ws, rfl, rfl, hv, hw, by rw [← Paired.len rl, ← Paired.len rl2]; exact hz, hQ _ _ .non _ q Rel.non ag2 st⟩
theorem q_extend (ho : PE X o (upE X.w X.K to)) (he : PE X e (upE X.w X.K te)) (hbase : attributeBase o "extend" X.env (eval o X.env) = eval o X.env := by rfl) (hline : (apos.endLine == cpos.line) = true := by rfl) (hs : starEach [e] X.env = (false, eval e X.env) :: starEach [] X.env := by rfl)
    (hfew : ((backTo cpos (starEach [e] X.env)).all (fun x => !x.1) && (backToKw cpos (keywordEach [] X.env)).all (fun x => x.1.isSome) && decide ([e].length + ([] : List Keyword).length + (if ([] : List Keyword).isEmpty then 0 else 1) < 30)) = true := by rfl) :
    PE X (.Call (.Attribute o "extend" apos) [e] [] cpos) (upE X.w X.K (dMt tyL mExtend to (dCons te dNil))) := q_mt PySem.F.plainAttrs_list PySem.F.slot_list_extend PySem.F.type_list_extend ty_list m_extend ho (qa_cons he qa_nil hs) hbase hfew hline hs
end
end DL

/-! DMd: [::-1] of texts, tuples, lists. -/
namespace DL
open PySem PySem.Spec PyProof.Rows L2

/-- a text from behind -/
def dRevS (te : DE) : DE := fun τ G Q => te τ G fun x G1 => ∃ z : Str, x = .dat (.str z) ∧ z.length ≤ sizeLine ∧ Q (.dat (.str ⟨z.cps.toList.reverse.toArray⟩)) G1
theorem picked_rev {α : Type} (xs : Array α) : (Builtin.Str.strSliceIndices none none (-1) xs.size).filterMap (xs[·]?) = xs.toList.reverse := by
  show (sliceRange ((xs.size : Int) - 1) (-1) (-1)).filterMap (xs[·]?) = _
  rw [PySem.W.krv_sliceRange, PySem.W.krv_range, List.filterMap_reverse, PySem.W.krv_all]
section
variable {X : Cx} {e : Expr} {te : DE} {k : Nat} {p1 p2 p3 pos : Pos}
theorem q_revS (he : PE X e (upE X.w X.K te)) : PE X (.Subscript e (.Slice none none (some (.UnaryOp .USub (.Constant (.int 1) k p1) p2)) p3) pos) (upE X.w X.K (dRevS te)) := by
  refine ⟨fun pins s σ H Q I h => ?_⟩
  obtain ⟨τ, G, Q0, ab, q, hQ⟩ := h
  refine Subscript_ (thn (he.run pins s σ H (fun v H1 => ∃ z G1, v = V.str z ∧ AbsG X.w X.K H1 G1 ∧ Step H G H1 G1 ∧ z.length ≤ sizeLine ∧ Q0 (.dat (.str ⟨z.cps.toList.reverse.toArray⟩)) G1) I ⟨τ, G, _, ab, q, fun x G1 v H1 q r a st => ?_⟩) fun v s1 ⟨x, H1, I1, r1, z, G1, ex, ag, st, hz, q1⟩ => ?_)
  · obtain ⟨z, rfl, hz, q⟩ := q
    have r' : Rel X.w X.K H1 (.str z) v := r
    cases r'
    exact ⟨z, G1, rfl, a, st, hz, q⟩
  subst ex
  obtain ⟨t, rfl⟩ := r1
  have hst : PO X (some (.UnaryOp .USub (.Constant (.int 1) k p1) p2)) (tPart (tUn (rU fun i => .int (-i)) (tC (.int 1)))) := po_some (pe_un un_neg pe_int)
  refine wpAny_Slice (thn (po_none.run pins s1 σ H1 (fun o H2 => o = none ∧ H2 = H1) I1 ⟨rfl, rfl⟩) fun vl s2 ⟨l, H2, I2, pl, el, e2⟩ => ?_)
  subst el e2
  refine thn (po_none.run pins s2 σ H2 (fun o H3 => o = none ∧ H3 = H2) I2 ⟨rfl, rfl⟩) fun vu s3 ⟨u, H3, I3, pu, eu, e3⟩ => ?_
  subst eu e3
  refine thn (hst.run pins s3 σ H3 (fun o H4 => o = some (-1) ∧ H4 = H3) I3 ⟨1, rfl, -1, rfl, rfl, rfl⟩) fun vs s4 ⟨o, H4, I4, ps, eo, e4⟩ => ?_
  subst eo e4
  have I5 : Inv X pins σ H4 { s4 with heap := s4.heap.push { cls := .type "slice", data := .fields #[vl, vu, vs] } } := I4.kept (t' := s4.toks) fun b ob q => Heap.get?_push_of_some _ q
  cases pl
  cases pu
  cases ps with
  | int i t2 =>
  show wpAny (model X.prog X.w) X.A (subscriptTail e (.Slice none none (some (.UnaryOp .USub (.Constant (.int 1) k p1) p2)) p3) (.str z t) (.ref s4.heap.objs.size)) (EP X pins σ Q) X.xe { s4 with heap := s4.heap.push { cls := .type "slice", data := .fields #[.none, .none, .int (-1) t2] } }
  refine tail_any (ops := [.ref s4.heap.objs.size, .str z t]) (typeIs_str _ z t) F.slot_str_getitem.lookup ?_ (by with_unfolding_all rfl)
  refine wpAny_getItem_str_slice (l := none) (u := none) (st := some (-1, t2)) ⟨_, Heap.get?_push_size _ rfl, rfl, rfl⟩ rfl ?_
  show Made.post (Made.str ⟨((Builtin.Str.strSliceIndices none none (-1) z.cps.size).filterMap (z.cps[·]?)).toArray⟩) _ _
  rw [picked_rev]
  refine ⟨?_, .str _, H4, I5.tok _, ⟨_, rfl⟩, hQ _ G1 _ H4 q1 (Rel.str _) ag st⟩
  show z.cps.toList.reverse.toArray.size ≤ sizeLine
  rw [List.size_toArray, List.length_reverse, Array.length_toList]
  exact hz
/-- a list from behind, a new one -/
def dRevL (te : DE) : DA := fun τ G Q => te τ G fun x G1 => ∃ ds, see G1 x = some (.list ds) ∧ ds.length ≤ sizeLine ∧ Q (ds.reverse.map Va.dat) G1
theorem relAll_reverse {w : World} {K : PySem.W.Frag} {H : Hp} : ∀ {ds : List PyData} {vs : List V}, RelAll w K H ds vs → RelAll w K H ds.reverse vs.reverse
  | _, _, .nil => .nil
  | _, _, .cons r t => by
    rw [List.reverse_cons, List.reverse_cons]
    exact (relAll_reverse t).append (.cons r .nil)
theorem ql_revL (he : PE X e (upE X.w X.K te)) : PE X (.Subscript e (.Slice none none (some (.UnaryOp .USub (.Constant (.int 1) k p1) p2)) p3) pos) (upL X.w X.K (dRevL te)) :=
  (pe_revL he).imp fun σ H Q ⟨τ, G, Q0, ab, q, hQ⟩ => ⟨τ, G, _, ab, q, fun x G1 v H1 q1 r1 a1 s1 => by
    obtain ⟨ds, h1, hz, q2⟩ := q1
    obtain ⟨a, vs, rfl, ha, hv⟩ := now_list (see_now a1 r1 h1)
    have hl := RelAll.length hv
    refine ⟨a, vs, rfl, .inl ha, fun p hp => upL_new hQ q2 (relAll_reverse hv).vas hp ?_ a1 s1⟩
    rw [List.length_reverse]
    omega⟩
end
end DL

/-! DMe: d == e, d != e of dicts whose keys are tuples. -/
namespace DL
open PySem PySem.Spec PyProof.Rows L2

section
variable {prog : Program} {w : World} {K : Type} [DecidableEq K] {knd : HeapKind prog w K} {A : Around} {E : Value → Shared → Prop} {s : Shared}
inductive HitsH (prog : Program) (w : World) (A : Around) (s : Shared) {K : Type} [DecidableEq K] (kb : List (K × Addr × Value)) : List (K × Addr × Value) → Bool → Prop
  | nil : HitsH prog w A s kb [] true
  | miss {k : K} {p : Addr × Value} {r : List (K × Addr × Value)} : atKey kb k = none → HitsH prog w A s kb ((k, p) :: r) false
  | hit {k : K} {p q : Addr × Value} {r : List (K × Addr × Value)} {e b : Bool} : atKey kb k = some q → SeqAt.EqP prog w A s p.2 q.2 e → HitsH prog w A s kb r b → HitsH prog w A s kb ((k, p) :: r) (e && b)
theorem HitsH.inv {kb : List (K × Addr × Value)} {k : K} {p : Addr × Value} {r : List (K × Addr × Value)} {b : Bool} (h : HitsH prog w A s kb ((k, p) :: r) b) :
    (atKey kb k = none ∧ b = false) ∨ ∃ q e b', atKey kb k = some q ∧ SeqAt.EqP prog w A s p.2 q.2 e ∧ HitsH prog w A s kb r b' ∧ b = (e && b') := by
  cases h with
  | miss hn => exact .inl ⟨hn, rfl⟩
  | hit hy he hr => exact .inr ⟨_, _, _, hy, he, hr, rfl⟩
theorem samePairsH {nm : String} {a b : Addr} {ka kb : List (K × Addr × Value)} {r : Bool} {Q : Bool → Shared → Prop} (hu : knd.room A) (ha : (a == sysModules) = false) (hb : (b == sysModules) = false)
    (da : s.heap.DictOfH knd a ka) (db : s.heap.DictOfH knd b kb) (hits : ka.length = kb.length → HitsH prog w A s kb ka r) (h : Q (ka.length == kb.length && r) s) :
    wpAny (model prog w) A (Builtin.Dict.samePairs nm a b) Q E s := by
  obtain ⟨oa, es, ep, hoa, _, hda, hka, hia, hna⟩ := da
  obtain ⟨ob, es', ep', hob, _, hdb, hkb, hib, hnb⟩ := db
  have hla : ka.length = es.size := (size_of_entries hka).symm
  have hlb : kb.length = es'.size := (size_of_entries hkb).symm
  rw [hla, hlb] at h
  unfold Builtin.Dict.samePairs Builtin.Dict.showsAll
  rw [if_neg (show ¬ (a == sysModules) = true by rw [ha]; exact Bool.false_ne_true), if_neg (show ¬ (b == sysModules) = true by rw [hb]; exact Bool.false_ne_true)]
  refine wpAny_bind (wpAny_pure (wpAny_bind (wpAny_pure ?_)))
  refine wpAny_bind (wpAny_dictEntries hoa hda ?_)
  dsimp only
  refine wpAny_bind (wpAny_dictEntries hob hdb ?_)
  by_cases hsz : es.size = es'.size
  case neg =>
    rw [if_pos (by simpa using hsz)]
    have hbf : (es.size == es'.size) = false := by simpa using hsz
    rw [hbf, Bool.false_and] at h
    exact wpAny_bind (wpAny_rule (wpAny_pure h))
  case pos =>
    have h' : Q r s := by simpa [hsz] using h
    have hits' := hits (by rw [hla, hlb]; exact hsz)
    rw [if_neg (by rw [hsz]; simp)]
    refine wpAny_bind (wpAny_dictEpoch hoa hda ?_)
    refine wpAny_bind ?_
    rw [Std.Legacy.Range.forIn_eq_forIn_range']
    simp only [Std.Legacy.Range.size, Nat.sub_zero, Nat.add_sub_cancel, Nat.div_one]
    refine wpAny_forIn_list _
      (fun rest q s' => s' = s ∧ q = (none, ()) ∧ ∃ i, rest = List.range' i (es.size - i) ∧ i ≤ es.size ∧ HitsH prog w A s kb (ka.drop i) r)
      _ ?_ ?_ _ _ ⟨rfl, rfl, 0, by simp, Nat.zero_le _, hits'⟩
    · rintro x rest q s' ⟨rfl, rfl, i, hr, hi, hpre⟩
      have hlt : i < es.size := by
        rcases Nat.lt_or_ge i es.size with h | h
        · exact h
        · rw [Nat.sub_eq_zero_of_le h] at hr; simp at hr
      obtain ⟨rfl, hrest⟩ : x = i ∧ rest = List.range' (i + 1) (es.size - (i + 1)) := by
        have e : es.size - i = (es.size - (i + 1)) + 1 := by omega
        rw [e, List.range'_succ] at hr
        injection hr with h1 h2
        exact ⟨h1, h2⟩
      refine wpAny_bind (wpAny_dictEntries hoa hda ?_)
      have hlt' : x < ka.length := by rw [hla]; exact hlt
      obtain ⟨k, p, hkv⟩ : ∃ k p, ka[x] = (k, p) := ⟨_, _, rfl⟩
      have hdrop : ka.drop x = (k, p) :: ka.drop (x + 1) := by rw [← hkv]; exact List.drop_eq_getElem_cons hlt'
      have hget : ka[x]? = some (k, p) := by rw [List.getElem?_eq_getElem hlt', hkv]
      rw [entry_at hka x, hget]
      have hkey := hia _ (List.mem_of_getElem? hget)
      rw [hdrop] at hpre
      show wpAny _ _ (holding [.ref p.1, p.2] _ >>= _) _ _ _
      refine wpAny_bind (wpAny_holding (wpAny_bind (wpAny_dictFind_heap hu hkey hob hdb hkb hib hnb ?_ ?_)))
      · intro hno
        have hn := atKey_none_of_get hno
        rcases hpre.inv with ⟨_, er⟩ | ⟨y, _, _, hy, _⟩
        · rw [er] at h'
          refine wpAny_pure ?_
          show wpAny _ _ (if (!false) = true then _ else _) _ _ _
          rw [if_pos (by decide)]
          exact wpAny_pure (wpAny_pure h')
        · rw [hn] at hy; exact nomatch hy
      · intro j q hj
        have hv' := atKey_of_get hnb hj
        refine wpAny_bind (wpAny_dictEntries hob hdb ?_)
        rw [entry_at hkb j, hj]
        rcases hpre.inv with ⟨hn, _⟩ | ⟨y, e, b', hy, he, hrr, er⟩
        · rw [hv'] at hn; exact nomatch hn
        · have ey : q = y := Option.some.inj (hv'.symm.trans hy)
          subst ey
          refine wpAny_holding (he _ _ ?_)
          cases e with
          | false =>
            rw [er, Bool.false_and] at h'
            show wpAny _ _ (if (!false) = true then _ else _) _ _ _
            rw [if_pos (by decide)]
            exact wpAny_pure (wpAny_pure h')
          | true =>
            rw [Bool.true_and] at er
            rw [← er] at hrr
            show wpAny _ _ (if (!true) = true then _ else _) _ _ _
            rw [if_neg (by decide)]
            refine wpAny_bind (wpAny_dictEpoch hoa hda ?_)
            rw [if_neg (by simp)]
            exact wpAny_pure ⟨rfl, rfl, x + 1, hrest, hlt, hrr⟩
    · rintro q s' ⟨rfl, rfl, i, hr, hi, hpre⟩
      have hin : i = es.size := by
        rcases Nat.lt_or_ge i es.size with h | h
        · have e : es.size - i = (es.size - (i + 1)) + 1 := by omega
          rw [e, List.range'_succ] at hr; exact nomatch hr
        · exact Nat.le_antisymm hi h
      refine wpAny_pure ?_
      rw [hin, ← hla, List.drop_length] at hpre
      cases hpre
      exact h'
theorem eq_dictsH {a b : Addr} {ka kb : List (K × Addr × Value)} {r : Bool} {Q : Value → Shared → Prop} (hr : knd.room A.in1) (ha : (a == sysModules) = false) (hb : (b == sysModules) = false)
    (da : s.heap.DictOfH knd a ka) (db : s.heap.DictOfH knd b kb) (hu : A.units < cLine) (hits : ka.length = kb.length → HitsH prog w A.in1 s kb ka r) (h : Q (.bool (ka.length == kb.length && r)) s) :
    wpAny (model prog w) A (compareOp .Eq (.ref a) (.ref b)) Q E s := by
  refine wpAny_richCompare_same_room (op := .Eq) da.typeIs db.typeIs PySem.F.slot_dict_eq (wpAny_call_entry PySem.F.slot_dict_eq da.typeIs PySem.F.entry_dict_eq ?_ (PySem.F.args_dict_eq_2 _ _)) hu
  show wpAny _ _ (Builtin.Dict.dictSlotArgs "__eq__" ⟨[.ref a, .ref b], []⟩ >>= _) _ _ s
  refine wpAny_bind ?_
  unfold Builtin.Dict.dictSlotArgs
  refine wpAny_bind (wpAny_notOrdered_dict da.typeIs ?_)
  show wpAny _ _ (pure (Value.ref a, Value.ref b)) _ _ s
  refine wpAny_pure ?_
  refine wpAny_bind (wpAny_isInstance (T := "dict") db.typeIs PySem.F.sub_dict_dict ?_)
  simp only [Bool.not_true, Bool.false_eq_true, if_false]
  refine wpAny_bind (wpAny_pure (wpAny_bind (wpAny_pure ?_)))
  refine wpAny_bind (samePairsH hr ha hb da db hits ?_)
  refine wpAny_pure ⟨_, rfl, ?_, ?_⟩
  · exact fun x => nomatch x
  · simpa using h
theorem ne_dictsH {a b : Addr} {ka kb : List (K × Addr × Value)} {r : Bool} {Q : Value → Shared → Prop} (hr : knd.room A.in1) (ha : (a == sysModules) = false) (hb : (b == sysModules) = false)
    (da : s.heap.DictOfH knd a ka) (db : s.heap.DictOfH knd b kb) (hu : A.units < cLine) (hits : ka.length = kb.length → HitsH prog w A.in1 s kb ka r) (h : Q (.bool (!(ka.length == kb.length && r))) s) :
    wpAny (model prog w) A (compareOp .NotEq (.ref a) (.ref b)) Q E s := by
  refine wpAny_richCompare_same_room (op := .NotEq) da.typeIs db.typeIs PySem.F.slot_dict_ne (wpAny_call_entry PySem.F.slot_dict_ne da.typeIs PySem.F.entry_dict_ne ?_ (PySem.F.args_dict_ne_2 _ _)) hu
  show wpAny _ _ (Builtin.Dict.dictSlotArgs "__ne__" ⟨[.ref a, .ref b], []⟩ >>= _) _ _ s
  refine wpAny_bind ?_
  unfold Builtin.Dict.dictSlotArgs
  refine wpAny_bind (wpAny_notOrdered_dict da.typeIs ?_)
  show wpAny _ _ (pure (Value.ref a, Value.ref b)) _ _ s
  refine wpAny_pure ?_
  refine wpAny_bind (wpAny_isInstance (T := "dict") db.typeIs PySem.F.sub_dict_dict ?_)
  simp only [Bool.not_true, Bool.false_eq_true, if_false]
  refine wpAny_bind (wpAny_pure (wpAny_bind (wpAny_pure ?_)))
  refine wpAny_bind (samePairsH hr ha hb da db hits ?_)
  refine wpAny_pure ⟨_, rfl, ?_, ?_⟩
  · exact fun x => nomatch x
  · simpa using h
end
/-- what a dict says at a key is the same -/
def hitB (b : List (PyData × PyData)) (p : PyData × PyData) : Bool := match dlook b p.1 with
  | some y => PyData.eqv p.2 y
  | none => false
def dEqv (a b : List (PyData × PyData)) : Bool := a.length == b.length && a.all (hitB b)
def dOk (a : List (PyData × PyData)) : Bool := (a.all fun p => tk p.1) && a.all fun p => fine p.2
def eqDF (d e : PyData) : Option PyData := match d, e with
  | .dict a, .dict b => if dOk a && dOk b then some (.bool (dEqv a b)) else none
  | d, e => eqF d e
def neDF (d e : PyData) : Option PyData := match d, e with
  | .dict a, .dict b => if dOk a && dOk b then some (.bool (!dEqv a b)) else none
  | d, e => neF d e
section
variable {X : Cx} {pins : List (Addr × Obj)} {s : Shared} {σ : L2.St} {H : Hp}
theorem dlook_mem {α : Type} {kvs : List (PyData × α)} {k : PyData} {y : α} (h : dlook kvs k = some y) : ∃ p ∈ kvs, p.2 = y := by
  unfold dlook at h
  obtain ⟨p, hp, e⟩ := Option.map_eq_some_iff.mp h
  exact ⟨p, List.mem_of_find?_eq_some hp, e⟩
theorem hits_data (I : Inv X pins σ H s) {A : Around} (hu : A.units + 60 < cLine) {b : List (PyData × PyData)} {xb : List (NestedKey × Addr × Value)} (hb : Paired (TP X.w X.K H) (dats b) xb) (fb : (b.all fun p => fine p.2) = true) :
    ∀ {a : List (PyData × PyData)} {xa : List (NestedKey × Addr × Value)}, Paired (TP X.w X.K H) (dats a) xa → (a.all fun p => fine p.2) = true → HitsH X.prog X.w A s xb xa (a.all (hitB b))
  | [], _, r, _ => by cases r; exact .nil
  | p :: a, _, r, hf => by
    cases r with
    | @cons _ x _ xa h t =>
    rw [List.all_cons, Bool.and_eq_true] at hf
    have ih := hits_data I hu hb fb t hf.2
    obtain ⟨n, c⟩ := x
    rw [List.all_cons]
    rcases tp_look hb h.key with ⟨e1, e2⟩ | ⟨q, y, dv, e1, e2, ry, rv⟩
    · rw [dlook_dats] at e2
      have e3 : dlook b p.1 = none := by
        cases z : dlook b p.1 with
        | none => rfl
        | some y => rw [show ((p.1, Va.dat p.2) : PyData × Va).1 = p.1 from rfl, z] at e2; cases e2
      rw [show hitB b p = false by unfold hitB; rw [e3], Bool.false_and]
      exact .miss e1
    · rw [dlook_dats] at e2
      obtain ⟨y', e3, e4⟩ := Option.map_eq_some_iff.mp e2
      subst e4
      have e3' : dlook b p.1 = some y' := e3
      rw [show hitB b p = PyData.eqv p.2 y' by unfold hitB; rw [e3']]
      refine .hit e1 ?_ ih
      obtain ⟨dv2, r1, r2⟩ := h.val
      obtain ⟨as, a1⟩ := reads I (show Rel X.w X.K H p.2 dv2 from r1) r2
      obtain ⟨bs, b1⟩ := reads I (show Rel X.w X.K H y' dv from ry) rv
      obtain ⟨p', hp', ep⟩ := dlook_mem e3'
      have f1 := hf.1
      have f2 := List.all_eq_true.mp fb p' hp'
      rw [ep] at f2
      unfold fine at f1 f2
      rw [Bool.and_eq_true] at f1 f2
      have h2 := of_decide_eq_true f1.2
      have h3 := of_decide_eq_true f2.2
      exact (SeqAt.eqAt_plain p.2 y' A s _ _ as bs a1 b1 f1.1 f2.1 (by omega)).eqP
theorem o_eqD {k : Nat} (hr : Room k X.A) : O2 X (compareOp .Eq) eqDF := by
  intro pins s σ H d e z x y u1 u2 Q I n1 r1 n2 r2 h k
  have un := hr.un
  by_cases hd : (∃ a, d = .dict a) ∧ ∃ b, e = .dict b
  · obtain ⟨⟨a, rfl⟩, b, rfl⟩ := hd
    have h : (if (dOk a && dOk b) = true then some (PyData.bool (dEqv a b)) else none) = some z := h
    split at h
    · cases h
      rename_i hf
      rw [Bool.and_eq_true] at hf
      unfold dOk at hf
      rw [Bool.and_eq_true, Bool.and_eq_true] at hf
      obtain ⟨⟨ta, fa⟩, tb, fb⟩ := hf
      obtain ⟨pa, oa, ea, rfl, Da⟩ := DTh.data I n1
      obtain ⟨pb, ob, eb, rfl, Db⟩ := DTh.data I n2
      cases r1
      cases r2
      obtain ⟨xa, d1, p1, l1⟩ := Da.tups I (by rw [List.all_map]; exact ta)
      obtain ⟨xb, d2, p2, l2⟩ := Db.tups I (by rw [List.all_map]; exact tb)
      have la : xa.length = a.length := by rw [← Paired.len p1, List.length_map]
      have lb : xb.length = b.length := by rw [← Paired.len p2, List.length_map]
      have kk : (xa.length == xb.length && a.all (hitB b)) = dEqv a b := by unfold dEqv; rw [la, lb]
      exact eq_dictsH (by show X.A.units + 1 + 8 < cLine; omega) (beq_eq_false_iff_ne.mpr Da.nosys) (beq_eq_false_iff_ne.mpr Db.nosys) d1 d2 (by omega) (fun _ => hits_data I (by show X.A.units + 1 + 60 < cLine; omega) p2 fb p1 fa) (by rw [kk]; exact k (.bl _) _ H s I rfl (Rel.bl _) (Same.refl _))
    · cases h
  · refine o_eq hr pins s σ H d e z x y u1 u2 Q I n1 r1 n2 r2 ?_ k
    cases d <;> first | exact h | (cases e <;> first | exact h | exact absurd ⟨⟨_, rfl⟩, _, rfl⟩ hd)
theorem o_neD {k : Nat} (hr : Room k X.A) : O2 X (compareOp .NotEq) neDF := by
  intro pins s σ H d e z x y u1 u2 Q I n1 r1 n2 r2 h k
  have un := hr.un
  by_cases hd : (∃ a, d = .dict a) ∧ ∃ b, e = .dict b
  · obtain ⟨⟨a, rfl⟩, b, rfl⟩ := hd
    have h : (if (dOk a && dOk b) = true then some (PyData.bool (!dEqv a b)) else none) = some z := h
    split at h
    · cases h
      rename_i hf
      rw [Bool.and_eq_true] at hf
      unfold dOk at hf
      rw [Bool.and_eq_true, Bool.and_eq_true] at hf
      obtain ⟨⟨ta, fa⟩, tb, fb⟩ := hf
      obtain ⟨pa, oa, ea, rfl, Da⟩ := DTh.data I n1
      obtain ⟨pb, ob, eb, rfl, Db⟩ := DTh.data I n2
      cases r1
      cases r2
      obtain ⟨xa, d1, p1, l1⟩ := Da.tups I (by rw [List.all_map]; exact ta)
      obtain ⟨xb, d2, p2, l2⟩ := Db.tups I (by rw [List.all_map]; exact tb)
      have la : xa.length = a.length := by rw [← Paired.len p1, List.length_map]
      have lb : xb.length = b.length := by rw [← Paired.len p2, List.length_map]
      have kk : (xa.length == xb.length && a.all (hitB b)) = dEqv a b := by unfold dEqv; rw [la, lb]
      exact ne_dictsH (by show X.A.units + 1 + 8 < cLine; omega) (beq_eq_false_iff_ne.mpr Da.nosys) (beq_eq_false_iff_ne.mpr Db.nosys) d1 d2 (by omega) (fun _ => hits_data I (by show X.A.units + 1 + 60 < cLine; omega) p2 fb p1 fa) (by rw [kk]; exact k (.bl _) _ H s I rfl (Rel.bl _) (Same.refl _))
    · cases h
  · refine o_ne hr pins s σ H d e z x y u1 u2 Q I n1 r1 n2 r2 ?_ k
    cases d <;> first | exact h | (cases e <;> first | exact h | exact absurd ⟨⟨_, rfl⟩, _, rfl⟩ hd)
end
end DL

/-! DMf: a comprehension inside a comprehension. -/
namespace DL
open PySem PySem.Spec PyProof.Rows L2

def relF (env : Env) (p : Str × NameKind) : Str × NameKind := match p with
  | (n, k) => if (k == NameKind.free && env.scope.kind == .function && env.kindOf n == some .cell) then (n, NameKind.cell) else (n, k)
theorem relF_fst (env : Env) (p : Str × NameKind) : (relF env p).1 = p.1 := by
  obtain ⟨n, k⟩ := p
  unfold relF
  dsimp only
  split <;> rfl
theorem relF_snd (env : Env) (p : Str × NameKind) (h : p.2 = .cell ∨ p.2 = .free) : (relF env p).2 = .cell ∨ (relF env p).2 = .free := by
  obtain ⟨n, k⟩ := p
  unfold relF
  dsimp only
  split
  · exact .inl rfl
  · exact h
theorem lookup_rel {env : Env} : ∀ {names : List (Str × NameKind)} {x : Str}, names.lookup x = some .cell ∨ names.lookup x = some .free → (names.map (relF env)).lookup x = some .cell ∨ (names.map (relF env)).lookup x = some .free
  | [], x, h => by rcases h with h | h <;> cases h
  | p :: r, x, h => by
    obtain ⟨n, k⟩ := p
    have e1 := relF_fst env (n, k)
    have e2 := relF_snd env (n, k)
    rw [List.map_cons]
    rcases hq : relF env (n, k) with ⟨m, j⟩
    rw [hq] at e1 e2
    have e1 : m = n := e1
    subst e1
    by_cases hx : x == m
    · rw [List.lookup_cons, hx] at h ⊢
      dsimp only at h ⊢
      have hk : (m, k).2 = NameKind.cell ∨ (m, k).2 = NameKind.free := h.elim (fun h => .inl (Option.some.inj h)) fun h => .inr (Option.some.inj h)
      rcases e2 hk with z | z
      · left; rw [show j = NameKind.cell from z]
      · right; rw [show j = NameKind.free from z]
    · have hx' : (x == m) = false := by simpa using hx
      rw [List.lookup_cons, hx'] at h ⊢
      dsimp only at h ⊢
      exact lookup_rel h
theorem blkN {X : Cx} {s : Shared} {H : Hp} {scope : Scope} {cl : List (Str × Addr)} {C : Addr} {fp : List Addr} {sc2 : Scope} {own : List (Str × Nat)} (h : BlkOk X.N scope sc2 own) :
    BlkOk (X.blk s H scope (compEnvC scope cl C X.env) fp).N (X.blk s H scope (compEnvC scope cl C X.env) fp).env.scope sc2 own :=
  ⟨h.kind, h.uniq, h.ix, fun y hy e => lookup_rel (env := X.env) (h.free y hy e), h.own⟩
end DL

/-! DMg: texts joined, by sign. -/
namespace DL
open PySem PySem.Spec PyProof.Rows L2

theorem joinL_one (w : List Nat) : TL.joinL [] (w.map fun c => [c]) = w := by
  match w with
  | [] => rfl
  | [c] => rfl
  | c :: d :: r =>
    rw [List.map_cons, List.map_cons]
    show [c] ++ ([] ++ TL.joinL [] ([d] :: r.map fun c => [c])) = _
    have := joinL_one (d :: r)
    rw [List.map_cons] at this
    rw [this]; rfl
theorem join_one (w : List Nat) : Txt.join (⟨#[]⟩ : Str) (w.map fun c => (⟨#[c]⟩ : Str)) = ⟨w.toArray⟩ := by
  have := SX.join_S [] (w.map fun c => [c])
  rw [joinL_one, List.map_map] at this
  exact this
end DL

/-! DMh: a tuple so many times. -/
namespace DL
open PySem PySem.Spec PyProof.Rows L2
open MeetsSeq MeetsSeq2 MeetsSeq3 SeqRoads2

def mulTF : PyData → PyData → Option PyData
  | .tuple xs, .int k => if 1 ≤ xs.length ∧ xs.length ≤ 1000 ∧ 1 ≤ k ∧ k ≤ 1000 then some (.tuple (List.replicate k.toNat xs).flatten) else none
  | _, _ => none
theorem tuple_mul1 (l : Addr) (items : Array Value) (n : Nat) (dd : Option Addr) (sl : Array (Option Value)) (u : Tok) :
    Meets (Builtin.«tuple.__mul__» ⟨[.ref l, .int 1 u], []⟩) (fun _ R s => s.heap.get? l = some { cls := .type "tuple", dict := dd, data := .seq items n, slots := sl } ∧ R (.ok (.ret (Value.ref l))) s) :=
  .of_wp fun prog w A R s h => by
    obtain ⟨hp, g, d, tk, os⟩ := s
    obtain ⟨hl, h⟩ := h
    have f1 := AutoSeq1.idx_int
    wp_walk using PySem.AutoSeq1.wpAny_loadPart' hl
    repeat (first
      | (refine wpAny_ite_false (by decide) ?_; wp_walk using PySem.AutoSeq1.wpAny_loadPart' hl)
      | (refine wpAny_ite_true (by simp) ?_; wp_walk using PySem.AutoSeq1.wpAny_loadPart' hl))
    all_goals first | exact ⟨_, rfl, h⟩ | skip
theorem rep_flat {w : World} {K : PySem.W.Frag} {H : Hp} {xs : List PyData} {vs : List V} (r : RelAll w K H xs vs) : ∀ n : Nat, RelAll w K H (List.replicate n xs).flatten (List.replicate n vs).flatten
  | 0 => .nil
  | n + 1 => by
    rw [List.replicate_succ, List.replicate_succ, List.flatten_cons, List.flatten_cons]
    exact r.append (rep_flat r n)
section
variable {X : Cx}
theorem o_mulT : O2 X (binaryOp .Mult) mulTF := by
  intro pins s σ H d e z x y u1 u2 Q I n1 r1 n2 r2 h k
  cases d with
  | tuple xs =>
    cases e with
    | int i =>
      have h : (if 1 ≤ xs.length ∧ xs.length ≤ 1000 ∧ 1 ≤ i ∧ i ≤ 1000 then some (PyData.tuple (List.replicate i.toNat xs).flatten) else none) = some z := h
      split at h
      · cases h
        rename_i hh
        obtain ⟨h1, h2, h3, h4⟩ := hh
        obtain ⟨a, vs, rfl, ht, hv⟩ := now_tupN n1
        have ll := RelAll.length hv
        cases now_int n2
        cases r1
        obtain ⟨t, rfl⟩ := r2
        by_cases hi : i = 1
        · subst hi
          obtain ⟨its, r, ⟨⟨cls, dd, data, sl⟩, ho, hc, n, hd⟩, hs⟩ := I.tuple ht.sq
          simp only at hc hd
          subst hc hd
          refine wpAny_binaryOp_repeat_ref (T := "tuple") (U := "int") (by decide) ⟨_, ho, rfl⟩ (fun s' => typeIs_int s' 1 t) noFill_tuple_mul F.fills_int_mul F.slot_int_rmul repeat_tuple F.slot_int_index.lookup
            (call_meets F.slot_int_rmul (typeIs_int s 1 t) F.entry_int_rmul (F.args_int_rmul_2 _ _) (int_rmul_tuple 1 t a its.toArray n dd sl)
              ⟨ho, rfl, ⟨_, ho, rfl⟩, call_meets F.slot_tuple_mul ⟨_, ho, rfl⟩ F.entry_tuple_mul (F.args_tuple_mul_2 _ _) (tuple_mul1 a its.toArray n dd sl t) ⟨ho, ?_⟩⟩)
          refine k (.ref a) _ H _ I rfl ?_ (Same.refl _)
          rw [show (List.replicate (1 : Int).toNat xs).flatten = xs by simp]
          exact Rel.tup ht hv
        · obtain ⟨its, r, ⟨⟨cls, dd, data, sl⟩, ho, hc, n, hd⟩, hs⟩ := I.tuple ht.sq
          simp only at hc hd
          subst hc hd
          have hle : its.length = vs.length := r.length.symm
          have hie : its.toArray.isEmpty = false := by
            cases its with
            | nil => simp at hle; omega
            | cons a b => rfl
          have hsz0 : its.toArray.size = xs.length := by rw [List.size_toArray, hle, ll]
          have hm : ((its.toArray.size : Nat) : Int) * i ≤ 1000000 := by
            rw [hsz0]
            have a1 : ((xs.length : Nat) : Int) * i ≤ 1000 * i := Int.mul_le_mul_of_nonneg_right (by omega) (by omega)
            omega
          have hzz : (List.replicate i.toNat vs).flatten.length ≤ sizeLine := by
            rw [PyProof.Rows.lm_len_rep_flat, sizeLine_eq]
            have a1 : i.toNat * vs.length ≤ 1000 * 1000 := Nat.mul_le_mul (by omega) (by omega)
            omega
          have flen : (List.replicate i.toNat its).flatten.length ≤ sizeLine := by
            rw [PyProof.Rows.lm_len_rep_flat, hle, sizeLine_eq]
            have a1 : i.toNat * vs.length ≤ 1000 * 1000 := Nat.mul_le_mul (by omega) (by omega)
            omega
          have c0 : (decide (i < -(2 ^ 63)) || decide (i ≥ 2 ^ 63)) = false := by
            rw [decide_eq_false (by omega), decide_eq_false (by omega)] <;> rfl
          have c1 : (its.toArray.isEmpty || i == 1) = false := by
            rw [hie, Bool.false_or]
            exact beq_eq_false_iff_ne.mpr (by omega)
          have c2 : (decide (i ≤ 0) || its.toArray.isEmpty) = false := by
            rw [hie, Bool.or_false]
            exact decide_eq_false (by omega)
          have c4 : Builtin.Tuple.tupleTooMany (((its.toArray.size : Nat) : Int) * i) = false := by
            unfold Builtin.Tuple.tupleTooMany
            rw [sizeLine_eq]
            exact decide_eq_false (by omega)
          refine wpAny_binaryOp_repeat_ref (T := "tuple") (U := "int") (by decide) ⟨_, ho, rfl⟩ (fun s' => typeIs_int s' i t) noFill_tuple_mul F.fills_int_mul F.slot_int_rmul repeat_tuple F.slot_int_index.lookup
            (call_meets F.slot_int_rmul (typeIs_int s i t) F.entry_int_rmul (F.args_int_rmul_2 _ _) (int_rmul_tuple i t a its.toArray n dd sl)
              ⟨ho, rfl, ⟨_, ho, rfl⟩, call_meets F.slot_tuple_mul ⟨_, ho, rfl⟩ F.entry_tuple_mul (F.args_tuple_mul_2 _ _) (tuple_mulW a its.toArray n dd sl i t c0 c1 c2 (by omega) c4 (by rw [size_rep, List.size_toArray]; exact flen)) ⟨ho, ?_⟩⟩)
          rw [size_rep]
          obtain ⟨I2, hn, ht2⟩ := laidT (tk := s.toks) I (r.rep i.toNat) hzz
          have ex : Same H (upd H s.heap.objs.size (.frz { cls := .type "tuple", data := .seq ((List.replicate i.toNat its).flatten).toArray } (.tup (List.replicate i.toNat vs).flatten))) := fun b w hb => by
            rw [upd_ne (fun e => by rw [e, hn] at hb; cases hb)]; exact hb
          exact k (.ref _) _ _ _ I2 rfl (Rel.tup ht2 (RelAll.ext (Same.step (G := fun _ => none) ex).ext (rep_flat hv i.toNat))) ex
      · cases h
    | _ => cases h
  | _ => cases h
end
end DL

/-! DMi: where a sign stands in a text. -/
namespace DL
open PySem PySem.Spec PyProof.Rows L2

def mSIndex : DMt := fun x ys G Q => ∃ (a b : Str) (i : Nat) (rest : List Nat), x = .dat (.str a) ∧ ys = [.dat (.str b)] ∧ Builtin.Str.occurrences a b 0 a.length 1 = i :: rest ∧ Q (.dat (.int (i : Nat))) G
section
variable {X : Cx} {o e : Expr} {to te : DE} {apos cpos : Pos}
theorem m_sindex : MtR X "str.index" (rMt X.w X.K mSIndex) := by
  intro pins s σ H v vs u us Q I rv rus h
  obtain ⟨x, ys, G, Q0, rx, ra, ag, ⟨a, b, i, rest, rfl, rfl, ho, q⟩, hQ⟩ := h
  have rx' : Rel X.w X.K H (.str a) v := rx
  cases rx'
  cases ra with
  | cons ry rr =>
    cases rr
    have ry' : Rel X.w X.K H (.str b) _ := ry
    cases ry'
    exact mt_sindex pins s σ H _ _ u us Q I rv rus ⟨a, b, i, rest, rfl, rfl, ho, hQ _ G _ H q (Rel.int _) ag .refl⟩
theorem q_sindex (ho : PE X o (upE X.w X.K to)) (he : PE X e (upE X.w X.K te)) (hbase : attributeBase o "index" X.env (eval o X.env) = eval o X.env := by rfl) (hline : (apos.endLine == cpos.line) = true := by rfl) (hs : starEach [e] X.env = (false, eval e X.env) :: starEach [] X.env := by rfl)
    (hfew : ((backTo cpos (starEach [e] X.env)).all (fun x => !x.1) && (backToKw cpos (keywordEach [] X.env)).all (fun x => x.1.isSome) && decide ([e].length + ([] : List Keyword).length + (if ([] : List Keyword).isEmpty then 0 else 1) < 30)) = true := by rfl) :
    PE X (.Call (.Attribute o "index" apos) [e] [] cpos) (upE X.w X.K (dMt tyS mSIndex to (dCons te dNil))) := q_mt PySem.F.plainAttrs_str PySem.F.slot_str_index PySem.F.type_str_index ty_str m_sindex ho (qa_cons he qa_nil hs) hbase hfew hline hs
end
end DL

/-! DMj: is True, is not True. -/
namespace DL
open PySem PySem.Spec PyProof.Rows L2

def sameB : PyData → Bool → Bool
  | .bool a, b => a == b
  | _, _ => false
def isTF : PyData → PyData → Option PyData
  | d, .bool b => some (.bool (sameB d b))
  | _, _ => none
def notTF : PyData → PyData → Option PyData
  | d, .bool b => some (.bool (!sameB d b))
  | _, _ => none
section
variable {X : Cx}
theorem now_same {w : World} {K : PySem.W.Frag} {H : Hp} {d : PyData} {x : V} {u : Value} {b : Bool} (h : Now w K H d x) (r : RelV x u) : plainIs u (.bool b) = true ∧ (u == Value.bool b) = sameB d b := by
  cases h with
  | rel h =>
    cases h with
    | non => cases r; exact ⟨rfl, rfl⟩
    | bl c =>
      cases r
      refine ⟨rfl, ?_⟩
      cases c <;> cases b <;> rfl
    | int i => obtain ⟨t, rfl⟩ := r; exact ⟨rfl, rfl⟩
    | str i => obtain ⟨t, rfl⟩ := r; exact ⟨rfl, rfl⟩
    | tup => cases r; exact ⟨rfl, rfl⟩
    | lst => cases r; exact ⟨rfl, rfl⟩
    | dct => cases r; exact ⟨rfl, rfl⟩
  | lst => cases r; exact ⟨rfl, rfl⟩
  | dct => cases r; exact ⟨rfl, rfl⟩
theorem now_bl {w : World} {K : PySem.W.Frag} {H : Hp} {b : Bool} {x : V} (h : Now w K H (.bool b) x) : x = .bl b := by
  cases h with
  | rel h => cases h; rfl
theorem o_isT : O2 X (compareOp .Is) isTF := by
  intro pins s σ H d e z x y u1 u2 Q I n1 r1 n2 r2 h k
  cases e <;> simp only [isTF] at h <;> try (cases h; done)
  cases h
  have ey := now_bl n2
  subst ey
  cases r2
  obtain ⟨h1, h2⟩ := now_same n1 r1
  refine wpAny_is_plain h1 ?_
  rw [h2]
  exact k (.bl _) _ H s I rfl (Rel.bl _) (Same.refl _)
theorem o_notT : O2 X (compareOp .IsNot) notTF := by
  intro pins s σ H d e z x y u1 u2 Q I n1 r1 n2 r2 h k
  cases e <;> simp only [notTF] at h <;> try (cases h; done)
  cases h
  have ey := now_bl n2
  subst ey
  cases r2
  obtain ⟨h1, h2⟩ := now_same n1 r1
  refine wpAny_isNot_plain h1 ?_
  rw [h2]
  exact k (.bl _) _ H s I rfl (Rel.bl _) (Same.refl _)
end
end DL

/-! DMk: set([..]) of whole numbers, sorted(set(..)). -/
namespace DL
open PySem PySem.Spec PyProof.Rows L2

/-- an empty set, as it is made -/
abbrev eset (w : World) : Obj := { cls := .type "set", dict := none, data := .set #[] 0 (.fresh 0 0 (!w.params.followText "set-order")) }
section
variable {P : Program} {w : World} {A : Around} {E : Value → Shared → Prop} {s : Shared}
/-- set(xs) of a list: given what the walk over the list makes of the empty set -/
theorem set_lst {l : Addr} {its : Array Value} {Post : Heap → Prop} {Q : Value → Shared → Prop} (cold : A.handled = none) (hl : s.heap.IsList l its)
    (walk : ∀ (B : Around) (I : Addr) (fp wr : List Addr) (Gg : Array GenState → Array GenState → Prop) (St : Nat → Shared → Prop) (s1 : Shared) (R : Result → Shared → Prop), B.units ≤ A.units + 8 → WalksS P w B.in1 I fp wr Gg its.size (fun i v => its[i]? = some v) St → s.heap.objs.size ∉ fp → St 0 s1 →
      s1.heap.get? s.heap.objs.size = some (eset w) → (∀ b o, s.heap.get? b = some o → s1.heap.get? b = some o) → (∀ s2, Moved (s.heap.objs.size :: wr) Gg s1 s2 → Post s2.heap → R (.ok (.ret .none)) s2) → codeAny (model P w) B (.builtin "set.update.loop" ⟨[.ref s.heap.objs.size, .ref I], []⟩) R s1)
    (fin : ∀ (h2 : Heap) (tk : Nat), Post h2 → (∀ b o, s.heap.get? b = some o → h2.get? b = some o) → Q (.ref s.heap.objs.size) { s with heap := h2, toks := tk }) :
    wpAny (model P w) A (call (.type "set") [.ref l]) Q E s := by
  obtain ⟨mc, mt, mm⟩ := F.called_set.mro
  have m1 := F.called_set.made
  have m2 := F.called_set.sub
  have m3 := F.called_set.notType
  have m4 := F.called_set.canCreate
  have m5 := F.typeCall_set_1 (.ref l)
  have m6 := F.called_set.init.lookup
  refine wpAny_call (codeAny_of_tree ?_)
  show wpAny (model P w) _ (callAny (.type "set") ⟨[.ref l], []⟩) _ _ s
  refine wpAny_pure ⟨Code.quiet_builtin _ (by decide +kernel), codeAny_builtin F.entry_type_call ?_⟩
  rw [Around.under_plain (weight_type_call_type "set" [.ref l] []) rfl]
  repeat (any_goals (first | assumption | wp_step))
  refine codeAny_mono (code_set_led1 (.ref l) (E := E) (Q₁ := fun v t => v = .ref s.heap.objs.size ∧ t = { s with heap := s.heap.push (eset w) }) ⟨rfl, rfl⟩) fun r t hr => ?_
  cases r with
  | error e => exact hr
  | ok fl =>
    cases fl with
    | next => exact hr.elim
    | brk => exact hr.elim
    | cont => exact hr.elim
    | ret v =>
      obtain ⟨rfl, rfl⟩ := hr
      have gS : (s.heap.push (eset w)).get? s.heap.objs.size = some (eset w) := Heap.get?_push_size _ rfl
      have tS : Shared.TypeIs { s with heap := s.heap.push (eset w) } (.ref s.heap.objs.size) "set" := ⟨_, gS, rfl⟩
      have m7 := F.called_set.init.bind (.ref s.heap.objs.size)
      repeat (any_goals (first | assumption | wp_step))
      refine codeAny_mono (codeAny_call_builtin (R := wants (fun v t => v = .none ∧ ∃ h2 tk, t = { s with heap := h2, toks := tk } ∧ Post h2 ∧ ∀ b o, s.heap.get? b = some o → h2.get? b = some o) E) F.called_set.init.plain F.entry_set_init (check_set_init_1 tS ?_)) fun r t hr => ?_
      · obtain ⟨ol, gl, cl, nl, dl⟩ := hl
        obtain ⟨c0, d0, x0, l0⟩ := ol
        simp only at cl dl
        subst cl
        subst dl
        have gl2 : (s.heap.push (eset w)).get? l = some { cls := .type "list", dict := d0, data := .seq its nl, slots := l0 } := Heap.get?_push_of_some _ gl
        have q1 := F.sub_list_set
        have q2 := F.sub_list_frozenset
        have q3 : (Value.type "list" == Value.type "dict") = false := by decide
        have il : (s.heap.push (eset w)).IsList l its := ⟨_, gl2, rfl, nl, rfl⟩
        unfold Builtin.«set.__init__» noKeywords Builtin.Frozenset.updateFrom
        generalize hI : pyIter = PI
        wp_walk
        subst hI
        refine wpAny_pyIter_list il (wpAny_bind (wpAny_runValue ?_))
        have lS : l < s.heap.objs.size := Heap.lt_size gl
        have c3 : A.in1.in1.in1.handled = none := by simp [cold]
        have n1 : l ≠ (s.heap.push (eset w)).objs.size := by rw [Heap.size_push]; exact Nat.ne_of_lt (Nat.lt_succ_of_lt lS)
        have n2 : s.heap.objs.size ∉ [(s.heap.push (eset w)).objs.size, l] := by
          rw [Heap.size_push]
          simp only [List.mem_cons, List.not_mem_nil, or_false, not_or]
          exact ⟨Nat.ne_of_lt (Nat.lt_succ_self _), Nat.ne_of_gt lS⟩
        refine walk _ _ _ _ _ _ _ _ ?u ((Walks.list c3 _ l n1 its).toS) n2 ⟨⟨_, Heap.get?_push_size _ rfl, rfl, rfl⟩, il.push _⟩ (Heap.get?_push_of_some _ gS) (fun b o e => Heap.get?_push_of_some _ (Heap.get?_push_of_some _ e)) fun s2 mv hp => ?_
        case u => simp
        obtain ⟨h2, g2, d2, k2, p2⟩ := s2
        have e1 : g2 = s.gens := mv.gens
        have e2 : d2 = s.drawn := mv.drawn
        have e3 : p2 = s.os := mv.os
        subst e1 e2 e3
        show wpAny _ _ _ _ _ _
        refine wpAny_pure ?_
        show wpAny _ _ (ret Value.none) _ _ _
        refine wpAny_pure ⟨rfl, h2, k2, rfl, hp, fun b o e => ?_⟩
        have lb : b < s.heap.objs.size := Heap.lt_size e
        refine mv.heap b o ?_ (Heap.get?_push_of_some _ (Heap.get?_push_of_some _ e))
        rw [Heap.size_push]
        simp only [List.mem_cons, List.not_mem_nil, or_false, not_or]
        exact ⟨Nat.ne_of_lt lb, Nat.ne_of_lt (Nat.lt_succ_of_lt lb)⟩
      · cases r with
        | error e => exact hr
        | ok fl =>
          cases fl with
          | next => exact hr.elim
          | brk => exact hr.elim
          | cont => exact hr.elim
          | ret v =>
            obtain ⟨rfl, h2, tk, rfl, hp, kp⟩ := hr
            repeat (any_goals (first | assumption | wp_step))
            exact fin h2 tk hp kp
end
section
variable {X : Cx}
/-- set(xs), whole numbers -/
def rSetI (K : PySem.W.Frag) (w : World) : List V → Hp → VK → Prop := fun xs H Q => ∃ (l : Addr) (ns : List Int), xs = [V.ref l] ∧ SqL K H l (ns.map V.int) ∧ ns.length + 1 < scanBound ∧
  ∀ p c, H p = none → (∀ D : List Int, (∀ k ∈ ns, k ∈ D) → c ≤ D.length) → Q (.ref p) (upd H p (SetO w p (fun k => decide (k ∈ ns)) c))
theorem ints_vals : ∀ {ns : List Int} {us : List Value}, Vals (ns.map V.int) us → IntsAre us ns
  | [], _, h => by cases h; exact .nil
  | n :: ns, _, h => by
    cases h with
    | cons h1 h2 =>
      obtain ⟨t, rfl⟩ := h1
      exact .cons n t (ints_vals h2)
theorem pigeon : ∀ (l D : List Int), l.Nodup → (∀ x ∈ l, x ∈ D) → l.length ≤ D.length := fun l D hn hs => List.Nodup.length_le_of_subset hn hs
theorem SetR.few {w : World} {h : Heap} {a : Addr} {S : Int → Bool} {n : Nat} (R : SetR w h a S n) {D : List Int} (hD : ∀ k, S k = true → k ∈ D) : n ≤ D.length := by
  obtain ⟨o, es, ep, t, _, _, _, _, nd, hm, _, _, hn, _⟩ := R
  have := pigeon _ D nd fun k hk => hD k ((hm k).mpr hk)
  rw [List.length_map, Array.length_toList, hn] at this
  exact this
theorem cr_setI (hc : X.calm = true) : CallR X (.type "set") (rSetI X.K X.w) := by
  intro pins s σ H xs us Q I r h
  obtain ⟨l, ns, rfl, hl, hb, q⟩ := h
  rw [Vals.ref1 r]
  obtain ⟨its, rv, pl, hz⟩ := I.list hl
  have hit := ints_vals rv
  have hlen : its.length = ns.length := IntsAre.length hit
  have hn : H s.heap.objs.size = none := I.hok.fresh (Nat.le_refl _)
  refine set_lst (Post := fun h2 => ∃ c, c ≤ ns.length ∧ SetR X.w h2 s.heap.objs.size (fun k => decide (k ∈ ns)) c) (I.ok.hd hc) pl.isList (fun B J fp wr Gg St s1 R _ W nf st g kp fn => ?_) fun h2 tk ⟨c, hcl, R⟩ kp => ?_
  · have hsz : its.toArray.size = ns.length := by rw [List.size_toArray]; exact hlen
    refine set_update_ints W _ nf ns hsz hb (fun i v hv => ?_) (its.toArray.size - 0) 0 s1 rfl (Nat.zero_le _) st ⟨0, Nat.le_refl _, setR_new_at g⟩ fun s2 c mv hc' R' => fn s2 mv ⟨c, by rw [hsz] at hc'; exact hc', R'⟩
    have hv' : its[i]? = some v := by simpa using hv
    have hi : i < ns.length := by rw [← hlen]; exact (List.getElem?_eq_some_iff.mp hv').1
    obtain ⟨t, e⟩ := PyProof.Rows.IntsAre.int_at hit i v hv'
    exact ⟨ns[i], t, List.getElem?_eq_getElem hi, by rw [e, List.getD_eq_getElem?_getD, List.getElem?_eq_getElem hi]; rfl⟩
  · exact ⟨.ref s.heap.objs.size, _, I.laid (t' := tk) kp (Nat.le_refl _) (setO_new R), rfl, q _ c hn fun D hD => SetR.few R fun k hk => hD k (of_decide_eq_true hk)⟩
theorem now_ints {w : World} {K : PySem.W.Frag} {H : Hp} {v : V} : ∀ {ns : List Int}, Now w K H (.list (ns.map PyData.int)) v → ∃ a, v = .ref a ∧ SqL K H a (ns.map V.int) := by
  intro ns h
  obtain ⟨a, vs, rfl, hr, ha⟩ := now_list h
  have e : ∀ {ns : List Int} {vs : List V}, RelAll w K H (ns.map PyData.int) vs → vs = ns.map V.int := by
    intro ns
    induction ns with
    | nil => intro vs h; cases h; rfl
    | cons n ns ih =>
      intro vs h
      cases h with
      | cons h1 h2 =>
        cases h1
        rw [ih h2]; rfl
  rw [e ha] at hr
  exact ⟨a, rfl, .inl hr⟩
/-- sorted(set(e)) -/
def dSortSet (t : DE) : DA := fun τ G Q => t τ G fun x G1 => ∃ ns D : List Int, see G1 x = some (.list (ns.map PyData.int)) ∧ ns.length ≤ 4000 ∧ D.length < 64 ∧ (∀ k ∈ ns, k ∈ D) ∧ ∀ out : List Int, out.Pairwise (· < ·) → (∀ k, k ∈ out ↔ k ∈ ns) → Q ((out.map PyData.int).map Va.dat) G1
theorem ql_sortset {e : Expr} {t : DE} {p q pos pos2 : Pos} (hc : X.calm = true) (hm : X.mg "sorted" = none) (hv : bootBuiltins "sorted" = some (.builtin "sorted")) (hm2 : X.mg "set" = none) (hv2 : bootBuiltins "set" = some (.type "set")) (ha : PE X e (upE X.w X.K t)) (hg : Gl X "sorted" := by rfl) (hg2 : Gl X "set" := by rfl)
    (he : starEach [e] X.env = (false, eval e X.env) :: starEach [] X.env := by rfl) (hpl : (backTo pos2 (starEach [] X.env)).any (·.1) = false := by rfl)
    (he2 : starEach [.Call (.Name "set" q) [e] [] pos2] X.env = (false, eval (.Call (.Name "set" q) [e] [] pos2) X.env) :: starEach [] X.env := by rfl) (hpl2 : (backTo pos (starEach [] X.env)).any (·.1) = false := by rfl) :
    PE X (.Call (.Name "sorted" p) [.Call (.Name "set" q) [e] [] pos2] [] pos) (upL X.w X.K (dSortSet t)) :=
  (pe_callB (cr_sortedSet hc) hg hm hv (pa_cons (pe_callTy (cr_setI hc) hg2 hm2 hv2 (pa_cons ha pa_nil he) (by decide) (by decide) he hpl) pa_nil he2) (by decide) (by decide) he2 hpl2).imp fun σ H Q h => by
    obtain ⟨τ, G, Q0, ab, q, hQ⟩ := h
    refine ⟨τ, G, _, ab, q, fun x G1 v H1 q1 r1 a1 s1 => ?_⟩
    obtain ⟨ns, D, sd, h1, hD, hk, q2⟩ := q1
    obtain ⟨l, rfl, hl⟩ := now_ints (see_now a1 r1 sd)
    have hsc : ns.length + 1 < scanBound := by unfold scanBound; omega
    refine ⟨l, ns, rfl, hl, hsc, fun a c ha hcD => ?_⟩
    refine ⟨a, _, c, rfl, upd_same, Nat.lt_of_le_of_lt (hcD D hk) hD, fun out p hp hmem hlen hnp => ?_⟩
    have s2 : Step H1 G1 (upd H1 a (SetO X.w a (fun k => decide (k ∈ ns)) c)) G1 := Step.new ha
    have hap : a ≠ p := fun e => by rw [← e, upd_same] at hnp; cases hnp
    have hp1 : H1 p = none := by rw [upd_ne (Ne.symm hap)] at hnp; exact hnp
    have s3 : Step (upd H1 a (SetO X.w a (fun k => decide (k ∈ ns)) c)) G1 (upd (upd H1 a (SetO X.w a (fun k => decide (k ∈ ns)) c)) p (.lst (out.map V.int))) G1 := Step.new hnp
    have s13 := (s1.trans s2).trans s3
    have a3 : AbsG X.w X.K (upd (upd H1 a (SetO X.w a (fun k => decide (k ∈ ns)) c)) p (.lst (out.map V.int))) G1 := (a1.new ha).new hnp
    have rel : ∀ l : List Int, RelAs X.w X.K (upd (upd H1 a (SetO X.w a (fun k => decide (k ∈ ns)) c)) p (.lst (out.map V.int))) ((l.map PyData.int).map Va.dat) (l.map V.int) := fun l => by
      induction l with
      | nil => exact .nil
      | cons i l ih => exact .cons (Rel.int i) ih
    refine hQ _ G1 (out.map V.int) p _ (q2 out hp fun k => (hmem k).trans (by simp)) (rel out) upd_same ?_ (a1.off hp1) a3 (fun b o ne hb gb => s13.keep b o hb gb) s13.ext fun gp => ?_
    · rw [List.length_map, hlen]
      have := hcD D hk
      rw [sizeLine_eq]; omega
    · cases e : H p with
      | none => rfl
      | some o => have := (s1.keep p o e gp).1; rw [hp1] at this; cases this
end
end DL

/-! DMl: a new list of flat things, made while an object is only read. -/
namespace DL
open PySem PySem.Spec PyProof.Rows L2

def dLkL (i : Nat) (t : DA) : DA := fun τ G Q => ∃ a d, τ[i]? = some (some (.ref a)) ∧ see G (.ref a) = some d ∧ t (frzT a d τ) (fun _ => none) fun xs _ => ∃ es : List PyData, xs = es.map Va.dat ∧ es.all flatD = true ∧ Q xs G
theorem flat_rels {w : World} {K : PySem.W.Frag} {H H' : Hp} : ∀ {es : List PyData} {vs : List V}, es.all flatD = true → RelAs w K H (es.map Va.dat) vs → RelAs w K H' (es.map Va.dat) vs
  | [], _, _, h => by cases h; exact .nil
  | e :: es, _, hf, h => by
    rw [List.all_cons, Bool.and_eq_true] at hf
    cases h with
    | cons h1 h2 =>
      have h1' : Rel w K H e _ := h1
      exact .cons (show RelA w K H' (.dat e) _ from flat_rel hf.1 h1') (flat_rels hf.2 h2)
theorem ql_lkL {X : Cx} {e : Expr} {t : DA} (i : Nat) (h : PE X e (upL X.w X.K t)) : PE X e (upL X.w X.K (dLkL i t)) := by
  refine ⟨fun pins s σ H Q I hw => ?_⟩
  obtain ⟨τ, G, Q0, ab, ⟨a, d, hi, hs, q⟩, hQ⟩ := hw
  obtain ⟨o, u, I2, hu, hm, r⟩ := freezes I ab.obj hs
  have hn := I.nofrz hu hm
  have A2 : Abs X.w X.K σ (upd H a (.frz o u)) (frzT a d τ) (fun _ => none) := ⟨(ab.frz hu hm r).len, (ab.frz hu hm r).slot, fun b m g => nomatch g⟩
  refine thn (h.run pins s σ _ (fun v H' => ∃ (es : List PyData) (vs : List V) (p : Addr), v = .ref p ∧ RelAs X.w X.K H' (es.map Va.dat) vs ∧ H' p = some (.lst vs) ∧ vs.length ≤ sizeLine ∧ (∀ b ob, b ≠ p → upd H a (.frz o u) b = some ob → H' b = some ob) ∧ (upd H a (.frz o u)) p = none ∧ es.all flatD = true ∧ Q0 (es.map Va.dat) G) I2 ⟨_, _, _, A2, q, fun xs G' vs p H' q r hp hz gp ag kp ex np => ?_⟩) fun uu s' ⟨v, H', I', rv, es, vs, p, ev, rx, hp, hz, kp, np, hf, q1⟩ => ?_
  · obtain ⟨es, rfl, hf, q1⟩ := q
    exact ⟨es, vs, p, rfl, r, hp, hz, fun b ob nb hb => (kp b ob nb hb rfl).1, np rfl, hf, q1⟩
  · subst ev
    have hpa : p ≠ a := fun e => by rw [e, upd_same] at np; cases np
    have hfz : H' a = some (.frz o u) := kp a _ (Ne.symm hpa) upd_same
    have I3 := I'.unlock hfz hn
    have hHp : H p = none := by rw [upd_ne hpa] at np; exact np
    have sm : Same H (upd H' a u) := fun b w hb => by
      by_cases e : b = a
      · subst e
        rw [upd_same, ← hb, hu]
      · rw [upd_ne e]
        exact kp b w (fun z => by rw [z, hHp] at hb; cases hb) (by rw [upd_ne e]; exact hb)
    refine ⟨_, _, I3, rv, hQ _ G vs p _ q1 (flat_rels hf rx) (by rw [upd_ne hpa]; exact hp) hz (ab.obj.off hHp) (ab.obj.same sm) (fun b ob nb hb gb => (Same.step (G := G) sm).keep b ob hb gb) (Same.step (G := G) sm).ext fun _ => hHp⟩
end DL

/-! DMm: texts compared by < . -/
namespace DL
open PySem PySem.Spec PyProof.Rows L2

def ltSF : PyData → PyData → Option PyData
  | .str a, .str b => some (.bool (W.dataLt (.str a) (.str b)))
  | d, e => ltF d e
section
variable {X : Cx}
theorem o_ltS {k : Nat} (hr : Room k X.A) : O2 X (compareOp .Lt) ltSF := by
  intro pins s σ H d e z x y u1 u2 Q I n1 r1 n2 r2 h k
  by_cases q : ∃ a b, d = .str a ∧ e = .str b
  · obtain ⟨a, b, rfl, rfl⟩ := q
    cases h
    obtain ⟨as, a1⟩ := now_reads I n1 r1
    obtain ⟨bs, b1⟩ := now_reads I n2 r2
    exact PySem.W.lt_data a1 b1 rfl (by simp) (by have := hr.un; simp only [PyData.depth]; omega) (k (.bl _) _ H s I rfl (Rel.bl _) (Same.refl _))
  · have h' : ltF d e = some z := by
      cases d with
      | str a =>
        cases e with
        | str b => exact absurd ⟨a, b, rfl, rfl⟩ q
        | _ => exact h
      | _ => exact h
    exact o_lt hr pins s σ H d e z x y u1 u2 Q I n1 r1 n2 r2 h' k
/-- a, b, c = x, y, z -/
def dPar3 (i j l : Nat) (ta : DA) : DS := fun D τ G => ta τ G fun xs G1 => ∃ x y z, xs = [x, y, z] ∧ D.nx (((τ.set i (some x)).set j (some y)).set l (some z)) G1
theorem qs_par3 {i j l : Nat} {x y z : Str} {a b c : Expr} {ta : DA} {px py pz pt pos : Pos} {kt k2 pt2} (hc : X.calm = true) (hN : X.N.Nodup) (ha : PA X [a, b, c] (upA X.w X.K ta)) (hi : X.N[i]? = some x := by rfl) (hj : X.N[j]? = some y := by rfl) (hl : X.N[l]? = some z := by rfl)
    (hij : i ≠ j := by decide) (hil : i ≠ l := by decide) (hjl : j ≠ l := by decide) (hx : X.env.scope.names.lookup x = some .local := by rfl) (hy : X.env.scope.names.lookup y = some .local := by rfl) (hz : X.env.scope.names.lookup z = some .local := by rfl)
    (hw : swappedStores [.Tuple [.Name x px, .Name y py, .Name z pz] kt pt] (.Tuple [a, b, c] k2 pt2) X.env = pure (some [x, y, z]) := by rfl)
    (hs : swapsWithSole [.Tuple [.Name x px, .Name y py, .Name z pz] kt pt] (.Tuple [a, b, c] k2 pt2) pos.line X.env = pure false := by rfl) :
    PS X (.Assign [.Tuple [.Name x px, .Name y py, .Name z pz] kt pt] (.Tuple [a, b, c] k2 pt2) pos) (upS X.w X.K (dPar3 i j l ta)) :=
  (ps_par3 hc hN hi hj hl hij hil hjl hx hy hz ha hw hs).imp fun D σ H ⟨τ, G, D0, ab, q, U⟩ => ⟨τ, G, _, ab, q, fun xs G1 vs H1 q1 r1 a1 s1 => by
    obtain ⟨x, y, z, rfl, q2⟩ := q1
    match r1 with
    | .cons rx (.cons ry (.cons rz .nil)) => exact ⟨_, _, _, rfl, U.nx _ G1 _ H1 q2 ((((ab.step s1.ext a1).set rx i).set ry j).set rz l) s1⟩⟩
end
end DL

/-! DMn: a tuple from behind; repr of data with dicts and no lists. -/
namespace DL
open PySem PySem.Spec PyProof.Rows L2

theorem places_back (n : Nat) : Builtin.Slice.slicePlaces ((n : Int) - 1) (-1) (-1) = n := by
  unfold Builtin.Slice.slicePlaces
  have h1 : ¬ ((-1 : Int) > 0) := by omega
  rw [if_neg h1]
  by_cases h : (n : Int) - 1 > -1
  · rw [if_pos h, show -(-1 : Int) = 1 from rfl, Int.ediv_one]; omega
  · rw [if_neg h]; omega
section
variable {prog : Program} {w : World} {A : Around} {s : Shared} {E : Value → Shared → Prop}
theorem applied_back {sl : Addr} {tk : Tok} {n : Nat} {Q : Int × Int × Nat → Shared → Prop} (hs : s.heap.IsSliceOf sl .none .none (.int (-1) tk)) (h : Q ((n : Int) - 1, -1, n) s) :
    wpAny (model prog w) A (Builtin.Slice.sliceApplied (.ref sl) (pure (n : Int))) Q E s := by
  have ⟨so, g, _, fs⟩ := hs
  unfold Builtin.Slice.sliceApplied Builtin.Slice.sliceFields
  refine wpAny_bind (wpAny_bind (wpAny_field g fs (x := .none) rfl (wpAny_bind (wpAny_field g fs (x := .none) rfl (wpAny_bind (wpAny_field g fs (x := .int (-1) tk) rfl (wpAny_pure ?_)))))))
  refine wpAny_bind (slicePart_int ?_)
  show wpAny _ _ (if ((-1 : Int) == 0) = true then _ else _) _ _ s
  rw [if_neg (show ¬ ((-1 : Int) == 0) = true by decide)]
  refine wpAny_bind (slicePart_none (wpAny_bind (slicePart_none (wpAny_bind (wpAny_pure ?_)))))
  show wpAny _ _ (pure (((n : Int) - 1), (-1 : Int), Builtin.Slice.slicePlaces ((n : Int) - 1) (-1) (-1))) _ _ s
  rw [places_back]
  exact wpAny_pure h
theorem back_size {xs : Array Value} (h : xs.size ≤ sizeLine) : sizeOk (.seq xs.toList.reverse.toArray) := by
  have e : xs.toList.reverse.toArray.size = xs.size := by rw [List.size_toArray, List.length_reverse, Array.length_toList]
  exact Nat.le_trans (Nat.le_of_eq e) h
theorem fm_some {α β : Type} {f : α → Option β} {g : α → β} : ∀ {L : List α}, (∀ m ∈ L, f m = some (g m)) → L.filterMap f = L.map g
  | [], _ => rfl
  | a :: L, h => by
    rw [List.filterMap_cons, h a List.mem_cons_self, List.map_cons, fm_some fun m hm => h m (List.mem_cons_of_mem _ hm)]
theorem back_pick (xs : Array Value) : ((List.range xs.size).filterMap fun (m : Nat) => xs[((xs.size : Int) - 1 + (m : Int) * (-1)).toNat]?).toArray = xs.toList.reverse.toArray := by
  congr 1
  apply List.ext_getElem?
  intro j
  have hf : ∀ m ∈ List.range xs.size, xs[((xs.size : Int) - 1 + (m : Int) * (-1)).toNat]? = some (xs.toList.reverse.getD m .none) := fun m hm => by
    have hm : m < xs.size := List.mem_range.mp hm
    have e : ((xs.size : Int) - 1 + (m : Int) * (-1)).toNat = xs.size - 1 - m := by omega
    rw [e, List.getD_eq_getElem?_getD, List.getElem?_reverse (by rw [Array.length_toList]; exact hm), Array.length_toList, Array.getElem?_toList]
    rw [Array.getElem?_eq_getElem (show xs.size - 1 - m < xs.size by omega)]; rfl
  have e1 : ((List.range xs.size).filterMap fun (m : Nat) => xs[((xs.size : Int) - 1 + (m : Int) * (-1)).toNat]?) = (List.range xs.size).map fun m => xs.toList.reverse.getD m .none := by
    exact fm_some hf
  rw [e1, List.getElem?_map]
  by_cases h : j < xs.size
  · rw [List.getElem?_range h]
    show some (xs.toList.reverse.getD j .none) = _
    rw [List.getD_eq_getElem?_getD, List.getElem?_eq_getElem (by rw [List.length_reverse, Array.length_toList]; exact h)]; rfl
  · rw [List.getElem?_eq_none (by rw [List.length_range]; omega), List.getElem?_eq_none (by rw [List.length_reverse, Array.length_toList]; omega)]; rfl
theorem item_back {t sl : Addr} {xs : Array Value} {tk : Tok} {Q : Value → Shared → Prop} (ht : IsTup s.heap t xs) (hs : s.heap.IsSliceOf sl .none .none (.int (-1) tk)) (hz : xs.size ≤ sizeLine)
    (h : Q (.ref s.heap.objs.size) { s with heap := s.heap.push { cls := .type "tuple", data := .seq xs.toList.reverse.toArray } }) : wpAny (model prog w) A (getItem (.ref t) (.ref sl)) Q E s := by
  have ⟨so, g, gc, _⟩ := hs
  have tySl : s.TypeIs (.ref sl) "slice" := ⟨so, g, gc⟩
  unfold getItem
  try with_reducible refine wpAny_holding ?_
  first | refine wpAny_bind (wpAny_pure ?_) | skip
  refine wpAny_bind (wpAny_sequenceKey ht.typeIs (by decide) ?_)
  refine wpAny_bind (wpAny_callSpecial?_slot (name := Str.ofString "__getitem__") ht.typeIs PyProof.Rows.slot_tuple_getitem (wpAny_call_entry PyProof.Rows.slot_tuple_getitem ht.typeIs entry_tuple_getitem ?_ (args_tuple_getitem _ _)))
  show wpAny _ _ (Builtin.Tuple.tupleItemsOf (.ref t) >>= _) _ _ s
  refine wpAny_bind (tupleItemsOf_ ht (wpAny_bind (wpAny_typeOf tySl ?_)))
  rw [if_pos (by decide)]
  refine wpAny_bind (applied_back hs ?_)
  show wpAny _ _ (if (((xs.size : Int) - 1) == 0 && (-1 : Int) == 1 && xs.size == xs.size) = true then _ else _) _ _ s
  rw [if_neg (by rw [show ((-1 : Int) == 1) = false from rfl, Bool.and_false, Bool.false_and]; decide), back_pick]
  have zz := back_size hz
  first
    | exact wpAny_bind (m := Builtin.Tuple.tupleExact _) (wpAny_newObj_type (wpAny_pure ⟨_, rfl, wpAny_pure h⟩) zz)
    | exact wpAny_bind (m := Builtin.Tuple.tupleExact _) (wpAny_newObj_type (wpAny_bind (wpAny_pure (wpAny_pure ⟨_, rfl, wpAny_pure h⟩))) zz)
    | exact wpAny_bind (wpAny_bind (m := Builtin.Tuple.tupleExact _) (wpAny_newObj_type (wpAny_pure (wpAny_pure ⟨_, rfl, wpAny_pure h⟩)) zz))
    | exact wpAny_bind (wpAny_bind (m := Builtin.Tuple.tupleExact _) (wpAny_newObj_type (wpAny_pure ⟨_, rfl, wpAny_pure h⟩) zz))
end
section
variable {X : Cx} {e : Expr} {te : DE} {k : Nat} {p1 p2 p3 pos : Pos}
/-- a tuple from behind -/
def dRevT (te : DE) : DE := fun τ G Q => te τ G fun x G1 => ∃ ds : List PyData, x = .dat (.tuple ds) ∧ Q (.dat (.tuple ds.reverse)) G1
theorem vals_reverse : ∀ {vs : List V} {us : List Value}, Vals vs us → Vals vs.reverse us.reverse
  | _, _, .nil => .nil
  | _, _, .cons r t => by
    rw [List.reverse_cons, List.reverse_cons]
    exact (vals_reverse t).append (.cons r .nil)
theorem q_revT (he : PE X e (upE X.w X.K te)) : PE X (.Subscript e (.Slice none none (some (.UnaryOp .USub (.Constant (.int 1) k p1) p2)) p3) pos) (upE X.w X.K (dRevT te)) := by
  refine ⟨fun pins s σ H Q I h => ?_⟩
  obtain ⟨τ, G, Q0, ab, q, hQ⟩ := h
  refine Subscript_ (thn (he.run pins s σ H (fun v H1 => ∃ ds G1, Rel X.w X.K H1 (.tuple ds) v ∧ AbsG X.w X.K H1 G1 ∧ Step H G H1 G1 ∧ Q0 (.dat (.tuple ds.reverse)) G1) I ⟨τ, G, _, ab, q, fun x G1 v H1 q r a st => ?_⟩) fun v s1 ⟨x, H1, I1, r1, ds, G1, rx, ag, st, q1⟩ => ?_)
  · obtain ⟨ds, rfl, q⟩ := q
    exact ⟨ds, G1, r, a, st, q⟩
  have hst : PO X (some (.UnaryOp .USub (.Constant (.int 1) k p1) p2)) (tPart (tUn (rU fun i => .int (-i)) (tC (.int 1)))) := po_some (pe_un un_neg pe_int)
  refine wpAny_Slice (thn (po_none.run pins s1 σ H1 (fun o H2 => o = none ∧ H2 = H1) I1 ⟨rfl, rfl⟩) fun vl s2 ⟨l, H2, I2, pl, el, e2⟩ => ?_)
  subst el e2
  refine thn (po_none.run pins s2 σ H2 (fun o H3 => o = none ∧ H3 = H2) I2 ⟨rfl, rfl⟩) fun vu s3 ⟨u, H3, I3, pu, eu, e3⟩ => ?_
  subst eu e3
  refine thn (hst.run pins s3 σ H3 (fun o H4 => o = some (-1) ∧ H4 = H3) I3 ⟨1, rfl, -1, rfl, rfl, rfl⟩) fun vs s4 ⟨o, H4, I4, ps, eo, e4⟩ => ?_
  subst eo e4
  have I5 : Inv X pins σ H4 { s4 with heap := s4.heap.push { cls := .type "slice", data := .fields #[vl, vu, vs] } } := I4.kept (t' := s4.toks) fun b ob q => Heap.get?_push_of_some _ q
  cases pl
  cases pu
  cases ps with
  | int i t2 =>
  obtain ⟨a, xs, rfl, ha, hv⟩ := now_tupN (.rel rx)
  cases r1
  obtain ⟨its, r, ht, hz⟩ := I5.tuple ha.sq
  show wpAny (model X.prog X.w) X.A (subscriptTail e (.Slice none none (some (.UnaryOp .USub (.Constant (.int 1) k p1) p2)) p3) (.ref a) (.ref s4.heap.objs.size)) (EP X pins σ Q) X.xe { s4 with heap := s4.heap.push { cls := .type "slice", data := .fields #[.none, .none, .int (-1) t2] } }
  have hlen : its.toArray.size = xs.length := by rw [List.size_toArray]; exact r.length.symm
  refine tail_any (ops := [.ref a, .ref s4.heap.objs.size]) ht.typeIs PyProof.Rows.slot_tuple_getitem.lookup ?_ (by with_unfolding_all rfl)
  refine item_back ht ⟨_, Heap.get?_push_size _ rfl, rfl, rfl⟩ (by rw [hlen]; exact hz) ?_
  obtain ⟨I6, hn, hN⟩ := laidT (tk := s4.toks) I5 (vs := xs.reverse) (us := its.reverse) (vals_reverse r) (by rw [List.length_reverse]; exact hz)
  refine ⟨.ref _, _, I6, rfl, hQ _ G1 _ _ q1 (Rel.tup hN (RelAll.ext (Step.new (G := fun _ => none) hn).ext (relAll_reverse hv))) ?_ (st.trans (Step.new hn))⟩
  exact ag.new hn
end
/-! repr of data with dicts, where no list stands -/
mutual
def noL : PyData → Bool
  | .list _ => false
  | .tuple xs => noLs xs
  | .dict kvs => noLk kvs
  | _ => true
def noLs : List PyData → Bool
  | [] => true
  | x :: xs => noL x && noLs xs
def noLk : List (PyData × PyData) → Bool
  | [] => true
  | (k, v) :: xs => (noL k && noL v) && noLk xs
end
section
variable {X : Cx} {pins : List (Addr × Obj)} {σ : L2.St} {H : Hp} {s : Shared}
theorem notin_app {α : Type} {x : α} {as bs : List α} (h1 : x ∉ as) (h2 : x ∉ bs) : x ∉ as ++ bs := fun h => (List.mem_append.mp h).elim h1 h2
mutual
theorem readsN (I : Inv X pins σ H s) : ∀ {d : PyData} {v : V} {u : Value}, Rel X.w X.K H d v → RelV v u → ∃ as, Reads s.heap u d as ∧ (noL d = true → sysModules ∉ as)
  | _, _, _, .non, r => by cases r; exact ⟨_, .none, fun _ => List.not_mem_nil⟩
  | _, _, _, .bl b, r => by cases r; exact ⟨_, .bool b, fun _ => List.not_mem_nil⟩
  | _, _, _, .int i, r => by obtain ⟨t, rfl⟩ := r; exact ⟨_, .int i t, fun _ => List.not_mem_nil⟩
  | _, _, _, .str x, r => by obtain ⟨t, rfl⟩ := r; exact ⟨_, .str x t, fun _ => List.not_mem_nil⟩
  | _, _, _, .tup hs ha, r => by
    cases r
    obtain ⟨its, rv, ⟨o, ho, hc, n, hd⟩, _⟩ := I.tuple hs.sq
    obtain ⟨as, hr, hn⟩ := readsNs I ha rv
    exact ⟨_, .tuple ho hc hd hr, fun q => hn (by simpa [noL] using q)⟩
  | _, _, _, .lst hs ha, r => by
    cases r
    obtain ⟨z, its, n, rv, ho⟩ := (I.hok _ _ hs).2
    obtain ⟨as, hr, hn⟩ := readsNs I ha rv
    exact ⟨_, .list ho rfl rfl hr, fun q => by simp [noL] at q⟩
  | _, _, _, .dct hs ho hsy _ _ ha, r => by
    cases r
    obtain ⟨ar, ep, hx, hd, he⟩ := ho
    obtain ⟨as, bs, h1, h2, hn⟩ := readsNk I ha
    rw [← he] at h1 h2
    refine ⟨_, .dict (I.hok _ _ hs).1 hx.1 hd h1 h2, fun q => ?_⟩
    obtain ⟨n1, n2⟩ := hn (by simpa [noL] using q)
    exact notin_app (fun z => (List.mem_cons.mp z).elim (fun e => hsy e.symm) n1) n2
theorem readsNs (I : Inv X pins σ H s) : ∀ {ds : List PyData} {vs : List V} {us : List Value}, RelAll X.w X.K H ds vs → Vals vs us → ∃ as, ReadsAll s.heap us ds as ∧ (noLs ds = true → sysModules ∉ as)
  | _, _, _, .nil, .nil => ⟨_, .nil, fun _ => List.not_mem_nil⟩
  | _, _, _, .cons h1 h2, .cons r1 r2 => by
    obtain ⟨as, q1, n1⟩ := readsN I h1 r1
    obtain ⟨bs, q2, n2⟩ := readsNs I h2 r2
    refine ⟨_, .cons q1 q2, fun q => ?_⟩
    rw [noLs, Bool.and_eq_true] at q
    exact notin_app (n1 q.1) (n2 q.2)
theorem readsNk (I : Inv X pins σ H s) : ∀ {kvs : List (PyData × PyData)} {es : List DictEntry}, RelKV X.w X.K H kvs es → ∃ as bs, ReadsAll s.heap (es.map (·.key)) (kvs.map (·.1)) as ∧ ReadsAll s.heap (es.map (·.val)) (kvs.map (·.2)) bs ∧ (noLk kvs = true → sysModules ∉ as ∧ sysModules ∉ bs)
  | _, _, .nil => ⟨_, _, .nil, .nil, fun _ => ⟨List.not_mem_nil, List.not_mem_nil⟩⟩
  | _, _, .cons h1 r1 _ _ h2 r2 t => by
    obtain ⟨as, q1, n1⟩ := readsN I h1 r1
    obtain ⟨bs, q2, n2⟩ := readsN I h2 r2
    obtain ⟨as', bs', q3, q4, n3⟩ := readsNk I t
    refine ⟨_, _, .cons q1 q3, .cons q2 q4, fun q => ?_⟩
    rw [noLk, Bool.and_eq_true, Bool.and_eq_true] at q
    obtain ⟨m1, m2⟩ := n3 q.2
    exact ⟨notin_app (n1 q.1.1) m1, notin_app (n2 q.1.2) m2⟩
end
theorem now_readsN (I : Inv X pins σ H s) {d : PyData} {v : V} {u : Value} (h : Now X.w X.K H d v) (r : RelV v u) : ∃ as, Reads s.heap u d as ∧ (noL d = true → sysModules ∉ as) := by
  cases h with
  | rel h => exact readsN I h r
  | lst hs ha =>
    cases r
    obtain ⟨z, its, n, rv, ho⟩ := hs.ok I.hok
    obtain ⟨as, hr, hn⟩ := readsNs I ha rv
    exact ⟨_, .list ho rfl rfl hr, fun q => by simp [noL] at q⟩
  | dct hs ho hsy _ _ ha =>
    cases r
    obtain ⟨ar, ep, hx, hd, he⟩ := ho
    obtain ⟨as, bs, h1, h2, hn⟩ := readsNk I ha
    rw [← he] at h1 h2
    refine ⟨_, .dict (I.hok _ _ hs).1 hx.1 hd h1 h2, fun q => ?_⟩
    obtain ⟨n1, n2⟩ := hn (by simpa [noL] using q)
    exact notin_app (fun z => (List.mem_cons.mp z).elim (fun e => hsy e.symm) n1) n2
def reprDF (d z : PyData) : Prop := d.showable = true ∧ (d.hasDict = false ∨ noL d = true) ∧ d.depth ≤ 60 ∧ d.shown.length ≤ sizeLine ∧ z = .str d.shown
theorem c_reprD {k : Nat} (hr : Room k X.A) (hg : X.A.guards = some []) : C1 X (.builtin "repr") reprDF := by
  intro pins s σ H d z x u Q I n r o k
  obtain ⟨h1, h2, h3, h4, rfl⟩ := o
  obtain ⟨as, rd, hn⟩ := now_readsN I n r
  have un := hr.un
  have hsm : d.hasDict = true → sysModules ∉ as := fun e => by
    rcases h2 with q | q
    · rw [q] at e; cases e
    · exact hn q
  cases rd with
  | none => exact PySem.P.repr_of_none (k (.str _) _ H _ (I.tok _) ⟨_, rfl⟩ (by simp only [PyData.shown]; exact Rel.str _) (Same.refl _))
  | bool b => exact PySem.P.repr_of_bool (k (.str _) _ H _ (I.tok _) ⟨_, rfl⟩ (by simp only [PyData.shown]; exact Rel.str _) (Same.refl _))
  | int i t => exact PySem.P.repr_of_int (by simpa [PyData.showable] using h1) (k (.str _) _ H _ (I.tok _) ⟨_, rfl⟩ (by simp only [PyData.shown]; exact Rel.str _) (Same.refl _))
  | str y t => exact PySem.P.repr_of_str (k (.str _) _ H _ (I.tok _) ⟨_, rfl⟩ (by simp only [PyData.shown]; exact Rel.str _) (Same.refl _)) (by simpa only [PyData.shown] using h4)
  | list a1 a2 a3 a4 => exact repr_of_reads' (.list a1 a2 a3 a4) h1 hsm hg (by omega) (fun _ _ e => e) (fun h' u' tk kp => k (.str _) _ H _ (I.kept kp) ⟨_, rfl⟩ (Rel.str _) (Same.refl _)) h4
  | tuple a1 a2 a3 a4 => exact repr_of_reads' (.tuple a1 a2 a3 a4) h1 hsm hg (by omega) (fun _ _ e => e) (fun h' u' tk kp => k (.str _) _ H _ (I.kept kp) ⟨_, rfl⟩ (Rel.str _) (Same.refl _)) h4
  | dict a1 a2 a3 a4 a5 => exact repr_of_reads' (.dict a1 a2 a3 a4 a5) h1 hsm hg (by omega) (fun _ _ e => e) (fun h' u' tk kp => k (.str _) _ H _ (I.kept kp) ⟨_, rfl⟩ (Rel.str _) (Same.refl _)) h4
end
end DL

/-! DMo: tuple.count. -/
namespace DL
open PySem PySem.Spec PyProof.Rows L2

section
variable {X : Cx} {o e : Expr} {to te : DE} {apos cpos pos p2 : Pos}
/-- t.count(x) -/
def mTCount : DMt := fun x ys G Q => ∃ xs d, x = .dat (.tuple xs) ∧ ys = [.dat d] ∧ fineAll xs = true ∧ fine d = true ∧ Q (.dat (.int ((xs.countP fun y => PyData.eqv y d : Nat) : Int))) G
theorem m_tcount {k : Nat} (hr : Room k X.A) : MtR X "tuple.count" (rMt X.w X.K mTCount) := by
  intro pins s σ H v vs u us Q I rv rus h
  have un := hr.un
  obtain ⟨x, ys, G, Q0, rx, ra, ag, ⟨xs, d, rfl, rfl, hf, hd, q⟩, hQ⟩ := h
  have rx' : Rel X.w X.K H (.tuple xs) v := rx
  cases ra with
  | cons ry rr =>
    cases rr
    have ry' : Rel X.w X.K H d _ := ry
    cases rx' with
    | tup ht hal =>
      cases rv
      obtain ⟨u', rfl, ru⟩ := rus.one
      obtain ⟨its, ri, p, _⟩ := I.tuple ht.sq
      have p' : s.heap.IsTuple _ its.toArray := p
      obtain ⟨as, rs⟩ := readsAll I hal ri
      obtain ⟨bs, rd⟩ := reads I ry' ru
      unfold fineAll at hf
      unfold fine at hd
      rw [Bool.and_eq_true] at hf hd
      have h2 := of_decide_eq_true hf.2
      have h3 := of_decide_eq_true hd.2
      exact PySem.SeqAt.count_tuple_data (vs := its.toArray) p' rs rd hf.1 hd.1 (by have := Nat.min_le_left (PyData.depthAll xs) d.depth; omega) ⟨.int _, H, I.tok _, ⟨_, rfl⟩, hQ _ G _ H q (Rel.int _) ag .refl⟩
theorem q_tcount {k : Nat} (hr : Room k X.A) (ho : PE X o (upE X.w X.K to)) (he : PE X e (upE X.w X.K te)) (hbase : attributeBase o "count" X.env (eval o X.env) = eval o X.env := by rfl) (hline : (apos.endLine == cpos.line) = true := by rfl) (hs : starEach [e] X.env = (false, eval e X.env) :: starEach [] X.env := by rfl)
    (hfew : ((backTo cpos (starEach [e] X.env)).all (fun x => !x.1) && (backToKw cpos (keywordEach [] X.env)).all (fun x => x.1.isSome) && decide ([e].length + ([] : List Keyword).length + (if ([] : List Keyword).isEmpty then 0 else 1) < 30)) = true := by rfl) :
    PE X (.Call (.Attribute o "count" apos) [e] [] cpos) (upE X.w X.K (dMt tyT mTCount to (dCons te dNil))) := q_mt PySem.F.plainAttrs_tuple PySem.F.slot_tuple_count PySem.F.type_tuple_count ty_tup (m_tcount hr) ho (qa_cons he qa_nil hs) hbase hfew hline hs
end
/-! ### the sum of a tuple -/
theorem foldInts : ∀ (ns : List Int) (a : Int), PySem.W.Num.foldFrom PySem.W.Num.add (.int a) (ns.map PySem.W.WData.int) = some (.int (a + ns.sum))
  | [], a => by
    rw [PySem.W.Num.foldFrom.eq_def, List.sum_nil, Int.add_zero]; rfl
  | n :: ns, a => by
    rw [PySem.W.Num.foldFrom.eq_def, List.map_cons, List.sum_cons, ← Int.add_assoc]
    show (PySem.W.Num.add (.int a) (.int n)).bind (fun x => PySem.W.Num.foldFrom PySem.W.Num.add x (ns.map PySem.W.WData.int)) = _
    rw [PySem.W.Num.add.eq_1, Option.bind_some, foldInts ns (a + n)]
theorem sumInts_ints : ∀ (ns : List Int) (a : Int), PySem.W.Num.sumInts a (ns.map PySem.W.WData.int) = some (.int (a + ns.sum))
  | [], a => by
    rw [PySem.W.Num.sumInts.eq_def, List.sum_nil, Int.add_zero]; rfl
  | n :: ns, a => by
    rw [PySem.W.Num.sumInts.eq_def, List.map_cons, List.sum_cons, ← Int.add_assoc]
    show (if (PySem.W.Num.fitsLong n && PySem.W.Num.fitsLong (a + n)) = true then PySem.W.Num.sumInts (a + n) (ns.map PySem.W.WData.int) else PySem.W.Num.foldFrom PySem.W.Num.add (.int (a + n)) (ns.map PySem.W.WData.int)) = _
    rw [sumInts_ints ns (a + n), foldInts ns (a + n), ite_self]
theorem intsAre_get : ∀ {us : List Value} {ns : List Int} {i : Nat} {v : Value}, IntsAre us ns → us[i]? = some v → ∃ n t, ns[i]? = some n ∧ v = .int n t
  | _, _, _, _, .nil, e => by simp at e
  | _, _, 0, _, .cons n t _, e => by
    cases (Option.some.inj (by simpa using e) : _ = _)
    exact ⟨n, t, rfl, rfl⟩
  | _, _, i + 1, v, .cons _ _ r, e => by
    obtain ⟨m, t, h1, h2⟩ := intsAre_get (i := i) (v := v) r (by simpa using e)
    exact ⟨m, t, by simpa using h1, h2⟩
theorem intsAre_len : ∀ {us : List Value} {ns : List Int}, IntsAre us ns → us.length = ns.length
  | _, _, .nil => rfl
  | _, _, .cons _ _ r => by rw [List.length_cons, List.length_cons, intsAre_len r]
theorem sum_rawT {P : Program} {w : World} {A : Around} {E : Value → Shared → Prop} {s : Shared} {l : Addr} {its : List Value} {ns : List Int} {Q : Value → Shared → Prop} (cold : A.handled = none) (p : s.heap.IsTuple l its.toArray) (hi : IntsAre its ns)
    (h : ∀ (h' : Heap) (tk : Nat) (t' : Tok), (∀ b o, s.heap.get? b = some o → h'.get? b = some o) → Q (.int ns.sum t') { s with heap := h', toks := tk }) : wpAny (model P w) A (call (.builtin "sum") [.ref l]) Q E s := by
  have lS : l < s.heap.objs.size := by
    obtain ⟨o, e, _⟩ := p
    exact Heap.lt_size e
  have c1 : A.in1.handled = none := by simp [cold]
  have hw := (Walks.tuple (prog := P) (w := w) c1 s.heap.objs.size l (Nat.ne_of_lt lS) its.toArray).toS
  have hl : its.toArray.size = (ns.map PySem.W.WData.int).length := by rw [List.size_toArray, List.length_map, intsAre_len hi]
  rw [hl] at hw
  refine PySem.Flt.call_sum_walkF (xs := ns.map PySem.W.WData.int) (r := .int ns.sum) (by rw [sumInts_ints, Int.zero_add]) (wpAny_pyIter_tuple p ⟨_, _, _, _, _, _, rfl, hw, ⟨⟨_, Heap.get?_push_size _ rfl, rfl, rfl⟩, p.push _⟩, fun b hb => ?_, fun i v e => ?_, fun s' v hv mv => ?_⟩)
  · rw [Heap.size_push]
    simp only [List.mem_cons, List.not_mem_nil, or_false] at hb
    rcases hb with rfl | rfl
    · exact Nat.lt_succ_self _
    · exact Nat.lt_succ_of_lt lS
  · have e : its[i]? = some v := by simpa using e
    obtain ⟨n, t, e1, rfl⟩ := intsAre_get hi e
    exact ⟨.int n, by rw [List.getElem?_map, e1]; rfl, .int n t⟩
  · obtain ⟨h2, g2, d2, k2, p2⟩ := s'
    have e1 : g2 = s.gens := mv.gens
    have e2 : d2 = s.drawn := mv.drawn
    have e3 : p2 = s.os := mv.os
    subst e1 e2 e3
    cases hv with
    | int _ t =>
      refine h h2 k2 t fun b o e => mv.heap b o ?_ (Heap.get?_push_of_some _ e)
      simp only [List.mem_cons, List.not_mem_nil, or_false]
      exact Nat.ne_of_lt (Heap.lt_size e)
def sumTF : PyData → PyData → Prop
  | .tuple xs, z => ∃ ns : List Int, xs = ns.map PyData.int ∧ z = .int ns.sum
  | _, _ => False
theorem c_sumT {X : Cx} (hc : X.calm = true) : C1 X (.builtin "sum") sumTF := by
  intro pins s σ H d z x u Q I n r o kk
  cases d with
  | tuple ds =>
    obtain ⟨ns, rfl, rfl⟩ := o
    obtain ⟨a, vs, rfl, hl, hv⟩ := now_tup n
    cases r
    obtain ⟨its, ri, p, _⟩ := I.tuple hl
    exact sum_rawT (I.ok.hd hc) p (intsAre_of_rel hv ri) fun h' tk t' kp => kk (.int ns.sum) _ H _ (I.kept kp) ⟨_, rfl⟩ (Rel.int _) (Same.refl _)
  | _ => exact o.elim
end DL

/-! DMp: dict.setdefault, dict.get with a default. -/
namespace DL
open PySem PySem.Spec PyProof.Rows L2

section
variable {X : Cx} {o e e2 : Expr} {to te te2 : DE} {apos cpos pos p2 : Pos}
/-- d.setdefault(k, y) -/
def mSetd : DMt := fun x ys G Q => ∃ a kvs k y, x = .ref a ∧ G a = some (.dct kvs) ∧ ys = [.dat k, y] ∧ homB kvs k = true ∧ kvs.length < sizeLine ∧ (∀ z, dlook kvs k = some z → Q z G) ∧ (dlook kvs k = none → Q y (gup G a (.dct (dstore kvs k y))))
theorem m_setd {k : Nat} (hr : Room k X.A) : MtR X "dict.setdefault" (rMt X.w X.K mSetd) := by
  intro pins s σ H v vs u us Q I rv rus h
  have un := hr.un
  obtain ⟨x, ys, G, Q0, rx, ra, ag, ⟨a, kvs, ky, y, rfl, g, rfl, hh, hz, q1, q2⟩, hQ⟩ := h
  have ev : v = .ref a := rx
  subst ev
  cases rv
  cases ra with
  | cons ry rr =>
    cases rr with
    | @cons _ yv _ _ rd rr2 =>
      cases rr2
      cases rus with
      | cons ru rus2 =>
        cases rus2 with
        | @cons _ uv _ _ ruv rus3 =>
          cases rus3
          obtain ⟨o, es, D, ha⟩ := DTh.told I ag g
          have hl := Paired.len D.ents
          have hs : (a == sysModules) = false := beq_eq_false_iff_ne.mpr D.nosys
          rcases homB_of hh with ⟨h1, h2⟩ | ⟨h1, h2⟩
          · obtain ⟨xs, hd, hp, hxl⟩ := D.tups I h2
            obtain ⟨n, b, hn, rfl, rfl, his⟩ := key_tup I h1 ry ru
            refine call_meetsIn F.slot_dict_setdefault hd.typeIs F.entry_dict_setdefault (F.args_dict_setdefault_3 _ _ _) (meetsH_dict_setdefault (nestedKind X.prog X.w) a b hs uv) ⟨(by show X.A.units + 1 + 8 < cLine; omega), n, xs, his, hd, by omega, fun p e1 => ?_, fun e1 h' hd' sb => ?_⟩
            · rcases tp_look hp hn with ⟨c1, c2⟩ | ⟨p', y', dv, c1, c2, r1, r2⟩
              · rw [c1] at e1; cases e1
              · rw [c1] at e1; cases e1
                exact ⟨dv, H, I.tok _, r2, hQ y' G dv H (q1 y' c2) r1 ag .refl⟩
            · rcases tp_look hp hn with ⟨c1, c2⟩ | ⟨p', y', dv, c1, c2, r1, r2⟩
              · obtain ⟨o', es', e1, e2, e3, e4, e5⟩ := after_tups hd' (tp_store hp hn ry rd ruv)
                have := stored_len (xs := xs) (k := n) (a := b) (v := uv)
                obtain ⟨I', A', st⟩ := put_dict (tk := s.toks + (nestedKind X.prog X.w).draws n) I ag g ha D.nosys sb e1 e2 e3 (by omega) e5
                exact ⟨yv, _, I', ruv, hQ y _ yv _ (q2 c2) (rd.ext st.ext) A' st⟩
              · rw [c1] at e1; cases e1
          · obtain ⟨xs, hd, hp, hxl⟩ := D.flat h2
            obtain ⟨f, rfl, hn, hk⟩ := key_flat h1 ry ru
            refine call_meetsIn F.slot_dict_setdefault hd.typeIs F.entry_dict_setdefault (F.args_dict_setdefault_3 _ _ _) (kt_meets_setdefault (mixKind X.prog X.w) a (k := f) hk hs uv) ⟨xs, hd, by omega, fun w e1 => ?_, fun e1 h' hd' sb => ?_⟩
            · rcases fp_look hp f with ⟨c1, c2⟩ | ⟨p', y', dv, c1, c2, r1, r2⟩
              · rw [c1] at e1; cases e1
              · rw [c1] at e1; cases e1
                exact ⟨dv, H, I.tok _, r2, hQ y' G dv H (q1 y' c2) r1 ag .refl⟩
            · rcases fp_look hp f with ⟨c1, c2⟩ | ⟨p', y', dv, c1, c2, r1, r2⟩
              · obtain ⟨o', es', e1, e2, e3, e4, e5⟩ := after_flat hd' (fp_store hp f rd ruv)
                have := storedF_len (xs := xs) (k := f) (v := uv)
                obtain ⟨I', A', st⟩ := put_dict (tk := s.toks + 1) I ag g ha D.nosys sb e1 e2 e3 (by omega) e5
                exact ⟨yv, _, I', ruv, hQ y _ yv _ (q2 c2) (rd.ext st.ext) A' st⟩
              · rw [c1] at e1; cases e1
theorem q_setd {k : Nat} (hr : Room k X.A) (ho : PE X o (upE X.w X.K to)) (he : PE X e (upE X.w X.K te)) (he2 : PE X e2 (upE X.w X.K te2)) (hbase : attributeBase o "setdefault" X.env (eval o X.env) = eval o X.env := by rfl) (hline : (apos.endLine == cpos.line) = true := by rfl) (hs : starEach [e, e2] X.env = (false, eval e X.env) :: starEach [e2] X.env := by rfl) (hs2 : starEach [e2] X.env = (false, eval e2 X.env) :: starEach [] X.env := by rfl)
    (hfew : ((backTo cpos (starEach [e, e2] X.env)).all (fun x => !x.1) && (backToKw cpos (keywordEach [] X.env)).all (fun x => x.1.isSome) && decide ([e, e2].length + ([] : List Keyword).length + (if ([] : List Keyword).isEmpty then 0 else 1) < 30)) = true := by rfl) (hpl : (backTo cpos (starEach [e2] X.env)).any (·.1) = false := by rfl) :
    PE X (.Call (.Attribute o "setdefault" apos) [e, e2] [] cpos) (upE X.w X.K (dMt tyD mSetd to (dCons te (dCons te2 dNil)))) := q_mt PySem.F.plainAttrs_dict PySem.F.slot_dict_setdefault PySem.F.type_dict_setdefault ty_dict (m_setd hr) ho (qa_cons he (qa_cons he2 qa_nil hs2) hs) hbase hfew hline hs hpl
/-- d.get(k, y), data -/
def mGet2 : DMt := fun x ys G Q => ∃ kvs k d, see G x = some (.dict kvs) ∧ ys = [.dat k, .dat d] ∧ homB kvs k = true ∧ Q (.dat ((dlook kvs k).getD d)) G
theorem m_get2 {k : Nat} (hr : Room k X.A) : MtR X "dict.get" (rMt X.w X.K mGet2) := by
  intro pins s σ H v vs u us Q I rv rus h
  have un := hr.un
  obtain ⟨x, ys, G, Q0, rx, ra, ag, ⟨kvs, ky, d, hs, rfl, hh, q⟩, hQ⟩ := h
  obtain ⟨a, o, es, rfl, D⟩ := DTh.data I (see_now ag rx hs)
  have hsy : (a == sysModules) = false := beq_eq_false_iff_ne.mpr D.nosys
  cases rv
  cases ra with
  | cons ry rr =>
    cases rr with
    | @cons _ yv _ _ rd rr2 =>
      cases rr2
      cases rus with
      | cons ru rus2 =>
        cases rus2 with
        | @cons _ uv _ _ ruv rus3 =>
          cases rus3
          have hh' : homB (kvs.map fun p => (p.1, Va.dat p.2)) ky = true := by rw [homB_dats]; exact hh
          have fin : ∀ z dv u' tk, dlook (kvs.map fun p => (p.1, Va.dat p.2)) ky = some z → RelA X.w X.K H z dv → RelV dv u' → EP X pins σ Q u' { s with toks := tk } := fun z dv u' tk e r1 r2 => by
            rw [dlook_dats] at e
            cases e2 : dlook kvs ky with
            | none => rw [e2] at e; cases e
            | some y =>
              rw [e2] at e q
              cases e
              exact ⟨dv, H, I.tok tk, r2, hQ _ G dv H q r1 ag .refl⟩
          have non : ∀ tk, dlook (kvs.map fun p => (p.1, Va.dat p.2)) ky = none → EP X pins σ Q uv { s with toks := tk } := fun tk e => by
            rw [dlook_dats] at e
            cases e2 : dlook kvs ky with
            | some y => rw [e2] at e; cases e
            | none =>
              rw [e2] at q
              exact ⟨yv, H, I.tok tk, ruv, hQ _ G yv H q rd ag .refl⟩
          rcases homB_of hh' with ⟨h1, h2⟩ | ⟨h1, h2⟩
          · obtain ⟨xs, hd, hp, hxl⟩ := D.tups I h2
            obtain ⟨n, b, hn, rfl, rfl, his⟩ := key_tup I h1 ry ru
            refine call_meetsIn F.slot_dict_get hd.typeIs F.entry_dict_get (F.args_dict_get_3 _ _ _) (meetsH_dict_get_default (nestedKind X.prog X.w) a b hsy uv) ⟨(by show X.A.units + 1 + 8 < cLine; omega), n, xs, his, hd, ?_⟩
            rcases tp_look hp hn with ⟨e1, e2⟩ | ⟨p, y', dv, e1, e2, r1, r2⟩
            · rw [e1]; exact non _ e2
            · rw [e1]; exact fin y' dv p.2 _ e2 r1 r2
          · obtain ⟨xs, hd, hp, hxl⟩ := D.flat h2
            obtain ⟨g, rfl, hn, hk⟩ := key_flat h1 ry ru
            refine call_meetsIn F.slot_dict_get hd.typeIs F.entry_dict_get (F.args_dict_get_3 _ _ _) (meets_dict_get_default (mixKind X.prog X.w) a (k := g) hk hsy uv) ⟨_, hd.mapOf, ?_⟩
            rcases fp_look hp g with ⟨e1, e2⟩ | ⟨p, y', dv, e1, e2, r1, r2⟩
            · rw [e1]; exact non _ e2
            · rw [e1]; exact fin y' dv p _ e2 r1 r2
theorem q_get2 {k : Nat} (hr : Room k X.A) (ho : PE X o (upE X.w X.K to)) (he : PE X e (upE X.w X.K te)) (he2 : PE X e2 (upE X.w X.K te2)) (hbase : attributeBase o "get" X.env (eval o X.env) = eval o X.env := by rfl) (hline : (apos.endLine == cpos.line) = true := by rfl) (hs : starEach [e, e2] X.env = (false, eval e X.env) :: starEach [e2] X.env := by rfl) (hs2 : starEach [e2] X.env = (false, eval e2 X.env) :: starEach [] X.env := by rfl)
    (hfew : ((backTo cpos (starEach [e, e2] X.env)).all (fun x => !x.1) && (backToKw cpos (keywordEach [] X.env)).all (fun x => x.1.isSome) && decide ([e, e2].length + ([] : List Keyword).length + (if ([] : List Keyword).isEmpty then 0 else 1) < 30)) = true := by rfl) (hpl : (backTo cpos (starEach [e2] X.env)).any (·.1) = false := by rfl) :
    PE X (.Call (.Attribute o "get" apos) [e, e2] [] cpos) (upE X.w X.K (dMt tyD mGet2 to (dCons te (dCons te2 dNil)))) := q_mt PySem.F.plainAttrs_dict PySem.F.slot_dict_get PySem.F.type_dict_get ty_dict (m_get2 hr) ho (qa_cons he (qa_cons he2 qa_nil hs2) hs) hbase hfew hline hs hpl
end
end DL

/-! DMq: min of two tuples. -/
namespace PySem.W
open PySem PySem.Spec PyProof.Rows
section
variable {prog : Program} {w : World} {A : Around} {E : Value → Shared → Prop} {s : Shared}
theorem call_min_twoH {a b : Value} {Q : Value → Shared → Prop}
    (h : wpAny (model prog w) A.in1 (pyIter (.ref s.heap.objs.size)) (fun it s₂ => ∃ I fp wr G n P St H bt, it = .ref I ∧ WalksS prog w A.in1 I fp wr G n P St ∧ St 0 s₂ ∧ (∀ b ∈ fp, b < s₂.heap.objs.size) ∧ 0 < n ∧
      (∀ b o, H.get? b = some o → b ∉ wr) ∧ (∀ b o, H.get? b = some o → s₂.heap.get? b = some o) ∧ CmpIn prog w A.in1 .Lt H P bt ∧ ∀ v s', P (argBest bt (n - 1)) v → Moved wr G s₂ s' → Q v s') E { s with heap := s.heap.push { cls := .type "tuple", data := .seq #[a, b] } }) :
    wpAny (model prog w) A (call (.builtin "min") [a, b]) Q E s := by
  have hname : (toString "min" ++ toString ".loop" : String) = "min.loop" := by decide
  refine call_function_tree F.kind_min F.plain_min F.entry_min (F.args_min2 _ _) ?_
  show wpAny _ A.in1 (Builtin.Builtins.bindParams "min" ["key", "default"] 0 ⟨[], []⟩ >>= _) _ _ s
  refine wpAny_bind (wpAny_of_eq (show Builtin.Builtins.bindParams "min" ["key", "default"] 0 ⟨[], []⟩ = pure [none, none] from rfl) ?_)
  show wpAny _ A.in1 (newTuple [a, b] >>= _) _ _ s
  refine wpAny_bind (wpAny_newObj_type ?_)
  refine wpAny_bind (wpAny_mono h (fun it s₂ h₂ => ?_) fun _ _ e => e)
  obtain ⟨I, fp, wr, G, n, P, St, H, bt, rfl, W, hst, hfp, hn, hw, hkeep, hcmp, hQ⟩ := h₂
  refine wpAny_bind (wpAny_newObj_type ?_)
  have hSf : s₂.heap.objs.size ∉ fp := fun hm => Nat.lt_irrefl _ (hfp _ hm)
  rw [hname]
  refine wpAny_pure ⟨plainId_quiet F.plain_min_loop _, codeAny_min_loop_firstH W H hw bt hcmp s₂.heap.objs.size hSf (fresh_in hkeep) _ hn (fun b o e => Heap.get?_push_of_some _ (hkeep b o e)) (W.frame 0 s₂ _ s₂.toks hst (Nat.le_refl _) fun b _ o e => Heap.get?_push_of_some _ e) (Heap.get?_push_size _ rfl) fun v s' hP hm => ?_⟩
  exact hQ v s' hP (Moved.drop_new (tk := s₂.toks) hm (Nat.le_refl _))
theorem min_two_data {a b : Value} {x y : PyData} {as : List Addr} {Q : Value → Shared → Prop} (hh : A.handled = none) (hr : ReadsAll s.heap [a, b] [x, y] as) (ha : AlikeAll [x, y]) (hu : A.units + 1 + PyData.depthAll [x, y] < cLine)
    (h : ∀ (i : Nat) v h' tk bs, [a, b][i]? = some v → Reads h' v (minD x [y]) bs → (∀ b o, s.heap.get? b = some o → h'.get? b = some o) → Q v { s with heap := h', toks := tk }) :
    wpAny (model prog w) A (call (.builtin "min") [a, b]) Q E s := by
  have ht : Heap.IsTuple (s.heap.push { cls := .type "tuple", data := .seq #[a, b] }) s.heap.objs.size #[a, b] := IsTup.new _ _
  have hk0 : ∀ b' o, s.heap.get? b' = some o → (s.heap.push { cls := .type "tuple", data := .seq #[a, b] }).get? b' = some o := fun b' o e => Heap.get?_push_of_some _ e
  have hr1 : ReadsAll (s.heap.push { cls := .type "tuple", data := .seq #[a, b] }) (#[a, b] : Array Value).toList [x, y] as := ReadsAll.keeps hk0 hr
  refine call_min_twoH (iter_tupleW (A := A.in1) (s := { s with heap := s.heap.push { cls := .type "tuple", data := .seq #[a, b] } }) hh ht fun s₂ e W st hfp hw hk => ?_)
  refine ⟨_, _, _, _, _, _, _, s.heap.push { cls := .type "tuple", data := .seq #[a, b] }, _, rfl, W, st, hfp, by show 0 < 2; decide, hw, hk, cmpIn_lt (s := { s with heap := s.heap.push { cls := .type "tuple", data := .seq #[a, b] } }) (A := A.in1) hr1 ha (by show A.units + 1 + _ < _; exact hu), fun v s' hP m => ?_⟩
  obtain ⟨h', tk, rfl, hk'⟩ := moved_old e rfl m
  obtain ⟨bs, r, _, _, _⟩ := readsAll_atA hr1 _ v hP
  have e2 := (argBest_fold dataLt PyData.none x [y] 1 (Nat.le_refl _)).2
  exact h _ v h' tk bs (by rw [Array.getElem?_toList.symm] at hP; exact hP) (reads_keeps hk' (by unfold minD; exact (by rw [← show [y].take 1 = [y] from rfl]; rw [← e2]; exact r))) fun b o e => hk' b o (hk0 b o e)
end
end PySem.W
namespace DL
open PySem PySem.Spec PyProof.Rows L2
section
variable {X : Cx}
def min2D : PyData → PyData → PyData → Prop
  | .tuple a, .tuple b, z => bestOk [.tuple a, .tuple b] ∧ z = PySem.W.minD (.tuple a) [.tuple b]
  | _, _, _ => False
theorem c_min2D {k : Nat} (hc : X.calm = true) (hr : Room k X.A) : C2 X (.builtin "min") min2D := by
  intro pins s σ H d e z x y u1 u2 Q I n1 r1 n2 r2 o kk
  have un := hr.un
  cases d <;> cases e <;> first | exact o.elim | skip
  obtain ⟨⟨ha, hd⟩, rfl⟩ := o
  cases n1 with
  | rel n1 =>
    cases n2 with
    | rel n2 =>
      have hv := RelAll.cons n1 (RelAll.cons n2 RelAll.nil)
      have ri : Vals [x, y] [u1, u2] := .cons r1 (.cons r2 .nil)
      obtain ⟨as, rs⟩ := readsAll I hv ri
      refine PySem.W.min_two_data (I.ok.hd hc) rs ha (by omega) fun i v h' tk bs e r kp => ?_
      obtain ⟨vv, q1, q2⟩ := best_rel I hv ri ha e kp r (best_mem (p := fun a y => PySem.W.dataLt y a) _ _)
      exact kk vv v H _ (I.kept kp) q1 q2 (Same.refl _)
end
end DL

/-! DMr: repr of a list of what holds dicts and no lists. -/
namespace PySem
section
variable {prog : Program} {w : World} {h₀ : Heap} {a : Addr} {A : Around} {E : Value → Shared → Prop} {s : Shared} {Q : Value → Shared → Prop}
theorem repr_list_top {o : Obj} {vs : Array Value} {n : Nat} {xs : List PyData} {as : List Addr} (h1 : h₀.get? a = some o) (h2 : o.cls = .type "list") (h3 : o.data = .seq vs n) (h4 : ReadsAll h₀ vs.toList xs as) (hs : (PyData.list xs).showable = true) (hsm : sysModules ∉ as) (hg : A.guards = some []) (hu : A.units + ((PyData.list xs).depth + 1) < cLine) (hk0 : ∀ b o, h₀.get? b = some o → s.heap.get? b = some o)
    (hQ : ∀ h' u tk, (∀ b o, s.heap.get? b = some o → h'.get? b = some o) → Q (.str (PyData.list xs).shown u) { s with heap := h', toks := tk }) (hsz : (PyData.list xs).shown.length ≤ sizeLine) : wpAny (model prog w) A (call (.builtin "repr") [.ref a]) Q E s := by
  have hz' : (listText (PyData.shownAll xs)).length ≤ sizeLine := by simpa only [PyData.shown] using hsz
  obtain ⟨bs, hb, hk⟩ := ReprAllK.of_readsAll (prog := prog) (w := w) h4 (by simpa [PyData.showable] using hs) (fun _ => hsm) (fun t ht => Nat.le_trans (listText_mem_le ht) hz')
  have hna : a ∉ bs := not_mem_of_deeper (.list h1 h2 h3 h4) (by simp only [PyData.depth]; omega) hb
  have hu' : A.units + 1 + (PyData.list xs).depth < cLine := by omega
  refine call_repr_slot (by omega) (⟨o, hk0 _ _ h1, h2⟩ : s.TypeIs (.ref a) "list") F.slot_list_repr.toG ?_
  simp only [PyData.depth] at hu'
  simp only [PyData.shown] at hQ
  obtain ⟨l⟩ := vs
  cases l with
  | nil =>
    have h4' : ReadsAll h₀ [] xs _ := h4
    cases h4'
    simp only [PyData.shownAll, listText_nil] at hQ
    exact call_list_repr_empty ⟨o, hk0 _ _ h1, h2⟩ (hk0 _ _ h1) h3 ⟨_, _, rfl, hQ s.heap _ _ fun _ _ e => e⟩
  | cons x l =>
    exact call_list_reprK h1 h2 h3 hna (by simpa using hk.length_eq) (fun i y e => hk.item i y (by simpa using e)) hg (fun b _ => Clear.nil b) (by show A.units + 1 + _ < _; exact hu') hk0 (fun h' u tk kp => ⟨_, _, rfl, hQ h' u tk kp⟩) hz'
end
end PySem
namespace DL
open PySem PySem.Spec PyProof.Rows L2
section
variable {X : Cx}
def reprLDF (d z : PyData) : Prop := ∃ xs, d = .list xs ∧ d.showable = true ∧ noLs xs = true ∧ d.depth ≤ 60 ∧ d.shown.length ≤ sizeLine ∧ z = .str d.shown
theorem c_reprLD {k : Nat} (hr : Room k X.A) (hg : X.A.guards = some []) : C1 X (.builtin "repr") reprLDF := by
  intro pins s σ H d z x u Q I n r o kk
  obtain ⟨xs, rfl, h1, h2, h3, h4, rfl⟩ := o
  have un := hr.un
  obtain ⟨a, vs, rfl, hl, hv⟩ := now_list n
  cases r
  obtain ⟨its, m, ri, ei, zi⟩ := rd_lst I hl
  obtain ⟨as, rs, hn⟩ := readsNs I hv ri
  exact repr_list_top (vs := its.toArray) ei rfl rfl rs h1 (hn h2) hg (by omega) (fun _ _ e => e) (fun h' u' tk kp => kk (.str _) _ H _ (I.kept kp) ⟨_, rfl⟩ (Rel.str _) (Same.refl _)) h4
end
end DL

/-! DMs: text.split(sep); int(text). -/
namespace DL
open PySem PySem.Spec PyProof.Rows L2
theorem upd_twice {H : Hp} {p : Addr} {x y : HO} : upd (upd H p x) p y = upd H p y := by
  funext b
  by_cases e : b = p
  · subst e; rw [upd_same, upd_same]
  · rw [upd_ne e, upd_ne e, upd_ne e]
theorem relAll_strS {w : World} {K : PySem.W.Frag} {H : Hp} : ∀ zs : List Str, RelAll w K H (zs.map PyData.str) (zs.map V.str)
  | [] => .nil
  | z :: zs => .cons (Rel.str z) (relAll_strS zs)
section
variable {X : Cx} {o e : Expr} {to te : DE} {apos cpos : Pos}
/-- s.split(sep) -/
def mSplit : DMt := fun x ys G Q => ∃ a b, x = .dat (.str a) ∧ ys = [.dat (.str b)] ∧ (b.length == 0) = false ∧ a.length + 2 ≤ sizeLine ∧ Q (.dat (.list ((Txt.split a b).map PyData.str))) G
theorem m_split : MtR X "str.split" (rMt X.w X.K mSplit) := by
  intro pins s σ H v vs u us Q I rv rus h
  obtain ⟨x, ys, G, Q0, rx, ra, ag, ⟨a, b, rfl, rfl, hb, hz, q⟩, hQ⟩ := h
  have rx' : Rel X.w X.K H (.str a) v := rx
  cases rx'
  cases ra with
  | @cons _ vy _ _ ry rr =>
    cases rr
    have ry' : Rel X.w X.K H (.str b) vy := ry
    cases ry'
    refine thn (mt_split pins s σ H _ _ u us (fun v H' => ∃ p, v = .ref p ∧ H p = none ∧ H' = upd H p (.lst ((Txt.split a b).map V.str))) I rv rus ⟨a, b, rfl, rfl, hb, hz, fun p hp => ⟨p, rfl, hp, rfl⟩⟩) fun u' s' ⟨v, H', I', rv', p, ev, hp, eH⟩ => ?_
    subst ev
    subst eH
    obtain ⟨o, I2⟩ := freeze I' upd_same
    rw [upd_twice] at I2
    exact ⟨.ref p, _, I2, rv', hQ _ G (.ref p) _ q (Rel.lst upd_same (relAll_strS _)) (ag.new hp) (Step.new hp)⟩
theorem q_split (ho : PE X o (upE X.w X.K to)) (he : PE X e (upE X.w X.K te)) (hbase : attributeBase o "split" X.env (eval o X.env) = eval o X.env := by rfl) (hline : (apos.endLine == cpos.line) = true := by rfl) (hs : starEach [e] X.env = (false, eval e X.env) :: starEach [] X.env := by rfl)
    (hfew : ((backTo cpos (starEach [e] X.env)).all (fun x => !x.1) && (backToKw cpos (keywordEach [] X.env)).all (fun x => x.1.isSome) && decide ([e].length + ([] : List Keyword).length + (if ([] : List Keyword).isEmpty then 0 else 1) < 30)) = true := by rfl) :
    PE X (.Call (.Attribute o "split" apos) [e] [] cpos) (upE X.w X.K (dMt tyS mSplit to (dCons te dNil))) := q_mt PySem.F.plainAttrs_str PySem.F.slot_str_split PySem.F.type_str_split ty_str m_split ho (qa_cons he qa_nil hs) hbase hfew hline hs
/-- int(text) -/
def intSF : PyData → PyData → Prop
  | .str a, z => ∃ n, intText? a = some n ∧ a.length ≤ 640 ∧ z = .int n
  | _, _ => False
theorem c_intS : C1 X (.type "int") intSF := by
  intro pins s σ H d z x u Q I n r o k
  cases d with
  | str a =>
    obtain ⟨m, h1, h2, rfl⟩ := o
    cases n with
    | rel n =>
      cases n
      exact useC call_int_str I (.cons r .nil) ⟨a, m, rfl, h1, h2, Rel.int _, Same.refl _⟩ k
  | _ => exact o.elim
end
end DL

/-! DMt: a whole expression while several objects are only read. -/
namespace DL
open PySem PySem.Spec PyProof.Rows L2
/-- some objects are data while the expression runs, and objects again behind it -/
def dLks (t : DE) : DE := fun τ G Q => ∃ τ' G', Frozen τ G τ' G' ∧ t τ' (fun _ => none) fun x _ => ∃ e, x = .dat e ∧ flatD e = true ∧ Q x G
theorem Frozen.lock {X : Cx} {pins : List (Addr × Obj)} {σ : L2.St} {s : Shared} {τ : Ts} {G : Gp} {τ' : Ts} {G' : Gp} (f : Frozen τ G τ' G') : ∀ {H : Hp}, Inv X pins σ H s → Abs X.w X.K σ H τ G →
    ∃ Hf, Inv X pins σ Hf s ∧ Abs X.w X.K σ Hf τ' G' ∧ ∀ (s2 : Shared) (H2 : Hp), Inv X pins σ H2 s2 → (∀ b w, Hf b = some w → H2 b = some w) → ∃ H3, Inv X pins σ H3 s2 ∧ Same H H3 := by
  induction f with
  | refl => exact fun I A => ⟨_, I, A, fun s2 H2 I2 k => ⟨H2, I2, k⟩⟩
  | step a d hs _ ih =>
    intro H I A
    obtain ⟨o, u, I2, hu, hm, r⟩ := freezes I A.obj hs
    have hn := I.nofrz hu hm
    obtain ⟨Hf, I3, A3, back⟩ := ih I2 (A.frz hu hm r)
    refine ⟨Hf, I3, A3, fun s2 H2 I4 k => ?_⟩
    obtain ⟨H3, I5, sm⟩ := back s2 H2 I4 k
    have hfz : H3 a = some (.frz o u) := sm a _ upd_same
    refine ⟨_, I5.unlock hfz hn, fun b w hb => ?_⟩
    by_cases e : b = a
    · subst e
      rw [upd_same, ← hb, hu]
    · rw [upd_ne e]
      exact sm b w (by rw [upd_ne e]; exact hb)
theorem q_lks {X : Cx} {e : Expr} {t : DE} (h : PE X e (upE X.w X.K t)) : PE X e (upE X.w X.K (dLks t)) := by
  refine ⟨fun pins s σ H Q I hw => ?_⟩
  obtain ⟨τ, G, Q0, ab, ⟨τ', G', f, q⟩, hQ⟩ := hw
  obtain ⟨Hf, I2, A2, back⟩ := f.lock I ab
  have A3 : Abs X.w X.K σ Hf τ' (fun _ => none) := ⟨A2.len, A2.slot, fun b m g => nomatch g⟩
  refine thn (h.run pins s σ _ (fun v H' => ∃ x G', RelA X.w X.K H' x v ∧ Step Hf (fun _ => none) H' G' ∧ ∃ e, x = .dat e ∧ flatD e = true ∧ Q0 x G) I2 ⟨_, _, _, A3, q, fun x G' v H' q r a st => ⟨x, G', r, st, q⟩⟩) fun uu s' ⟨v, H', I', rv, x, G', rx, st, e, ex, hf, q1⟩ => ?_
  subst ex
  obtain ⟨H3, I3, sm⟩ := back s' H' I' fun b w hb => (st.keep b w hb rfl).1
  have rx' : Rel X.w X.K H' _ v := rx
  exact ⟨v, _, I3, rv, hQ _ G v _ q1 (flat_rel hf rx') (ab.obj.same sm) (Same.step sm)⟩
end DL

/-! DMu: len(set(whole numbers)). -/
namespace DL
open PySem PySem.Spec PyProof.Rows L2
section
variable {X : Cx}
def rLenSet (w : World) : List V → Hp → VK → Prop := fun vs H Q => ∃ (a : Addr) (S : Int → Bool) (n : Nat), vs = [V.ref a] ∧ H a = some (SetO w a S n) ∧ ((∃ l : List Int, l.Nodup ∧ (∀ k, k ∈ l ↔ S k = true) ∧ l.length = n) → Q (.int (n : Nat)) H)
theorem cr_lenSet : CallR X (.builtin "len") (rLenSet X.w) := by
  intro pins s σ H vs us Q I r h
  obtain ⟨a, S, n, rfl, ha, q⟩ := h
  have R := setO_get I ha
  obtain ⟨o, es, ep, t, ho, hx, hd, hg, nd, hm, hsz, hf, hn, _⟩ := R
  rw [Vals.ref1 r]
  have hb : ((es.size : Nat) : Int) < 2 ^ 63 := by
    have : scanBound ≤ 2 ^ 62 := by unfold scanBound; decide
    have h2 : (es.size : Int) < (scanBound : Int) := by omega
    have h3 : ((scanBound : Nat) : Int) ≤ ((2 ^ 62 : Nat) : Int) := by exact_mod_cast this
    have h4 : ((2 ^ 62 : Nat) : Int) < 2 ^ 63 := by decide
    omega
  refine call_len_set ho hx hd hf hb ?_
  refine ⟨.int (n : Nat), H, I.tok _, ⟨_, by rw [hn]⟩, q ⟨_, nd, fun k => (hm k).symm, by rw [List.length_map, Array.length_toList, hn]⟩⟩
/-- len(set(e)) -/
def dLenSet (t : DE) : DE := fun τ G Q => t τ G fun x G1 => ∃ ns : List Int, see G1 x = some (.list (ns.map PyData.int)) ∧ ns.length ≤ 4000 ∧ ∀ l : List Int, l.Nodup → (∀ k, k ∈ l ↔ k ∈ ns) → Q (.dat (.int (l.length : Nat))) G1
theorem q_lenset {e : Expr} {t : DE} {p q pos pos2 : Pos} (hc : X.calm = true) (hm : X.mg "len" = none) (hv : bootBuiltins "len" = some (.builtin "len")) (hm2 : X.mg "set" = none) (hv2 : bootBuiltins "set" = some (.type "set")) (ha : PE X e (upE X.w X.K t)) (hg : Gl X "len" := by rfl) (hg2 : Gl X "set" := by rfl)
    (he : starEach [e] X.env = (false, eval e X.env) :: starEach [] X.env := by rfl) (hpl : (backTo pos2 (starEach [] X.env)).any (·.1) = false := by rfl)
    (he2 : starEach [.Call (.Name "set" q) [e] [] pos2] X.env = (false, eval (.Call (.Name "set" q) [e] [] pos2) X.env) :: starEach [] X.env := by rfl) (hpl2 : (backTo pos (starEach [] X.env)).any (·.1) = false := by rfl) :
    PE X (.Call (.Name "len" p) [.Call (.Name "set" q) [e] [] pos2] [] pos) (upE X.w X.K (dLenSet t)) :=
  (pe_callB cr_lenSet hg hm hv (pa_cons (pe_callTy (cr_setI hc) hg2 hm2 hv2 (pa_cons ha pa_nil he) (by decide) (by decide) he hpl) pa_nil he2) (by decide) (by decide) he2 hpl2).imp fun σ H Q h => by
    obtain ⟨τ, G, Q0, ab, q, hQ⟩ := h
    refine ⟨τ, G, _, ab, q, fun x G1 v H1 q1 r1 a1 s1 => ?_⟩
    obtain ⟨ns, sd, h1, q2⟩ := q1
    obtain ⟨l, rfl, hl⟩ := now_ints (see_now a1 r1 sd)
    have hsc : ns.length + 1 < scanBound := by unfold scanBound; omega
    refine ⟨l, ns, rfl, hl, hsc, fun a c ha hcD => ?_⟩
    refine ⟨a, _, c, rfl, upd_same, fun ⟨L, nd, hm, hL⟩ => ?_⟩
    rw [← hL]
    exact hQ _ G1 (.int (L.length : Nat)) _ (q2 L nd fun k => (hm k).trans (by simp)) (Rel.int _) (a1.new ha) (s1.trans (Step.new ha))
end
end DL

/-! DMv: a list of objects is walked while the body leaves it alone; what an expression gives becomes data, with what stands in it. -/
namespace DL
open PySem PySem.Spec PyProof.Rows L2

/-- an object is not told while something runs, and told again behind it -/
def reD (D : DEnds) (a : Addr) (m : MO) : DEnds := { nx := fun τ G => D.nx τ (gup G a m), rt := fun x G => D.rt x (gup G a m), bk := fun τ G => D.bk τ (gup G a m), ct := fun τ G => D.ct τ (gup G a m) }
section
variable {w : World} {K : PySem.W.Frag} {H H' : Hp} {G G' : Gp} {a : Addr} {xs : List Va} {vs : List V}
theorem sub_gdel : SubG (gdel G a) G := fun b o g => by
  unfold gdel at g
  split at g
  · cases g
  · exact g
theorem back_G (hv : H a = some (.lst vs)) (r : RelAs w K H xs vs) (st : Step H (gdel G a) H' G') (A : AbsG w K H' G') : AbsG w K H' (gup G' a (.lst xs)) := fun b m g => by
  by_cases e : b = a
  · subst e
    rw [gup_same] at g; cases g
    exact ⟨vs, (st.keep b _ hv (by unfold gdel; rw [if_pos rfl])).1, r.ext st.ext⟩
  · rw [gup_ne e] at g
    exact A b m g
theorem back_step {m m' : MO} (g : G a = some m) (st : Step H (gdel G a) H' G') : Step H G H' (gup G' a m') := by
  refine ⟨fun b o hb gb => ?_, st.ext⟩
  have ne : b ≠ a := fun e => by rw [e, g] at gb; cases gb
  obtain ⟨h1, g1⟩ := st.keep b o hb (by unfold gdel; rw [if_neg ne]; exact gb)
  exact ⟨h1, by rw [gup_ne ne]; exact g1⟩
theorem UpD.hide {D0 : DEnds} {D : Ends} (U : UpD w K H G D0 D) (g : G a = some (.lst xs)) (hv : H a = some (.lst vs)) (r : RelAs w K H xs vs) : UpD w K H (gdel G a) (reD D0 a (.lst xs)) D :=
  ⟨fun τ' G' σ' H' q ab st => U.nx τ' _ σ' H' q ⟨ab.len, ab.slot, back_G hv r st ab.obj⟩ (back_step g st), fun x' G' v H' q rx ag st => U.rt x' _ v H' q rx (back_G hv r st ag) (back_step g st),
    fun τ' G' σ' H' q ab st => U.bk τ' _ σ' H' q ⟨ab.len, ab.slot, back_G hv r st ab.obj⟩ (back_step g st), fun τ' G' σ' H' q ab st => U.ct τ' _ σ' H' q ⟨ab.len, ab.slot, back_G hv r st ab.obj⟩ (back_step g st)⟩
end
/-- for x in a list of objects that the body leaves alone -/
def dForM (t : DE) (g : DG) (tb : DS) : DS := fun D τ G => t τ G fun x G1 => ∃ a xs, x = .ref a ∧ G1 a = some (.lst xs) ∧ loopG g tb (reD D a (.lst xs)) xs τ (gdel G1 a)
def tItM (w : World) (K : PySem.W.Frag) (t : DE) : TI := fun σ H R => ∃ τ G Q0, Abs w K σ H τ G ∧ t τ G Q0 ∧ ∀ x G1 v H1, Q0 x G1 → RelA w K H1 x v → AbsG w K H1 G1 → Step H G H1 G1 → ∃ a xs, x = .ref a ∧ G1 a = some (.lst xs) ∧
  ∀ J vs, H1 a = some (.lst vs) → RelAs w K H1 xs vs → vs.length ≤ sizeLine → Walk J vs.length (fun H => SqL K H a vs) (YAt vs) → R J H1
section
variable {X : Cx} {pos : Pos} {t : DE}
theorem pi_itM {tg e : Expr} (h : PE X e (upE X.w X.K t)) : PI X tg e (tItM X.w X.K t) := by
  refine ⟨fun pins s σ H R I hw => ?_⟩
  obtain ⟨τ, G, Q0, ab, q, k⟩ := hw
  refine thn (h.run pins s σ H (fun v H1 => ∃ a xs G1, v = .ref a ∧ G1 a = some (.lst xs) ∧ AbsG X.w X.K H1 G1 ∧ ∀ J vs, H1 a = some (.lst vs) → RelAs X.w X.K H1 xs vs → vs.length ≤ sizeLine → Walk J vs.length (fun H => SqL X.K H a vs) (YAt vs) → R J H1) I ⟨τ, G, Q0, ab, q, fun x G1 v H1 q1 r1 a1 s1 => ?_⟩) fun u s' ⟨v, H1, I1, rv, a, xs, G1, ev, g1, ag, k1⟩ => ?_
  · obtain ⟨a, xs, rfl, g1, k2⟩ := k x G1 v H1 q1 r1 a1 s1
    exact ⟨a, xs, G1, r1, g1, a1, k2⟩
  · subst ev
    cases rv
    obtain ⟨vs, hv, rl⟩ := ag a _ g1
    have hs : SqL X.K H1 a vs := .inl (.inl hv)
    obtain ⟨its, rr, p, hz⟩ := I1.list hs
    exact wpAny_pyIter_list p.isList (pi_one (tk := s'.toks) I1 _ (turn_list _ _) ⟨_, Heap.get?_push_size _ rfl, rfl, rfl⟩ (k1 _ vs hv rl (by have := rr.length; omega) walk_list))
theorem forM_imp {w : World} {K : PySem.W.Frag} {g : DG} {tb : DS} {D : Ends} {σ : L2.St} {H : Hp} (h : upS w K (dForM t g tb) D σ H) : tFor (tItM w K t) (upG w K g) (upS w K tb) D σ H := by
  obtain ⟨τ, G, D0, ab, q, U⟩ := h
  refine ⟨τ, G, _, ab, q, fun x G1 v H1 q1 r1 a1 s1 => ?_⟩
  obtain ⟨a, xs, rfl, g1, q2⟩ := q1
  refine ⟨a, xs, rfl, g1, fun J vs hv rl hz wk => ?_⟩
  have hl := Paired.len rl
  have U2 := (U.step s1).hide g1 hv rl
  have ag1 : AbsG w K H1 (gdel G1 a) := a1.sub sub_gdel
  refine for_it wk (fun i σ' H' => ∃ τ' G', Abs w K σ' H' τ' G' ∧ loopG g tb (reD D0 a (.lst xs)) (xs.drop i) τ' G' ∧ Step H1 (gdel G1 a) H' G') ⟨τ, _, (ab.step s1.ext a1).step .refl ag1, by simpa using q2, .refl⟩ (fun i σ' H' _ ⟨_, _, _, _, st⟩ => .inl (.inl (st.keep a _ hv (by unfold gdel; rw [if_pos rfl])).1)) ?_ ?_
  · rintro i v σ' H' H'' hi ⟨τ', G', ab', q', st⟩ ⟨rfl, hy⟩
    obtain ⟨it, hit, rx⟩ : ∃ it, xs[i]? = some it ∧ RelA w K H1 it v := by
      have : ∀ {xs : List Va} {vs : List V} {i : Nat} {v : V}, RelAs w K H1 xs vs → vs[i]? = some v → ∃ x, xs[i]? = some x ∧ RelA w K H1 x v := by
        intro xs vs i v r
        induction r generalizing i with
        | nil => intro e; simp at e
        | cons h t ih =>
          intro e
          cases i with
          | zero => cases (Option.some.inj (by simpa using e) : _ = _); exact ⟨_, rfl, h⟩
          | succ j => obtain ⟨v, h1, h2⟩ := ih (i := j) (by simpa using e); exact ⟨v, by simpa using h1, h2⟩
      exact this rl hy
    have hi' : i < xs.length := by omega
    have hd : xs.drop i = it :: xs.drop (i + 1) := by
      rw [List.drop_eq_getElem_cons hi']
      have : xs[i]? = some xs[i] := by simp [hi']
      rw [this] at hit; cases hit; rfl
    rw [hd] at q'
    refine ⟨it, τ', G', _, rx.ext st.ext, ab', q', fun τ2 G2 σ2 H2 q2 ab2 s2 => ?_⟩
    have s02 : Step H1 (gdel G1 a) H2 G2 := st.trans s2
    refine ⟨τ2, G2, _, ab2, q2, ⟨fun τ3 G3 σ3 H3 q3 ab3 s3 => ⟨τ3, G3, ab3, q3, s02.trans s3⟩, fun x3 G3 v3 H3 q3 r3 a3 s3 => U2.rt x3 G3 v3 H3 q3 r3 a3 (s02.trans s3),
      fun τ3 G3 σ3 H3 q3 ab3 s3 => U2.nx τ3 G3 σ3 H3 q3 ab3 (s02.trans s3), fun τ3 G3 σ3 H3 q3 ab3 s3 => ⟨τ3, G3, ab3, q3, s02.trans s3⟩⟩⟩
  · rintro σ' H' ⟨τ', G', ab', q', st⟩
    rw [show vs.length = xs.length from hl.symm, List.drop_length] at q'
    exact U2.nx τ' G' σ' H' q' ab' st
theorem qs_forM {tg iter : Expr} {body : List Stmt} {g : DG} {tb : DS} (hp : PassesOwn (model X.prog X.w) X.A X.env X.xe) (hc : X.calm = true) (hi : PE X iter (upE X.w X.K t)) (hg : PG X tg (upG X.w X.K g)) (hb : PSs X body (upS X.w X.K tb))
    (hs : ∀ x, foldedSetIterable iter X.env x = pure x := by intro _; rfl) : PS X (.For tg iter body [] pos) (upS X.w X.K (dForM t g tb)) :=
  (ps_for hp hc (pi_itM hi) hg hb hs).imp fun D σ H h => forM_imp h
end

/-! ### several objects are only read for a test -/
def dLksT (t : DT) : DT := fun τ G Q => ∃ τ' G', Frozen τ G τ' G' ∧ t τ' (fun _ => none) fun b _ => Q b G
theorem qt_lks {X : Cx} {e : Expr} {t : DT} (h : PT X e (upT X.w X.K t)) : PT X e (upT X.w X.K (dLksT t)) := by
  refine ⟨fun pins s σ H Q I hw => ?_⟩
  obtain ⟨τ, G, Q0, ab, ⟨τ', G', f, q⟩, hQ⟩ := hw
  obtain ⟨Hf, I2, A2, back⟩ := f.lock I ab
  have A3 : Abs X.w X.K σ Hf τ' (fun _ => none) := ⟨A2.len, A2.slot, fun b m g => nomatch g⟩
  refine thn (h.run pins s σ _ (fun b H' => (∃ G', Step Hf (fun _ => none) H' G') ∧ Q0 b G) I2 ⟨_, _, _, A3, q, fun b G' H' q a st => ⟨⟨G', st⟩, q⟩⟩) fun b s' ⟨H', I', ⟨G', st⟩, q1⟩ => ?_
  obtain ⟨H3, I3, sm⟩ := back s' H' I' fun b w hb => (st.keep b w hb rfl).1
  exact ⟨_, I3, hQ b G _ q1 (ab.obj.same sm) (Same.step sm)⟩

/-! ### what an expression gives becomes data, with all that stands in it -/
theorem Frozen.run2 {X : Cx} {pins : List (Addr × Obj)} {σ σ2 : L2.St} {s : Shared} {τ : Ts} {G : Gp} {τ' : Ts} {G' : Gp} (f : Frozen τ G τ' G') : ∀ {H : Hp}, Inv X pins σ H s → Abs X.w X.K σ2 H τ G → ∃ H', Inv X pins σ H' s ∧ Abs X.w X.K σ2 H' τ' G' ∧ Step H G H' G' := by
  induction f with
  | refl => exact fun I A => ⟨_, I, A, .refl⟩
  | step a d hs _ ih =>
    intro H I A
    obtain ⟨o, u, I2, hu, hm, r⟩ := freezes I A.obj hs
    obtain ⟨H', I3, A3, s3⟩ := ih I2 (A.frz hu hm r)
    exact ⟨H', I3, A3, (Step.frz (see_told hs) hu hm).trans s3⟩
/-- the value's objects have become data -/
def FrozV (x : Va) (G : Gp) (d : PyData) (G' : Gp) : Prop := Frozen [some x] G [some (.dat d)] G'
def dFzs (t : DE) : DE := fun τ G Q => t τ G fun x G1 => ∃ d G2, FrozV x G1 d G2 ∧ Q (.dat d) G2
theorem q_fzs {X : Cx} {e : Expr} {t : DE} (h : PE X e (upE X.w X.K t)) : PE X e (upE X.w X.K (dFzs t)) := by
  refine ⟨fun pins s σ H Q I hw => ?_⟩
  obtain ⟨τ, G, Q0, ab, q, hQ⟩ := hw
  refine thn (h.run pins s σ H (fun v H' => ∃ x G', RelA X.w X.K H' x v ∧ AbsG X.w X.K H' G' ∧ Step H G H' G' ∧ ∃ d G2, FrozV x G' d G2 ∧ Q0 (.dat d) G2) I ⟨τ, G, _, ab, q, fun x G' v H' q r a st => ⟨x, G', r, a, st, q⟩⟩) fun u s' ⟨v, H', I', rv, x, G', rx, ag, st, d, G2, f, q1⟩ => ?_
  obtain ⟨H2, I2, A2, s2⟩ := f.run2 (σ2 := [some v]) I' ⟨rfl, fun i y e => by
    cases i with
    | zero => cases (Option.some.inj (by simpa using e) : _ = _); exact ⟨v, rfl, rx⟩
    | succ i => simp at e, ag⟩
  obtain ⟨v', h1, h2⟩ := A2.slot 0 (.dat d) rfl
  cases (Option.some.inj (by simpa using h1) : _ = _)
  exact ⟨v, H2, I2, rv, hQ (.dat d) G2 v H2 q1 h2 A2.obj (st.trans s2)⟩
end DL

/-! DMw: repr of any data: dicts and lists within one another. -/
namespace DL
open PySem PySem.Spec PyProof.Rows L2
section
variable {X : Cx} {pins : List (Addr × Obj)} {σ : L2.St} {H : Hp} {s : Shared}
abbrev RK1 (P : Program) (w : World) (h : Heap) (u : Value) (d : PyData) : Prop := ∃ bs, ReadAtMost h d.depth bs ∧ ReprK P w bs h d.depth u d.shown
abbrev RKs (P : Program) (w : World) (h : Heap) (us : List Value) (ds : List PyData) : Prop := ∃ bs, ReadAtMost h (PyData.depthAll ds) bs ∧ ReprAllK P w bs h (PyData.depthAll ds) us (PyData.shownAll ds)
theorem atMost_app {h : Heap} {n : Nat} {as bs : List Addr} (h1 : ReadAtMost h n as) (h2 : ReadAtMost h n bs) : ReadAtMost h n (as ++ bs) := fun b hb => (List.mem_append.mp hb).elim (h1 b) (h2 b)
theorem atMost_le {h : Heap} {m n : Nat} {as : List Addr} (h1 : ReadAtMost h m as) (l : m ≤ n) : ReadAtMost h n as := fun b hb => let ⟨d, bs, r, e⟩ := h1 b hb; ⟨d, bs, r, Nat.le_trans e l⟩
theorem rkL {a : Addr} {o : Obj} {vs : Array Value} {n : Nat} {xs : List PyData} (h1 : s.heap.get? a = some o) (h2 : o.cls = .type "list") (h3 : o.data = .seq vs n) (rd : ∃ as, Reads s.heap (.ref a) (.list xs) as) (k : RKs X.prog X.w s.heap vs.toList xs) : RK1 X.prog X.w s.heap (.ref a) (.list xs) := by
  obtain ⟨as, rd⟩ := rd
  obtain ⟨bs, hb, k⟩ := k
  have lt : PyData.depthAll xs < (PyData.list xs).depth := by unfold PyData.depth; omega
  have out : a ∉ bs := not_mem_of_deeper rd lt hb
  refine ⟨a :: bs, fun b hm => ?_, ?_⟩
  · rcases List.mem_cons.mp hm with rfl | hm
    · exact ⟨_, _, rd, Nat.le_refl _⟩
    · exact atMost_le hb (Nat.le_of_lt lt) b hm
  · rw [show (PyData.list xs).depth = PyData.depthAll xs + 1 by unfold PyData.depth; rfl, show (PyData.list xs).shown = listText (PyData.shownAll xs) by unfold PyData.shown; rfl]
    obtain ⟨l⟩ := vs
    match l, k with
    | [], k =>
      have e : PyData.shownAll xs = [] := List.eq_nil_of_length_eq_zero k.length_eq
      rw [e, listText_nil]
      exact ReprK.listEmpty h1 h2 h3
    | y :: l, k => exact ReprK.list h1 h2 h3 out k.length_eq fun i z ez => k.item i z (by simpa using ez)
theorem rkT {a : Addr} {o : Obj} {vs : Array Value} {n : Nat} {xs : List PyData} (h1 : s.heap.get? a = some o) (h2 : o.cls = .type "tuple") (h3 : o.data = .seq vs n) (rd : ∃ as, Reads s.heap (.ref a) (.tuple xs) as) (k : RKs X.prog X.w s.heap vs.toList xs) : RK1 X.prog X.w s.heap (.ref a) (.tuple xs) := by
  obtain ⟨as, rd⟩ := rd
  obtain ⟨bs, hb, k⟩ := k
  have lt : PyData.depthAll xs < (PyData.tuple xs).depth := by unfold PyData.depth; omega
  have out : a ∉ bs := not_mem_of_deeper rd lt hb
  refine ⟨a :: bs, fun b hm => ?_, ?_⟩
  · rcases List.mem_cons.mp hm with rfl | hm
    · exact ⟨_, _, rd, Nat.le_refl _⟩
    · exact atMost_le hb (Nat.le_of_lt lt) b hm
  · rw [show (PyData.tuple xs).depth = PyData.depthAll xs + 1 by unfold PyData.depth; rfl, show (PyData.tuple xs).shown = tupleText (PyData.shownAll xs) by unfold PyData.shown; rfl]
    exact ReprK.tuple h1 h2 h3 out k
theorem rkD {a : Addr} {o : Obj} {es : Array DictEntry} {n : Nat} {kvs : List (PyData × PyData)} (h1 : s.heap.get? a = some o) (h2 : o.cls = .type "dict") (h3 : o.data = .dict es n) (nosys : a ≠ sysModules) (rd : ∃ as, Reads s.heap (.ref a) (.dict kvs) as)
    (k1 : RKs X.prog X.w s.heap (es.toList.map (·.key)) (kvs.map (·.1))) (k2 : RKs X.prog X.w s.heap (es.toList.map (·.val)) (kvs.map (·.2))) : RK1 X.prog X.w s.heap (.ref a) (.dict kvs) := by
  obtain ⟨as, rd⟩ := rd
  obtain ⟨b1, hb1, k1⟩ := k1
  obtain ⟨b2, hb2, k2⟩ := k2
  have l1 := PyData.depthAll_keys_le kvs
  have l2 := PyData.depthAll_vals_le kvs
  have hb : ReadAtMost s.heap (PyData.depthKv kvs) (b1 ++ b2) := atMost_app (atMost_le hb1 l1) (atMost_le hb2 l2)
  have lt : PyData.depthKv kvs < (PyData.dict kvs).depth := by unfold PyData.depth; omega
  have out : a ∉ b1 ++ b2 := not_mem_of_deeper rd lt hb
  refine ⟨a :: (b1 ++ b2), fun b hm => ?_, ?_⟩
  · rcases List.mem_cons.mp hm with rfl | hm
    · exact ⟨_, _, rd, Nat.le_refl _⟩
    · exact atMost_le hb (Nat.le_of_lt lt) b hm
  · rw [show (PyData.dict kvs).depth = PyData.depthKv kvs + 1 by unfold PyData.depth; rfl, show (PyData.dict kvs).shown = dictText (PyData.shownKv kvs) by unfold PyData.shown; rfl, PyData.shownKv_eq]
    have m1 := k1.more_le (as' := b1 ++ b2) (fun b hm => List.mem_append.mpr (.inl hm)) l1
    have m2 := k2.more_le (as' := b1 ++ b2) (fun b hm => List.mem_append.mpr (.inr hm)) l2
    exact ReprK.dict h1 h2 h3 (beq_eq_false_iff_ne.mpr nosys) out (ReprEntriesK.of_two _ _ _ m1 m2)
mutual
theorem rk1 (I : Inv X pins σ H s) : ∀ {d : PyData} {v : V} {u : Value}, Rel X.w X.K H d v → RelV v u → d.showable = true → d.shown.length ≤ sizeLine → RK1 X.prog X.w s.heap u d
  | _, _, _, .non, r, _, _ => by cases r; exact ⟨[], fun b hb => (List.not_mem_nil hb).elim, by unfold PyData.shown; exact ReprK.of_is ReprIs.none _ _ _⟩
  | _, _, _, .bl b, r, _, _ => by cases r; exact ⟨[], fun b hb => (List.not_mem_nil hb).elim, by unfold PyData.shown; exact ReprK.of_is (ReprIs.bool b) _ _ _⟩
  | _, _, _, .int i, r, hs, _ => by obtain ⟨t, rfl⟩ := r; exact ⟨[], fun b hb => (List.not_mem_nil hb).elim, by unfold PyData.shown; exact ReprK.of_is (ReprIs.int t (by unfold PyData.showable at hs; exact of_decide_eq_true hs)) _ _ _⟩
  | _, _, _, .str x, r, _, hz => by obtain ⟨t, rfl⟩ := r; exact ⟨[], fun b hb => (List.not_mem_nil hb).elim, by unfold PyData.shown at hz ⊢; exact ReprK.of_is (ReprIs.str x t hz) _ _ _⟩
  | _, _, _, .tup hs ha, r, hw, hz => by
    obtain ⟨as, rd, _⟩ := readsN I (.tup hs ha) r
    cases r
    obtain ⟨its, rv, ⟨o, ho, hc, n, hd⟩, _⟩ := I.tuple hs.sq
    unfold PyData.showable at hw
    unfold PyData.shown at hz
    have k := rks I ha rv hw fun t ht => Nat.le_trans (tupleText_mem_le ht) hz
    exact rkT (vs := its.toArray) ho hc hd ⟨as, rd⟩ k
  | _, _, _, .lst hs ha, r, hw, hz => by
    obtain ⟨as, rd, _⟩ := readsN I (.lst hs ha) r
    cases r
    obtain ⟨z, its, n, rv, ho⟩ := (I.hok _ _ hs).2
    unfold PyData.showable at hw
    unfold PyData.shown at hz
    have k := rks I ha rv hw fun t ht => Nat.le_trans (listText_mem_le ht) hz
    exact rkL (vs := its.toArray) ho rfl rfl ⟨as, rd⟩ k
  | _, _, _, .dct hs ho hsy h4 h5 ha, r, hw, hz => by
    obtain ⟨as, rd, _⟩ := readsN I (.dct hs ho hsy h4 h5 ha) r
    cases r
    obtain ⟨ar, ep, hx, hd, he⟩ := ho
    unfold PyData.showable at hw
    unfold PyData.shown at hz
    obtain ⟨k1, k2⟩ := rkk I ha hw fun p hp => Nat.le_trans (dictText_mem_le hp) hz
    rw [← he] at k1 k2
    exact rkD (I.hok _ _ hs).1 hx.1 hd hsy ⟨as, rd⟩ k1 k2
theorem rks (I : Inv X pins σ H s) : ∀ {ds : List PyData} {vs : List V} {us : List Value}, RelAll X.w X.K H ds vs → Vals vs us → PyData.showableAll ds = true → (∀ t ∈ PyData.shownAll ds, t.length ≤ sizeLine) → RKs X.prog X.w s.heap us ds
  | _, _, _, .nil, .nil, _, _ => ⟨[], fun b hb => (List.not_mem_nil hb).elim, by unfold PyData.shownAll; exact .nil⟩
  | _, _, _, .cons (d := d) (ds := ds) h1 h2, .cons r1 r2, hw, hz => by
    unfold PyData.showableAll at hw
    rw [Bool.and_eq_true] at hw
    unfold PyData.shownAll at hz
    obtain ⟨as, ha, k1⟩ := rk1 I h1 r1 hw.1 (hz _ List.mem_cons_self)
    obtain ⟨bs, hb, k2⟩ := rks I h2 r2 hw.2 fun t ht => hz t (List.mem_cons_of_mem _ ht)
    have l1 : d.depth ≤ PyData.depthAll (d :: ds) := by unfold PyData.depthAll; exact Nat.le_max_left _ _
    have l2 : PyData.depthAll ds ≤ PyData.depthAll (d :: ds) := by
      conv => rhs; unfold PyData.depthAll
      exact Nat.le_max_right _ _
    refine ⟨as ++ bs, atMost_app (atMost_le ha l1) (atMost_le hb l2), ?_⟩
    unfold PyData.shownAll
    exact .cons ((k1.more fun b hm => List.mem_append.mpr (.inl hm)).level_le l1) (k2.more_le (fun b hm => List.mem_append.mpr (.inr hm)) l2)
theorem rkk (I : Inv X pins σ H s) : ∀ {kvs : List (PyData × PyData)} {es : List DictEntry}, RelKV X.w X.K H kvs es → PyData.showableKv kvs = true → (∀ t ∈ PyData.shownKv kvs, t.length ≤ sizeLine) →
    RKs X.prog X.w s.heap (es.map (·.key)) (kvs.map (·.1)) ∧ RKs X.prog X.w s.heap (es.map (·.val)) (kvs.map (·.2))
  | _, _, .nil, _, _ => ⟨⟨[], fun b hb => (List.not_mem_nil hb).elim, by show ReprAllK _ _ _ _ _ [] (PyData.shownAll []); unfold PyData.shownAll; exact .nil⟩, ⟨[], fun b hb => (List.not_mem_nil hb).elim, by show ReprAllK _ _ _ _ _ [] (PyData.shownAll []); unfold PyData.shownAll; exact .nil⟩⟩
  | _, _, .cons (k := kd) (d := d) (kvs := kvs) h1 r1 _ _ h2 r2 t, hw, hz => by
    unfold PyData.showableKv at hw
    rw [Bool.and_eq_true, Bool.and_eq_true] at hw
    unfold PyData.shownKv at hz
    have z0 := hz _ List.mem_cons_self
    rw [strLen_append, strLen_append] at z0
    obtain ⟨as, ha, k1⟩ := rk1 I h1 r1 hw.1.1 (by omega)
    obtain ⟨bs, hb, k2⟩ := rk1 I h2 r2 hw.1.2 (by omega)
    obtain ⟨⟨as', ha', k3⟩, ⟨bs', hb', k4⟩⟩ := rkk I t hw.2 fun t ht => hz t (List.mem_cons_of_mem _ ht)
    have up : ∀ (x : PyData) (l : List PyData), x.depth ≤ PyData.depthAll (x :: l) ∧ PyData.depthAll l ≤ PyData.depthAll (x :: l) := fun x l => by
      refine ⟨by unfold PyData.depthAll; exact Nat.le_max_left _ _, ?_⟩
      conv => rhs; unfold PyData.depthAll
      exact Nat.le_max_right _ _
    refine ⟨⟨as ++ as', ?_, ?_⟩, ⟨bs ++ bs', ?_, ?_⟩⟩
    · exact atMost_app (atMost_le ha (up kd (kvs.map fun p : PyData × PyData => p.1)).1) (atMost_le ha' (up kd (kvs.map fun p : PyData × PyData => p.1)).2)
    · show ReprAllK _ _ _ _ _ (_ :: _) (PyData.shownAll (_ :: _))
      unfold PyData.shownAll
      exact .cons ((k1.more fun b hm => List.mem_append.mpr (.inl hm)).level_le (up kd (kvs.map fun p : PyData × PyData => p.1)).1) (k3.more_le (fun b hm => List.mem_append.mpr (.inr hm)) (up kd (kvs.map fun p : PyData × PyData => p.1)).2)
    · exact atMost_app (atMost_le hb (up d (kvs.map fun p : PyData × PyData => p.2)).1) (atMost_le hb' (up d (kvs.map fun p : PyData × PyData => p.2)).2)
    · show ReprAllK _ _ _ _ _ (_ :: _) (PyData.shownAll (_ :: _))
      unfold PyData.shownAll
      exact .cons ((k2.more fun b hm => List.mem_append.mpr (.inl hm)).level_le (up d (kvs.map fun p : PyData × PyData => p.2)).1) (k4.more_le (fun b hm => List.mem_append.mpr (.inr hm)) (up d (kvs.map fun p : PyData × PyData => p.2)).2)
end
def reprGF (d z : PyData) : Prop := d.showable = true ∧ d.depth ≤ 60 ∧ d.shown.length ≤ sizeLine ∧ z = .str d.shown
section
variable {Q : Value → Shared → Prop} {A : Around} {E : Value → Shared → Prop} {a : Addr} {o : Obj}
theorem topL {vs : Array Value} {n : Nat} {xs : List PyData} (h1 : s.heap.get? a = some o) (h2 : o.cls = .type "list") (h3 : o.data = .seq vs n) (rd : ∃ as, Reads s.heap (.ref a) (.list xs) as) (k : RKs X.prog X.w s.heap vs.toList xs) (hg : A.guards = some []) (hu : A.units + 70 < cLine) (hdp : (PyData.list xs).depth ≤ 60)
    (hQ : ∀ h' u tk, (∀ b o, s.heap.get? b = some o → h'.get? b = some o) → Q (.str (PyData.list xs).shown u) { s with heap := h', toks := tk }) (hz : (PyData.list xs).shown.length ≤ sizeLine) : wpAny (model X.prog X.w) A (call (.builtin "repr") [.ref a]) Q E s := by
  obtain ⟨as, rd⟩ := rd
  obtain ⟨bs, hb, k⟩ := k
  have e1 : (PyData.list xs).depth = PyData.depthAll xs + 1 := by unfold PyData.depth; rfl
  have e2 : (PyData.list xs).shown = listText (PyData.shownAll xs) := by unfold PyData.shown; rfl
  have out : a ∉ bs := not_mem_of_deeper rd (by omega) hb
  rw [e2] at hQ hz
  refine call_repr_slot (by omega) (⟨o, h1, h2⟩ : s.TypeIs (.ref a) "list") F.slot_list_repr.toG ?_
  obtain ⟨l⟩ := vs
  match l, k with
  | [], k =>
    have e : PyData.shownAll xs = [] := List.eq_nil_of_length_eq_zero k.length_eq
    rw [e, listText_nil] at hQ
    exact call_list_repr_empty ⟨o, h1, h2⟩ h1 h3 ⟨_, _, rfl, hQ s.heap _ _ fun _ _ e => e⟩
  | y :: l, k => exact call_list_reprK h1 h2 h3 out k.length_eq (fun i z ez => k.item i z (by simpa using ez)) hg (fun b _ => Clear.nil b) (by show A.units + 1 + _ < _; omega) (fun _ _ e => e) (fun h' u tk kp => ⟨_, _, rfl, hQ h' u tk kp⟩) hz
theorem topT {vs : Array Value} {n : Nat} {xs : List PyData} (h1 : s.heap.get? a = some o) (h2 : o.cls = .type "tuple") (h3 : o.data = .seq vs n) (rd : ∃ as, Reads s.heap (.ref a) (.tuple xs) as) (k : RKs X.prog X.w s.heap vs.toList xs) (hg : A.guards = some []) (hu : A.units + 70 < cLine) (hdp : (PyData.tuple xs).depth ≤ 60)
    (hQ : ∀ h' u tk, (∀ b o, s.heap.get? b = some o → h'.get? b = some o) → Q (.str (PyData.tuple xs).shown u) { s with heap := h', toks := tk }) (hz : (PyData.tuple xs).shown.length ≤ sizeLine) : wpAny (model X.prog X.w) A (call (.builtin "repr") [.ref a]) Q E s := by
  obtain ⟨as, rd⟩ := rd
  obtain ⟨bs, hb, k⟩ := k
  have e1 : (PyData.tuple xs).depth = PyData.depthAll xs + 1 := by unfold PyData.depth; rfl
  have e2 : (PyData.tuple xs).shown = tupleText (PyData.shownAll xs) := by unfold PyData.shown; rfl
  have out : a ∉ bs := not_mem_of_deeper rd (by omega) hb
  rw [e2] at hQ hz
  refine call_repr_slot (by omega) (⟨o, h1, h2⟩ : s.TypeIs (.ref a) "tuple") F.slot_tuple_repr ?_
  exact call_tuple_reprK h1 h2 h3 out k hg (fun b _ => Clear.nil b) (by show A.units + 1 + _ < _; omega) (fun _ _ e => e) (fun h' u tk kp => ⟨_, _, rfl, hQ h' u tk kp⟩) hz
theorem topD {es : Array DictEntry} {n : Nat} {kvs : List (PyData × PyData)} (h1 : s.heap.get? a = some o) (h2 : o.cls = .type "dict") (h3 : o.data = .dict es n) (nosys : a ≠ sysModules) (rd : ∃ as, Reads s.heap (.ref a) (.dict kvs) as)
    (k1 : RKs X.prog X.w s.heap (es.toList.map (·.key)) (kvs.map (·.1))) (k2 : RKs X.prog X.w s.heap (es.toList.map (·.val)) (kvs.map (·.2))) (hg : A.guards = some []) (hu : A.units + 70 < cLine) (hdp : (PyData.dict kvs).depth ≤ 60)
    (hQ : ∀ h' u tk, (∀ b o, s.heap.get? b = some o → h'.get? b = some o) → Q (.str (PyData.dict kvs).shown u) { s with heap := h', toks := tk }) (hz : (PyData.dict kvs).shown.length ≤ sizeLine) : wpAny (model X.prog X.w) A (call (.builtin "repr") [.ref a]) Q E s := by
  obtain ⟨as, rd⟩ := rd
  obtain ⟨b1, hb1, k1⟩ := k1
  obtain ⟨b2, hb2, k2⟩ := k2
  have l1 := PyData.depthAll_keys_le kvs
  have l2 := PyData.depthAll_vals_le kvs
  have e1 : (PyData.dict kvs).depth = PyData.depthKv kvs + 1 := by unfold PyData.depth; rfl
  have e2 : (PyData.dict kvs).shown = dictText (PyData.shownKv kvs) := by unfold PyData.shown; rfl
  have out : a ∉ b1 ++ b2 := not_mem_of_deeper (n := PyData.depthKv kvs) rd (by omega) (atMost_app (atMost_le hb1 l1) (atMost_le hb2 l2))
  rw [e2, PyData.shownKv_eq] at hQ hz
  have m1 := k1.more_le (as' := b1 ++ b2) (fun b hm => List.mem_append.mpr (.inl hm)) l1
  have m2 := k2.more_le (as' := b1 ++ b2) (fun b hm => List.mem_append.mpr (.inr hm)) l2
  refine call_repr_slot (by omega) (⟨o, h1, h2⟩ : s.TypeIs (.ref a) "dict") F.slot_dict_repr ?_
  exact call_dict_reprK h1 h2 h3 (beq_eq_false_iff_ne.mpr nosys) out (ReprEntriesK.of_two _ _ _ m1 m2) hg (fun b _ => Clear.nil b) (by show A.units + 1 + _ < _; omega) (fun _ _ e => e) (fun h' u tk kp => ⟨_, _, rfl, hQ h' u tk kp⟩) hz
end
theorem c_reprG {k : Nat} (hr : Room k X.A) (hg : X.A.guards = some []) : C1 X (.builtin "repr") reprGF := by
  intro pins s σ H d z x u Q I n r o k
  obtain ⟨h1, h3, h4, rfl⟩ := o
  have un := hr.un
  have hu : X.A.units + 70 < cLine := by omega
  obtain ⟨as, rd, _⟩ := now_readsN I n r
  have fin : ∀ (h' : Heap) (u' : Tok) (tk : Nat), (∀ b o, s.heap.get? b = some o → h'.get? b = some o) → Q (.str d.shown u') { s with heap := h', toks := tk } := fun h' u' tk kp => k (.str _) _ H _ (I.kept kp) ⟨_, rfl⟩ (Rel.str _) (Same.refl _)
  have listCase : ∀ {a : Addr} {vs : List V} {ds : List PyData}, d = .list ds → u = .ref a → Rd H a (.lst vs) → RelAll X.w X.K H ds vs → wpAny (model X.prog X.w) X.A (call (.builtin "repr") [u]) Q X.xe s := by
    intro a vs ds ed eu hs ha
    subst ed eu
    obtain ⟨z, its, n, rv, ho⟩ := hs.ok I.hok
    unfold PyData.showable at h1
    have hz : (listText (PyData.shownAll ds)).length ≤ sizeLine := by unfold PyData.shown at h4; exact h4
    exact topL (vs := its.toArray) ho rfl rfl ⟨as, rd⟩ (rks I ha rv h1 fun t ht => Nat.le_trans (listText_mem_le ht) hz) hg hu h3 fin h4
  have dictCase : ∀ {a : Addr} {o : Obj} {es : List DictEntry} {kvs : List (PyData × PyData)}, d = .dict kvs → u = .ref a → s.heap.get? a = some o → DObj o es → a ≠ sysModules → RelKV X.w X.K H kvs es → wpAny (model X.prog X.w) X.A (call (.builtin "repr") [u]) Q X.xe s := by
    intro a o es kvs ed eu ho hd hsy ha
    subst ed eu
    obtain ⟨ar, ep, hx, hdt, he⟩ := hd
    unfold PyData.showable at h1
    have hz : (dictText (PyData.shownKv kvs)).length ≤ sizeLine := by unfold PyData.shown at h4; exact h4
    obtain ⟨k1, k2⟩ := rkk I ha h1 fun p hp => Nat.le_trans (dictText_mem_le hp) hz
    rw [← he] at k1 k2
    exact topD ho hx.1 hdt hsy ⟨as, rd⟩ k1 k2 hg hu h3 fin h4
  cases n with
  | rel h =>
    cases h with
    | non => cases r; exact PySem.P.repr_of_none (k (.str _) _ H _ (I.tok _) ⟨_, rfl⟩ (by simp only [PyData.shown]; exact Rel.str _) (Same.refl _))
    | bl b => cases r; exact PySem.P.repr_of_bool (k (.str _) _ H _ (I.tok _) ⟨_, rfl⟩ (by simp only [PyData.shown]; exact Rel.str _) (Same.refl _))
    | int i => obtain ⟨t, rfl⟩ := r; exact PySem.P.repr_of_int (by simpa [PyData.showable] using h1) (k (.str _) _ H _ (I.tok _) ⟨_, rfl⟩ (by simp only [PyData.shown]; exact Rel.str _) (Same.refl _))
    | str y => obtain ⟨t, rfl⟩ := r; exact PySem.P.repr_of_str (k (.str _) _ H _ (I.tok _) ⟨_, rfl⟩ (by simp only [PyData.shown]; exact Rel.str _) (Same.refl _)) (by simpa only [PyData.shown] using h4)
    | @tup a vs ds hs ha =>
      cases r
      obtain ⟨its, rv, ⟨o, ho, hc, n, hd⟩, _⟩ := I.tuple hs.sq
      unfold PyData.showable at h1
      have hz : (tupleText (PyData.shownAll ds)).length ≤ sizeLine := by unfold PyData.shown at h4; exact h4
      exact topT (vs := its.toArray) ho hc hd ⟨as, rd⟩ (rks I ha rv h1 fun t ht => Nat.le_trans (tupleText_mem_le ht) hz) hg hu h3 fin h4
    | lst hs ha => exact listCase rfl r (.inr ⟨_, hs⟩) ha
    | dct hs ho hsy _ _ ha => exact dictCase rfl r (I.hok _ _ hs).1 ho hsy ha
  | lst hs ha => exact listCase rfl r hs ha
  | dct hs ho hsy _ _ ha => exact dictCase rfl r (I.hok _ _ hs).1 ho hsy ha
end
end DL

/-! DMy: two lists of dicts, alike, compared by != . -/
namespace DL
open PySem PySem.Spec PyProof.Rows L2 AutoSeq1 MeetsSeq MeetsSeq2
section
variable {P : Program} {w : World}
/-- from place j on all is alike -/
theorem ne_walk (la lb : Addr) (xs ys : Array Value) (i1 i2 : Nat) (n1 n2 : Option Addr) (sa sb : Array (Option Value)) (same : xs.size = ys.size) (m : Nat) :
    ∀ j : Nat, xs.size - j = m → MeetsIn P w (Builtin.«list.__eq__.loop» ⟨[.ref la, .ref lb, rawInt j, rawInt 3], []⟩)
      (fun A R t => t.heap.get? la = some { cls := .type "list", dict := n1, data := .seq xs i1, slots := sa } ∧ t.heap.get? lb = some { cls := .type "list", dict := n2, data := .seq ys i2, slots := sb } ∧
        (∀ c (c1 : c < xs.size) (c2 : c < ys.size), SeqAt.EqP P w A.in1 t xs[c] ys[c] true) ∧ R (.ok (.ret (.bool false))) t) := by
  induction m with
  | zero =>
    intro j hj A R t ⟨ga, gb, al, fin⟩
    obtain ⟨hp, gs, dr, tks, os⟩ := t
    wp_walk using wpAny_loadPart' ga, wpAny_loadPart' gb
    have e1 : xs[((j : Nat) : Int).toNat]? = none := by simp; omega
    have e2 : ys[((j : Nat) : Int).toNat]? = none := by simp; omega
    rw [e1, e2]
    wp_walk using wpAny_loadPart' ga, wpAny_loadPart' gb
    show R (.ok (.ret (.bool (xs.size != ys.size)))) _
    rw [same, bne_self_eq_false]
    exact fin
  | succ m ih =>
    intro j hj A R t ⟨ga, gb, al, fin⟩
    obtain ⟨hp, gs, dr, tks, os⟩ := t
    wp_walk using wpAny_loadPart' ga, wpAny_loadPart' gb
    have l1 : j < xs.size := by omega
    have l2 : j < ys.size := by omega
    have e1 : xs[((j : Nat) : Int).toNat]? = some xs[j] := by simp [l1]
    have e2 : ys[((j : Nat) : Int).toNat]? = some ys[j] := by simp [l2]
    have nxt : ((j : Int) + 1) = ((j + 1 : Nat) : Int) := by push_cast; rfl
    rw [e1, e2]
    refine wpAny_bind (al j l1 l2 _ _ ?_)
    wp_walk
    rw [nxt]
    refine ⟨plainId_quiet MeetsSeq3.plain_eq_loop _, codeAny_builtin MeetsSeq3.entry_eq_loop ?_⟩
    rw [Around.under_plainId MeetsSeq3.plain_eq_loop _]
    exact ih (j + 1) (by omega) A R _ ⟨ga, gb, al, fin⟩
theorem ne_whole (la lb : Addr) (xs ys : Array Value) (i1 i2 : Nat) (n1 n2 : Option Addr) (sa sb : Array (Option Value)) (same : xs.size = ys.size) :
    MeetsIn P w (Builtin.«list.__ne__» ⟨[.ref la, .ref lb], []⟩)
      (fun A R t => t.heap.get? la = some { cls := .type "list", dict := n1, data := .seq xs i1, slots := sa } ∧ t.heap.get? lb = some { cls := .type "list", dict := n2, data := .seq ys i2, slots := sb } ∧
        (∀ c (c1 : c < xs.size) (c2 : c < ys.size), SeqAt.EqP P w A.in1 t xs[c] ys[c] true) ∧ R (.ok (.ret (.bool false))) t) := by
  intro A R t ⟨ga, gb, al, fin⟩
  obtain ⟨hp, gs, dr, tks, os⟩ := t
  have sub := AutoSeq1.sub_list_list
  have neq : ¬ (xs.size != ys.size) = true := by simp [same]
  wp_walk using wpAny_loadPart' ga, wpAny_loadPart' gb
  refine ⟨plainId_quiet MeetsSeq3.plain_eq_loop _, codeAny_builtin MeetsSeq3.entry_eq_loop ?_⟩
  rw [Around.under_plainId MeetsSeq3.plain_eq_loop _]
  exact ne_walk la lb xs ys i1 i2 n1 n2 sa sb same _ 0 rfl A R _ ⟨ga, gb, al, fin⟩
theorem ne_lists {A : Around} {s : Shared} {la lb : Addr} {xs ys : Array Value} (h1 : s.heap.IsList la xs) (h2 : s.heap.IsList lb ys) (same : xs.size = ys.size) (hu : A.units < cLine)
    (al : ∀ c (c1 : c < xs.size) (c2 : c < ys.size), SeqAt.EqP P w A.in1 s xs[c] ys[c] true) {E Q : Value → Shared → Prop} (q : Q (.bool false) s) : wpAny (model P w) A (compareOp .NotEq (.ref la) (.ref lb)) Q E s := by
  obtain ⟨⟨c1, d1, t1, l1⟩, o1, k1, m1, z1⟩ := id h1
  obtain ⟨⟨c2, d2, t2, l2⟩, o2, k2, m2, z2⟩ := id h2
  simp only at k1 z1 k2 z2
  subst k1 z1 k2 z2
  have y1 : s.TypeIs (.ref la) "list" := ⟨_, o1, rfl⟩
  have y2 : s.TypeIs (.ref lb) "list" := ⟨_, o2, rfl⟩
  refine wpAny_richCompare_same_room (op := .NotEq) y1 y2 F.slot_list_ne ?_ hu
  exact call_meetsIn F.slot_list_ne y1 F.entry_list_ne (F.args_list_ne_2 _ _) (ne_whole la lb xs ys m1 m2 d1 d2 l1 l2 same) ⟨o1, o2, al, show Value.bool false ≠ Value.notImplemented ∧ Q (.bool false) s from ⟨(fun z => nomatch z), q⟩⟩
end
/-- two dicts of flat keys that say the same -/
def sameD (d e : PyData) : Bool := match d, e with
  | .dict a, .dict b => ((a.all fun p => fk p.1) && (b.all fun p => fk p.1)) && (((a.all fun p => fine p.2) && (b.all fun p => fine p.2)) && dEqv a b)
  | _, _ => false
def sameDs : List PyData → List PyData → Bool
  | [], [] => true
  | x :: xs, y :: ys => sameD x y && sameDs xs ys
  | _, _ => false
def neLDF (d e : PyData) : Option PyData := match d, e with
  | .list a, .list b => if sameDs a b then some (.bool false) else none
  | _, _ => none
section
variable {X : Cx} {pins : List (Addr × Obj)} {s : Shared} {σ : L2.St} {H : Hp}
theorem hits_flat (I : Inv X pins σ H s) {A : Around} (hu : A.units + 60 < cLine) {b : List (PyData × PyData)} {xb : List (Key × Value)} (hb : Paired (FP X.w X.K H) (dats b) xb) (fb : (b.all fun p => fine p.2) = true) :
    ∀ {a : List (PyData × PyData)} {xa : List (Key × Value)}, Paired (FP X.w X.K H) (dats a) xa → (a.all fun p => fine p.2) = true → PySem.W.KeqHitsP X.prog X.w A s xb xa (a.all (hitB b))
  | [], _, r, _ => by cases r; exact .nil
  | p :: a, _, r, hf => by
    cases r with
    | @cons _ x _ xa h t =>
    rw [List.all_cons, Bool.and_eq_true] at hf
    have ih := hits_flat I hu hb fb t hf.2
    obtain ⟨n, c⟩ := x
    rw [List.all_cons]
    have ek : p.1 = keyP n := h.key
    rcases fp_look hb n with ⟨e1, e2⟩ | ⟨q, y, dv, e1, e2, ry, rv⟩
    · rw [dlook_dats] at e2
      have e3 : dlook b p.1 = none := by
        rw [ek]
        cases z : dlook b (keyP n) with
        | none => rfl
        | some y => rw [z] at e2; cases e2
      rw [show hitB b p = false by unfold hitB; rw [e3], Bool.false_and]
      exact .miss e1
    · rw [dlook_dats] at e2
      obtain ⟨y', e3, e4⟩ := Option.map_eq_some_iff.mp e2
      subst e4
      have e3' : dlook b p.1 = some y' := by rw [ek]; exact e3
      rw [show hitB b p = PyData.eqv p.2 y' by unfold hitB; rw [e3']]
      refine .hit e1 ?_ ih
      obtain ⟨dv2, r1, r2⟩ := h.val
      obtain ⟨as, a1⟩ := reads I (show Rel X.w X.K H p.2 dv2 from r1) r2
      obtain ⟨bs, b1⟩ := reads I (show Rel X.w X.K H y' dv from ry) rv
      obtain ⟨p', hp', ep⟩ := dlook_mem e3'
      have f1 := hf.1
      have f2 := List.all_eq_true.mp fb p' hp'
      rw [ep] at f2
      unfold fine at f1 f2
      rw [Bool.and_eq_true] at f1 f2
      have h2 := of_decide_eq_true f1.2
      have h3 := of_decide_eq_true f2.2
      exact (SeqAt.eqAt_plain p.2 y' A s _ _ as bs a1 b1 f1.1 f2.1 (by omega)).eqP
theorem same_eq (I : Inv X pins σ H s) {A : Around} (hu : A.units + 70 < cLine) {d e : PyData} (h : sameD d e = true) {x y : V} {u v : Value} (r1 : Rel X.w X.K H d x) (r2 : Rel X.w X.K H e y) (rv1 : RelV x u) (rv2 : RelV y v) : SeqAt.EqP X.prog X.w A s u v true := by
  cases d <;> cases e <;> first | (exfalso; exact Bool.false_ne_true h) | skip
  rename_i a b
  unfold sameD at h
  simp only [Bool.and_eq_true] at h
  obtain ⟨⟨ka, kb⟩, ⟨fa, fb⟩, eqv⟩ := h
  obtain ⟨pa, oa, ea, rfl, Da⟩ := DTh.data I (.rel r1)
  obtain ⟨pb, ob, eb, rfl, Db⟩ := DTh.data I (.rel r2)
  cases rv1
  cases rv2
  obtain ⟨xa, d1, p1, l1⟩ := Da.flat (by rw [List.all_map]; exact ka)
  obtain ⟨xb, d2, p2, l2⟩ := Db.flat (by rw [List.all_map]; exact kb)
  have la : xa.length = a.length := by rw [← Paired.len p1, List.length_map]
  have lb : xb.length = b.length := by rw [← Paired.len p2, List.length_map]
  by_cases ne : pa = pb
  · subst ne
    exact (SeqAt.EqAt.same _).eqP
  · refine SeqAt.eqP_refs ne fun E Q q => ?_
    refine PySem.W.rcP_dicts (knd := mixKind X.prog X.w) (beq_eq_false_iff_ne.mpr Da.nosys) (beq_eq_false_iff_ne.mpr Db.nosys) d1 d2 (by omega) (fun _ => hits_flat I (by show A.units + 1 + 60 < cLine; omega) p2 fb p1 fa) E Q ?_
    rw [show (xa.length == xb.length && a.all (hitB b)) = dEqv a b by unfold dEqv; rw [la, lb], eqv]
    exact q
theorem sames_eq (I : Inv X pins σ H s) {A : Around} (hu : A.units + 70 < cLine) : ∀ {ds es : List PyData} {xs ys : List V} {us vs : List Value}, sameDs ds es = true → RelAll X.w X.K H ds xs → RelAll X.w X.K H es ys → Vals xs us → Vals ys vs →
    us.length = vs.length ∧ ∀ c (c1 : c < us.length) (c2 : c < vs.length), SeqAt.EqP X.prog X.w A s us[c] vs[c] true
  | [], [], _, _, _, _, _, .nil, .nil, .nil, .nil => ⟨rfl, fun c c1 => absurd c1 (Nat.not_lt_zero c)⟩
  | d :: ds, e :: es, _, _, _, _, h, .cons a1 a2, .cons b1 b2, .cons r1 r2, .cons s1 s2 => by
    unfold sameDs at h
    rw [Bool.and_eq_true] at h
    obtain ⟨l, k⟩ := sames_eq I hu h.2 a2 b2 r2 s2
    refine ⟨by rw [List.length_cons, List.length_cons, l], fun c c1 c2 => ?_⟩
    cases c with
    | zero => exact same_eq I hu h.1 a1 b1 r1 s1
    | succ c => exact k c (Nat.lt_of_succ_lt_succ c1) (Nat.lt_of_succ_lt_succ c2)
  | [], _ :: _, _, _, _, _, h, _, _, _, _ => absurd h Bool.false_ne_true
  | _ :: _, [], _, _, _, _, h, _, _, _, _ => absurd h Bool.false_ne_true
theorem o_neLD {k : Nat} (hr : Room k X.A) : O2 X (compareOp .NotEq) neLDF := by
  intro pins s σ H d e z x y u1 u2 Q I n1 r1 n2 r2 h k
  have un := hr.un
  cases d <;> cases e <;> first | (cases h; done) | skip
  rename_i a b
  have h : (if sameDs a b = true then some (PyData.bool false) else none) = some z := h
  split at h
  · cases h
    rename_i sm
    obtain ⟨pa, va, rfl, ha, rva⟩ := now_list n1
    obtain ⟨pb, vb, rfl, hb, rvb⟩ := now_list n2
    cases r1
    cases r2
    obtain ⟨ia, ma, ra, ea, za⟩ := rd_lst I ha
    obtain ⟨ib, mb, rb, eb, zb⟩ := rd_lst I hb
    obtain ⟨l, al⟩ := sames_eq I (A := X.A.in1) (by show X.A.units + 1 + 70 < cLine; omega) sm rva rvb ra rb
    refine ne_lists (xs := ia.toArray) (ys := ib.toArray) ⟨_, ea, rfl, _, rfl⟩ ⟨_, eb, rfl, _, rfl⟩ (by rw [List.size_toArray, List.size_toArray, l]) (by omega) (fun c c1 c2 => by simpa using al c (by simpa using c1) (by simpa using c2)) ?_
    exact k (.bl false) _ H s I rfl (Rel.bl _) (Same.refl _)
  · cases h
end
end DL

/-! DMz: tables of sets, up to 512 slots. -/
namespace DL
open PySem PySem.Spec PyProof.Rows L2

/-- a mask whose slots are all met -/
structure Full (m : Nat) : Prop where
  all : ∀ (h : Int) (j : Nat), j ≤ m → ∃ n, n ≤ m + 12 ∧ runI m (SetTable.bits h) n = j
  odd : m % 2 = 1
  le : m ≤ 511
theorem full_of {m : Nat} (h : MaskOk m) : Full m := ⟨fun z j hj => run_meets h z hj, mask_odd h, by rcases h with e | e | e <;> omega⟩
/-- the round of 512, told step by step -/
def rnd : Nat → Nat → List Nat
  | 0, _ => []
  | k + 1, i => i :: rnd k ((i * 5 + 1) % 512)
theorem rnd_get : ∀ (k i c : Nat), c < k → (rnd k i)[c]? = some (lcgI 511 i c)
  | 0, _, _, h => absurd h (Nat.not_lt_zero _)
  | k + 1, i, 0, _ => rfl
  | k + 1, i, c + 1, h => by
    show (rnd k ((i * 5 + 1) % 512))[c]? = _
    rw [rnd_get k _ c (Nat.lt_of_succ_lt_succ h)]
    have sh : ∀ c i, lcgI 511 ((i * 5 + 1) % 512) c = lcgI 511 i (c + 1) := by
      intro c
      induction c with
      | zero => intro i; rfl
      | succ c ih =>
        intro i
        show (lcgI 511 ((i * 5 + 1) % 512) c * 5 + 1) % 512 = (lcgI 511 i (c + 1) * 5 + 1) % 512
        rw [ih]
    rw [sh]
def rndIn (l : List Nat) : Bool := (List.range 512).all fun j => l.contains j
theorem rnd0 : rndIn (rnd 512 0) = true := by decide +kernel
theorem rnd_end : lcgI 511 0 512 = 0 := by decide +kernel
theorem lcgI_add (i a : Nat) : ∀ b, lcgI 511 i (a + b) = lcgI 511 (lcgI 511 i a) b
  | 0 => rfl
  | b + 1 => by
    show (lcgI 511 i (a + b) * 5 + 1) % 512 = (lcgI 511 (lcgI 511 i a) b * 5 + 1) % 512
    rw [lcgI_add i a b]
theorem lcg0 {j : Nat} (h : j ≤ 511) : ∃ a, a < 512 ∧ lcgI 511 0 a = j := by
  have q := rnd0
  unfold rndIn at q
  have := List.all_eq_true.mp q j (List.mem_range.mpr (by omega))
  obtain ⟨a, ha, e⟩ := List.getElem_of_mem (List.contains_iff_mem.mp this)
  have la : a < 512 := by
    have : ∀ k i, (rnd k i).length = k := by
      intro k
      induction k with
      | zero => intro i; rfl
      | succ k ih => intro i; show (rnd k _).length + 1 = _; rw [ih]
    rw [this] at ha
    exact ha
  have g := rnd_get 512 0 a la
  rw [List.getElem?_eq_getElem ha, e] at g
  exact ⟨a, la, (Option.some.inj g).symm⟩
theorem lcg_to {i j : Nat} (hi : i ≤ 511) (hj : j ≤ 511) : ∃ k, k ≤ 511 ∧ lcgI 511 i k = j := by
  obtain ⟨a, la, ea⟩ := lcg0 hi
  obtain ⟨b, lb, eb⟩ := lcg0 hj
  by_cases c : a ≤ b
  · refine ⟨b - a, by omega, ?_⟩
    have := lcgI_add 0 a (b - a)
    rw [ea, show a + (b - a) = b by omega, eb] at this
    exact this.symm
  · refine ⟨512 - a + b, by omega, ?_⟩
    have := lcgI_add 0 a (512 - a + b)
    rw [ea, show a + (512 - a + b) = 512 + b by omega, lcgI_add, rnd_end, eb] at this
    exact this.symm
theorem full_511 : Full 511 := ⟨fun h j hj => by
  obtain ⟨k, lk, e⟩ := lcg_to (runI_le 511 (SetTable.bits h) 12) hj
  exact ⟨12 + k, by omega, by rw [runI_tail (bits_lt h)]; exact e⟩, by decide, by decide⟩
theorem stays {m : Nat} (h : Int) (k : Nat) : way m h k ≤ m := by
  have st : ∀ i b, i ≤ m → (runAt m i b).j + (runAt m i b).more ≤ m := fun i b hi => by
    obtain ⟨e1, e2, _⟩ := runEnd_bd hi
    show i + (SetTable.runEnd m i - i) ≤ m
    omega
  have := nth_in k _ (st (SetTable.bits h % (m + 1)) (SetTable.bits h) (Nat.le_of_lt_succ (Nat.mod_lt _ (Nat.succ_pos _))))
  show (nth m (runAt m (SetTable.bits h % (m + 1)) (SetTable.bits h)) k).j ≤ m
  omega
/-- a table in which each hash is met before an empty slot -/
structure TabF (t : SetTable) (hs : List Int) : Prop where
  ris : Ris t.place.toList
  dm : t.dummies = #[]
  sz : t.place.size = hs.length
  full : Full t.mask
  bd : ∀ x ∈ t.place.toList, x ≤ t.mask
  reach : ∀ (i : Nat) (h : Int) (j : Nat), hs[i]? = some h → t.place.toList[i]? = some j → ∃ k, way t.mask h k = j ∧ ∀ k', k' < k → way t.mask h k' ∈ t.place.toList
section
variable {t : SetTable} {hs : List Int}
/-- the way to its first empty slot -/
theorem TabF.first (T : TabF t hs) (hl : hs.length ≤ t.mask) (h : Int) : ∃ K, K < 10 * SetTable.turns t.mask ∧ way t.mask h K ∉ t.place.toList ∧ ∀ k, k < K → way t.mask h k ∈ t.place.toList := by
  obtain ⟨j, hj, hn⟩ := st_missing t.place.toList (t.mask + 1) (by rw [Array.length_toList, T.sz]; omega)
  obtain ⟨n, ln, e⟩ := T.full.all h j (Nat.le_of_lt_succ hj)
  obtain ⟨k, lk, e2⟩ := run_nth t.mask (SetTable.bits h) n
  have ej : way t.mask h k = j := by
    show (nth t.mask (runAt t.mask (SetTable.bits h % (t.mask + 1)) (SetTable.bits h)) k).j = j
    rw [e2]; exact e
  obtain ⟨K, l1, l2, l3⟩ := st_least (p := fun k => way t.mask h k ∉ t.place.toList) k (by rw [ej]; exact hn)
  refine ⟨K, by unfold SetTable.turns; omega, l2, fun k' hk' => ?_⟩
  by_cases c : way t.mask h k' ∈ t.place.toList
  · exact c
  · exact absurd c (l3 k' hk')
theorem TabF.before (T : TabF t hs) {h : Int} {K i j : Nat} (hK : way t.mask h K ∉ t.place.toList) (hi : hs[i]? = some h) (hj : t.place.toList[i]? = some j) : ∃ k, k < K ∧ way t.mask h k = j := by
  obtain ⟨k, e, b⟩ := T.reach i h j hi hj
  refine ⟨k, ?_, e⟩
  by_cases c : k < K
  · exact c
  · exfalso
    rcases Nat.lt_or_eq_of_le (Nat.le_of_not_lt c) with z | z
    · exact hK (b K z)
    · rw [z, e] at hK
      exact hK (List.mem_of_getElem? hj)
/-- one more, at the way's first empty slot -/
theorem TabF.put (T : TabF t hs) {h : Int} {K : Nat} (hK : way t.mask h K ∉ t.place.toList) (hb : ∀ k, k < K → way t.mask h k ∈ t.place.toList) :
    ∃ p, (t.put (way t.mask h K)).2 = p ∧ p ≤ hs.length ∧ TabF (t.put (way t.mask h K)).1 (hs.take p ++ h :: hs.drop p) ∧ (t.put (way t.mask h K)).1.mask = t.mask ∧ (t.put (way t.mask h K)).1.led = t.led ∧
      (t.put (way t.mask h K)).1.plain = t.plain ∧ (t.put (way t.mask h K)).1.fill = hs.length + 1 := by
  have jm := stays (m := t.mask) h K
  generalize hj : way t.mask h K = j at hK jm ⊢
  obtain ⟨c1, _, _⟩ := below_cut T.ris j
  generalize hp : SetTable.below t.place j = p at c1
  have l1 : t.place.toList.length = hs.length := by rw [Array.length_toList, T.sz]
  have p1 : p ≤ t.place.toList.length := by rw [Array.length_toList]; exact c1
  have p2 : p ≤ hs.length := by omega
  have pl : (t.put j).1.place.toList = t.place.toList.take p ++ j :: t.place.toList.drop p := by rw [put_place, hp]
  have ns : (t.put j).1.place.size = hs.length + 1 := by rw [← Array.length_toList, pl, len_ins _ p1, l1]
  have more : ∀ {x : Nat}, x ∈ t.place.toList → x ∈ (t.put j).1.place.toList := fun hx => by rw [pl]; exact mem_ins.2 (.inr hx)
  refine ⟨p, hp, p2, ⟨ris_insert T.ris fun e => hK ?_, put_dm T.dm j, by rw [len_ins _ p2]; exact ns, T.full, fun x hx => ?_, fun i h' j' h1 h2 => ?_⟩, rfl, rfl, rfl, ?_⟩
  · exact List.mem_of_getElem? (by rw [Array.getElem?_toList]; exact e)
  · rw [pl] at hx
    rcases mem_ins.1 hx with e | z
    · rw [e]; exact jm
    · exact T.bd x z
  · rw [tins_get hs p2] at h1
    rw [pl, tins_get _ p1] at h2
    show ∃ k, way t.mask h' k = j' ∧ ∀ k', k' < k → way t.mask h' k' ∈ (t.put j).1.place.toList
    have old : ∀ i, hs[i]? = some h' → t.place.toList[i]? = some j' → ∃ k, way t.mask h' k = j' ∧ ∀ k', k' < k → way t.mask h' k' ∈ (t.put j).1.place.toList := fun i a b => by
      obtain ⟨k, e, z⟩ := T.reach i h' j' a b
      exact ⟨k, e, fun k' l => more (z k' l)⟩
    by_cases c : i < p
    · rw [if_pos c] at h1 h2; exact old i h1 h2
    · rw [if_neg c] at h1 h2
      by_cases d : i = p
      · rw [if_pos d] at h1 h2
        cases h1
        cases h2
        exact ⟨K, hj, fun k' l => more (hb k' l)⟩
      · rw [if_neg d] at h1 h2; exact old _ h1 h2
  · show (t.put j).1.place.size + (t.put j).1.dummies.size = _
    rw [ns, put_dm T.dm j]; rfl
end
end DL

/-! DMza: tables laid anew, up to 512 slots. -/
namespace DL
open PySem PySem.Spec PyProof.Rows L2

/-- who sits where, while a table is laid -/
structure Sits (m : Nat) (done : List Int) (ow : Array (Option Nat)) : Prop where
  sz : ow.size = m + 1
  of : ∀ j k, j ≤ m → oAt ow j = some k → ∃ h K, done[k]? = some h ∧ way m h K = j ∧ ∀ k', k' < K → oAt ow (way m h k') ≠ none
  all : ∀ k, k < done.length → ∃ j, j ≤ m ∧ oAt ow j = some k
  ps : ∃ ps : List Nat, ps.length = done.length ∧ ∀ j, j ≤ m → oAt ow j ≠ none → j ∈ ps
theorem sits0 (m : Nat) : Sits m [] (Array.replicate (m + 1) none) :=
  ⟨by simp, fun j k hj e => (by rw [oAt_init hj] at e; cases e), fun k hk => absurd hk (Nat.not_lt_zero _), [], rfl, fun j hj e => absurd (oAt_init hj) e⟩
theorem sits_step {m : Nat} (F : Full m) {done : List Int} {ow : Array (Option Nat)} (W : Sits m done ow) (hl : done.length ≤ m) (h : Int) :
    ∃ j, SetTable.layClean.free m ow (SetTable.turns m) (SetTable.bits h % (m + 1)) (SetTable.bits h) = some j ∧ Sits m (done ++ [h]) (ow.setIfInBounds j (some done.length)) := by
  obtain ⟨ps, lp, hin⟩ := W.ps
  obtain ⟨j0, l0, n0⟩ := st_missing ps (m + 1) (by omega)
  have j0m : j0 ≤ m := Nat.le_of_lt_succ l0
  have free0 : oAt ow j0 = none := by
    cases z : oAt ow j0 with
    | none => rfl
    | some k => exact absurd (hin j0 j0m (by rw [z]; exact fun e => nomatch e)) n0
  -- the first free one of the way
  obtain ⟨n, ln, en⟩ := F.all h j0 j0m
  generalize ho : off m (SetTable.bits h % (m + 1)) (SetTable.bits h) n = q
  have eq : way m h q = j0 := by
    show (nth m (runAt m (SetTable.bits h % (m + 1)) (SetTable.bits h)) q).j = j0
    rw [← ho, nth_off, itL_run]
    exact en
  obtain ⟨K, k1, k2, k3⟩ := st_least (p := fun k => oAt ow (way m h k) = none) q (by rw [eq]; exact free0)
  have fr : SetTable.layClean.free m ow (SetTable.turns m) (SetTable.bits h % (m + 1)) (SetTable.bits h) = some (way m h K) := by
    refine free_spec m ow (SetTable.turns m) n _ _ K (by unfold SetTable.turns; omega) (by rw [ho]; exact k1) (fun k hk => ?_) ?_
    · have z := k3 k hk
      show (oAt ow (way m h k)).isNone = false
      cases y : oAt ow (way m h k) with
      | none => exact absurd y z
      | some _ => rfl
    · show (oAt ow (way m h K)).isNone = true
      rw [show oAt ow (way m h K) = none from k2]; rfl
  refine ⟨_, fr, ?_⟩
  have jm := stays (m := m) h K
  generalize hj : way m h K = j at k2 jm ⊢
  have js : j < ow.size := by rw [W.sz]; exact Nat.lt_succ_of_le jm
  have me := oAt_set_self (some done.length) js
  have up : ∀ {i : Nat}, oAt ow i ≠ none → oAt (ow.setIfInBounds j (some done.length)) i ≠ none := fun {i} z => by
    by_cases c : i = j
    · rw [c, me]; exact fun e => nomatch e
    · rw [oAt_set_ne _ c]; exact z
  have l1 : (done ++ [h]).length = done.length + 1 := by rw [List.length_append]; rfl
  refine ⟨by rw [Array.size_setIfInBounds]; exact W.sz, fun i k hi e => ?_, fun k hk => ?_, j :: ps, by rw [l1, List.length_cons, lp], fun i hi e => ?_⟩
  · by_cases c : i = j
    · rw [c, me] at e
      cases e
      exact ⟨h, K, by rw [List.getElem?_append_right (Nat.le_refl _), Nat.sub_self]; rfl, by rw [c]; exact hj, fun k' l => up (k3 k' l)⟩
    · rw [oAt_set_ne _ c] at e
      obtain ⟨h', K', a1, a2, a3⟩ := W.of i k hi e
      exact ⟨h', K', by rw [List.getElem?_append_left (List.getElem?_eq_some_iff.mp a1).1]; exact a1, a2, fun k' l => up (a3 k' l)⟩
  · by_cases c : k < done.length
    · obtain ⟨i, hi, e⟩ := W.all k c
      exact ⟨i, hi, by rw [oAt_set_ne _ fun z => by rw [z, k2] at e; cases e]; exact e⟩
    · exact ⟨j, jm, by rw [me]; congr 1; omega⟩
  · by_cases c : i = j
    · rw [c]; exact List.mem_cons_self
    · rw [oAt_set_ne _ c] at e
      exact List.mem_cons_of_mem _ (hin i hi e)
theorem sits_fold {m : Nat} (F : Full m) : ∀ (rest done : List Int) (ow : Array (Option Nat)), Sits m done ow → done.length + rest.length ≤ m →
    ∃ ow' n, rest.foldl (stepF m) (some (ow, done.length)) = some (ow', n) ∧ Sits m (done ++ rest) ow'
  | [], done, ow, W, _ => ⟨ow, _, rfl, by rw [List.append_nil]; exact W⟩
  | h :: rest, done, ow, W, hl => by
    rw [List.length_cons] at hl
    obtain ⟨j, e, W2⟩ := sits_step F W (by omega) h
    have l1 : (done ++ [h]).length = done.length + 1 := by rw [List.length_append]; rfl
    obtain ⟨ow', n, f, W3⟩ := sits_fold F rest (done ++ [h]) _ W2 (by omega)
    rw [l1] at f
    rw [List.append_assoc] at W3
    exact ⟨ow', n, by rw [List.foldl_cons, stepF_some e]; exact f, W3⟩
theorem laid_ok {m : Nat} (F : Full m) {hs : Array Int} (hn : hs.size ≤ m) : ∃ ow, SetTable.layClean m hs = some ow ∧ Sits m hs.toList ow := by
  obtain ⟨ow, n, f, W⟩ := sits_fold F hs.toList [] _ (sits0 m) (by rw [Array.length_toList]; simpa using hn)
  rw [List.nil_append] at W
  exact ⟨ow, by rw [layClean_eq]; exact congrArg (Option.map (·.1)) f, W⟩
theorem relaid_F (t : SetTable) {hs : Array Int} {wanted M : Nat} (hw : SetTable.sizeAbove wanted - 1 = M) (F : Full M) (hn : hs.size ≤ M) :
    ∃ t' od, t.relaid hs wanted = some (t', od) ∧ od.toList.Perm (List.range hs.size) ∧ TabF t' (od.toList.map fun i => hs.getD i 0) ∧ t'.mask = M ∧ t'.led = t.led ∧ t'.plain = t.plain := by
  obtain ⟨ow, e, W⟩ := laid_ok F hn
  have hr : t.relaid hs wanted = some (tabOf t M ow, ((liveOf M ow).map (·.2)).toArray) := by
    rw [relaid_eq, hw, e]; rfl
  obtain ⟨r1, r2⟩ : Ris ((liveOf M ow).map (·.1)) ∧ ∀ x ∈ (liveOf M ow).map (·.1), x ∈ List.range (M + 1) := ris_live (fun j => ow.getD j none) (List.range (M + 1)) (by unfold Ris; exact List.pairwise_lt_range)
  have nd : ((liveOf M ow).map (·.1)).Nodup := List.Pairwise.imp (fun h => Nat.ne_of_lt h) r1
  have to : ∀ {j k : Nat}, (j, k) ∈ liveOf M ow ↔ j ≤ M ∧ oAt ow j = some k := fun {j k} => mem_live W.sz
  have hlen : (liveOf M ow).length = hs.size := by
    obtain ⟨ps, p1, p2⟩ := W.ps
    have u := nat_nodup_len _ ps nd fun x hx => by
      obtain ⟨⟨y, k⟩, hq, rfl⟩ := List.mem_map.mp hx
      obtain ⟨b1, b2⟩ := to.1 hq
      exact p2 y b1 (by rw [b2]; exact fun z => nomatch z)
    have v := nat_nodup_len (List.range hs.size) ((liveOf M ow).map (·.2)) List.nodup_range fun k hk => by
      obtain ⟨j, b1, b2⟩ := W.all k (by rw [Array.length_toList]; exact List.mem_range.mp hk)
      exact List.mem_map.mpr ⟨(j, k), to.2 ⟨b1, b2⟩, rfl⟩
    rw [List.length_map, p1] at u
    have hz : hs.toList.length = hs.size := rfl
    rw [List.length_map, List.length_range] at v
    omega
  refine ⟨_, _, hr, ?_, ⟨r1, rfl, ?_, F, fun x hx => ?_, fun i h j h1 h2 => ?_⟩, rfl, rfl, rfl⟩
  · refine perm_range hs.size _ (by show ((liveOf M ow).map (·.2)).length = _; rw [List.length_map]; exact hlen) fun k hk => ?_
    obtain ⟨j, b1, b2⟩ := W.all k (by rw [Array.length_toList]; exact hk)
    exact List.mem_map.mpr ⟨(j, k), to.2 ⟨b1, b2⟩, rfl⟩
  · show ((liveOf M ow).map (·.1)).toArray.size = (((liveOf M ow).map (·.2)).map fun i => hs.getD i 0).length
    simp
  · exact Nat.le_of_lt_succ (List.mem_range.mp (r2 x hx))
  · have h1 : (((liveOf M ow).map (·.2)).map fun i => hs.getD i 0)[i]? = some h := h1
    have h2 : ((liveOf M ow).map (·.1))[i]? = some j := h2
    rw [List.getElem?_map, List.getElem?_map] at h1
    rw [List.getElem?_map] at h2
    obtain ⟨⟨y, k⟩, hq, ej⟩ := Option.map_eq_some_iff.mp h2
    rw [hq] at h1
    cases ej
    cases h1
    obtain ⟨b1, b2⟩ := to.1 (List.mem_of_getElem? hq)
    obtain ⟨h0, K, a1, a2, a3⟩ := W.of y k b1 b2
    have e0 : hs.getD k 0 = h0 := by rw [Array.getD_eq_getD_getElem?, ← Array.getElem?_toList, a1]; rfl
    show ∃ k', way M (hs.getD k 0) k' = y ∧ ∀ k'', k'' < k' → way M (hs.getD k 0) k'' ∈ (liveOf M ow).map (·.1)
    rw [e0]
    refine ⟨K, a2, fun k' l => ?_⟩
    cases z : oAt ow (way M h0 k') with
    | none => exact absurd z (a3 k' l)
    | some k2 => exact List.mem_map.mpr ⟨(_, k2), to.2 ⟨stays h0 k', z⟩, rfl⟩
theorem grow_31 : SetTable.sizeAbove (SetTable.grown 5) = 32 := by decide +kernel
theorem grow_127 : SetTable.sizeAbove (SetTable.grown 19) = 128 := by decide +kernel
theorem grow_511 : SetTable.sizeAbove (SetTable.grown 77) = 512 := by decide +kernel
end DL

/-! DMzb: sets of tuples, up to 150 members: search, adding. -/
namespace DL
open PySem PySem.Spec PyProof.Rows L2

/-- a set of tuples of whole numbers -/
structure SetF (P : Program) (w : World) (h : Heap) (a : Addr) (L : List (Addr × List Int)) (es : Array (Int × Value)) (ep : Nat) (t : SetTable) : Prop where
  ob : ∃ o, h.get? a = some o ∧ o.ExactSet ∧ o.data = .set es ep t
  rows : es.toList = rowsOf P w L
  tab : TabF t (L.map fun p => thash P w p.2)
  nd : (L.map (·.2)).Nodup
  tup : ∀ p ∈ L, IsT P w h p.2 p.1
  plain : t.plain = true
  led : w.params.followText "set-order" = true ∨ t.led = true
  room : L.length * 5 < t.mask * 3
  mask : t.mask = 7 ∨ t.mask = 31 ∨ t.mask = 127 ∨ t.mask = 511
section
variable {P : Program} {w : World} {A : Around} {E : Value → Shared → Prop} {s : Shared} {a : Addr} {L : List (Addr × List Int)} {es : Array (Int × Value)} {ep : Nat} {t : SetTable}
theorem rows_size (h : es.toList = rowsOf P w L) : es.size = L.length := by
  have := congrArg List.length h
  unfold rowsOf at this
  rw [Array.length_toList, List.length_map] at this
  exact this
theorem rows_at (h : es.toList = rowsOf P w L) {i : Nat} {p : Addr × List Int} (hp : L[i]? = some p) : es[i]? = some (thash P w p.2, Value.ref p.1) := by
  rw [← Array.getElem?_toList, h]
  unfold rowsOf
  rw [List.getElem?_map, hp]; rfl
theorem SetF.plen (R : SetF P w s.heap a L es ep t) : t.place.size = L.length := by
  have := R.tab.sz
  rw [List.length_map] at this
  exact this
theorem SetF.fits (R : SetF P w s.heap a L es ep t) : t.fits es.size = true := by
  have h1 := R.plen
  have h2 := rows_size R.rows
  have h3 := R.room
  unfold SetTable.fits SetTable.fill
  rw [R.tab.dm, Bool.and_eq_true, beq_iff_eq, decide_eq_true_eq]
  exact ⟨by omega, by show t.place.size + 0 ≤ _; omega⟩
theorem SetF.stands (R : SetF P w s.heap a L es ep t) : ¬ t.gaveWay = true := by
  unfold SetTable.gaveWay
  rw [R.tab.full.odd]
  decide
abbrev at0 (t : SetTable) (h : Int) (c : Nat) : SetTable.Probe := nth t.mask (runAt t.mask (SetTable.bits h % (t.mask + 1)) (SetTable.bits h)) c
theorem at0_dummy (t : SetTable) (h : Int) (c : Nat) : (at0 t h c).dummy = none := by
  have : ∀ (n : Nat) (p : SetTable.Probe), p.dummy = none → (nth t.mask p n).dummy = none := by
    intro n
    induction n with
    | zero => exact fun p h => h
    | succ n ih =>
      refine fun p h => ih _ ?_
      unfold adv
      split <;> exact h
  exact this c _ rfl
theorem at0_add (t : SetTable) (h : Int) (c q : Nat) : nth t.mask (at0 t h c) q = at0 t h (c + q) := (nth_add t.mask c _ q).symm
/-- the search from the c-th step on -/
theorem seek (R : SetF P w s.heap a L es ep t) {x : Addr} {k : List Int} (hx : IsT P w s.heap k x) (hu : A.units < cLine) {K : Nat} (hKf : K < 10 * SetTable.turns t.mask)
    (hK : way t.mask (thash P w k) K ∉ t.place.toList) (hKb : ∀ c, c < K → way t.mask (thash P w k) c ∈ t.place.toList) {Q : SetFound → Shared → Prop}
    (hin : k ∈ L.map (·.2) → Q (.there none) s) (hout : k ∉ L.map (·.2) → Q (.free (way t.mask (thash P w k) K) false) s) :
    ∀ (f c : Nat) (st : Option SetTable.Probe), st.getD (t.probeStart (thash P w k)) = at0 t (thash P w k) c → c ≤ K → K - c < f →
      (∀ (i : Nat) p, L[i]? = some p → p.2 = k → ∃ c', c ≤ c' ∧ c' < K ∧ t.place.toList[i]? = some (way t.mask (thash P w k) c')) →
      wpAny (model P w) A (setSearchFrom a (.ref x) (thash P w k) true f st) Q E s
  | 0, c, st, _, _, hf, _ => absurd hf (Nat.not_lt_zero _)
  | f + 1, c, st, hst, hc, hf, hre => by
    obtain ⟨o, ho, hex, hd⟩ := R.ob
    have fit := R.fits
    rw [setSearchFrom_succ]
    refine wpAny_bind (wpAny_setState_of ho hd fit ?_)
    dsimp only
    refine wp_if_neg R.stands ?_
    generalize hH : thash P w k = H at hst hK hKb hin hout hre ⊢
    have ej : ∀ q, (nth t.mask (at0 t H c) q).j = way t.mask H (c + q) := fun q => congrArg SetTable.Probe.j (at0_add t H c q)
    have eK : c + (K - c) = K := by omega
    have spec := go_spec t R.tab.ris R.tab.dm (fun i => (es[i]?.map (·.1)).getD 0) H (10 * SetTable.turns t.mask) (K - c) (at0 t H c) (at0_dummy t H c) (by omega)
      (fun q hq => by rw [ej]; exact hKb (c + q) (by omega)) (by rw [ej, eK]; exact hK)
    have hashAt : ∀ (i : Nat) p, L[i]? = some p → (es[i]?.map (·.1)).getD 0 = thash P w p.2 := fun i p hp => by rw [rows_at R.rows hp]; rfl
    rcases spec with ⟨q, i, hq, hi, hh, hno, hpr⟩ | ⟨hno, hpr⟩
    · have hpr2 : t.probe (fun i => (es[i]?.map (·.1)).getD 0) H (st.getD (t.probeStart H)) = some (.candidate (way t.mask H (c + q)) i (at0 t H (c + (q + 1)))) := by
        rw [hst, ← ej, ← at0_add]; exact hpr
      rw [hpr2]
      dsimp only
      rw [ej] at hi
      have il : i < L.length := by
        have h1 := (List.getElem?_eq_some_iff.mp hi).1
        have h2 := R.plen
        rw [Array.length_toList] at h1
        omega
      obtain ⟨p, hp⟩ : ∃ p, L[i]? = some p := ⟨_, List.getElem?_eq_getElem il⟩
      have pm := List.mem_of_getElem? hp
      have rest : wpAny (model P w) A (searchRest a (.ref x) H true f es t (way t.mask H (c + q)) i (at0 t H (c + (q + 1)))) Q E s := by
        unfold searchRest
        rw [rows_at R.rows hp]
        dsimp only
        refine wpAny_bind (wpAny_holding (wpAny_eqBool_tuple hu (R.tup p pm) hx ?_))
        refine wpAny_bind (wpAny_setState_of ho hd fit ?_)
        dsimp only
        by_cases same : p.2 = k
        · refine wp_if_pos (by simp [same]) ?_
          exact wpAny_pure (hin (List.mem_map.mpr ⟨p, pm, same⟩))
        · refine wp_if_neg (by simp [same]) ?_
          rw [sameMem]
          dsimp only
          have sl : t.slot (way t.mask H (c + q)) = .live i := slot_live R.tab.ris hi
          simp only [if_true, sl, rows_at R.rows hp]
          refine wpAny_bind (wpAny_isSame_ref_self (wpAny_bind (wpAny_pure ?_)))
          simp only [if_true]
          refine wp_if_neg (by simp [same]) ?_
          subst hH
          refine seek R hx hu hKf hK hKb hin hout f (c + (q + 1)) _ rfl (by omega) (by omega) fun i0 p0 h0 k0 => ?_
          obtain ⟨c', a1, a2, a3⟩ := hre i0 p0 h0 k0
          refine ⟨c', ?_, a2, a3⟩
          rcases Nat.lt_trichotomy c' (c + q) with z | z | z
          · exfalso
            refine hno (c' - c) i0 (by omega) ?_ ((hashAt i0 p0 h0).trans (by rw [k0]))
            rw [ej, show c + (c' - c) = c' by omega]; exact a3
          · exfalso
            rw [z] at a3
            have s0 := slot_live R.tab.ris a3
            rw [sl] at s0
            injection s0 with s0
            rw [← s0, hp] at h0
            exact same ((congrArg Prod.snd (Option.some.inj h0)).trans k0)
          · omega
      by_cases hl : t.led = true
      · refine wp_if_neg (by simp [hl]) ?_
        exact rest
      · refine wp_if_pos (by simp [hl]) ?_
        refine wpAny_bind (seen_tup hx (fun y hy => ?_) ?_)
        · obtain ⟨e, he, ee⟩ := List.mem_map.mp hy
          have he1 : e ∈ es ∧ e.1 = H := by simpa using he
          have he2 : e ∈ es.toList := by simpa using he1.1
          rw [R.rows] at he2
          obtain ⟨p2, hp2, e2⟩ := List.mem_map.mp he2
          exact ⟨p2.2, p2.1, by rw [← ee, ← e2], R.tup p2 hp2⟩
        · refine wp_if_neg (by decide) ?_
          exact rest
    · have hpr2 : t.probe (fun i => (es[i]?.map (·.1)).getD 0) H (st.getD (t.probeStart H)) = some (.empty (way t.mask H K) none) := by
        have e2 : way t.mask H K = (nth t.mask (at0 t H c) (K - c)).j := by rw [ej, eK]
        rw [hst, e2]; exact hpr
      rw [hpr2]
      dsimp only
      refine wpAny_pure (hout fun hm => ?_)
      obtain ⟨p0, h0, k0⟩ := List.mem_map.mp hm
      obtain ⟨i0, hi0, e0⟩ := List.getElem_of_mem h0
      have h00 : L[i0]? = some p0 := by rw [List.getElem?_eq_getElem hi0, e0]
      obtain ⟨c', a1, a2, a3⟩ := hre i0 p0 h00 k0
      refine hno (c' - c) i0 (by omega) (by rw [ej, show c + (c' - c) = c' by omega]; exact a3) ?_
      rw [hashAt i0 p0 h00, k0, hH]
end
end DL

/-! DMzc: sets of tuples: adding, set(xs). -/
namespace DL
open PySem PySem.Spec PyProof.Rows L2
section
variable {P : Program} {w : World} {A : Around} {E : Value → Shared → Prop} {s : Shared} {a : Addr} {L : List (Addr × List Int)} {es : Array (Int × Value)} {ep : Nat} {t : SetTable}
theorem mask_full {m : Nat} (h : m = 7 ∨ m = 31 ∨ m = 127 ∨ m = 511) : Full m := by
  rcases h with e | e | e | e
  · exact full_of (.inl e)
  · exact full_of (.inr (.inl e))
  · exact full_of (.inr (.inr e))
  · rw [e]; exact full_511
theorem seek_all (R : SetF P w s.heap a L es ep t) {x : Addr} {k : List Int} (hx : IsT P w s.heap k x) (hu : A.units < cLine) {Q : SetFound → Shared → Prop} (hin : k ∈ L.map (·.2) → Q (.there none) s)
    (hout : ∀ K, k ∉ L.map (·.2) → way t.mask (thash P w k) K ∉ t.place.toList → (∀ c, c < K → way t.mask (thash P w k) c ∈ t.place.toList) → Q (.free (way t.mask (thash P w k) K) false) s) :
    wpAny (model P w) A (setSearch a (.ref x) (thash P w k) true) Q E s := by
  have rm := R.room
  have lt := R.tab.full.le
  obtain ⟨K, l1, l2, l3⟩ := R.tab.first (by rw [List.length_map]; omega) (thash P w k)
  have big : K < 100000 := by unfold SetTable.turns at l1; omega
  unfold setSearch
  refine seek R hx hu l1 l2 l3 hin (fun hn => hout K hn l2 l3) 100000 0 none rfl (Nat.zero_le _) (by omega) fun i p hp hk => ?_
  have il : i < t.place.toList.length := by
    have := (List.getElem?_eq_some_iff.mp hp).1
    have := R.plen
    rw [Array.length_toList]
    omega
  have hj := List.getElem?_eq_getElem il
  obtain ⟨c, hc, e⟩ := R.tab.before l2 (i := i) (by rw [List.getElem?_map, hp, ← hk]; rfl) hj
  exact ⟨c, Nat.zero_le _, hc, by rw [hj, e]⟩
/-- the table laid anew, larger -/
theorem relays {o : Obj} (ho : s.heap.get? a = some o) (hex : o.ExactSet) (hd : o.data = .set es ep t) (rows : es.toList = rowsOf P w L) (T0 : TabF t (L.map fun p => thash P w p.2)) (fl : L.length ≤ t.mask)
    (nd : (L.map (·.2)).Nodup) (tup : ∀ p ∈ L, IsT P w s.heap p.2 p.1) (pl : t.plain = true) (ld : w.params.followText "set-order" = true ∨ t.led = true) {wanted M : Nat}
    (hw : SetTable.sizeAbove wanted = M + 1) (hM : M = 7 ∨ M = 31 ∨ M = 127 ∨ M = 511) (hn : L.length * 5 < M * 3) {Q : Unit → Shared → Prop}
    (hQ : ∀ h' L' es' ep' t', Heap.SameBut a s.heap h' → SetF P w h' a L' es' ep' t' → L'.Perm L → Q () { s with heap := h' }) : wpAny (model P w) A (setRelay a wanted) Q E s := by
  have sl := rows_size rows
  have ps : t.place.size = L.length := by
    have := T0.sz
    rw [List.length_map] at this
    exact this
  have fit : t.fits es.size = true := by
    unfold SetTable.fits SetTable.fill
    rw [T0.dm, Bool.and_eq_true, beq_iff_eq, decide_eq_true_eq]
    exact ⟨by omega, by show t.place.size + 0 ≤ _; omega⟩
  obtain ⟨t', od, e, hp, T, em, el, epl⟩ := relaid_F t (hs := es.map (·.1)) (wanted := wanted) (M := M) (by omega) (mask_full hM) (by rw [Array.size_map, sl]; omega)
  rw [Array.size_map, sl] at hp
  obtain ⟨L2, r1, r2, r3⟩ := order_rows L es od rows hp
  rw [← r3] at T
  have s2 : (od.filterMap (es[·]?)).size = es.size := by rw [rows_size r1, r2.length_eq, sl]
  have M1 : M ≤ 511 := by omega
  rw [setRelay_eq]
  refine wpAny_bind (wpAny_setState_of ho hd fit ?_)
  dsimp only
  refine wp_if_neg (by rw [sizeLine_eq]; omega) ?_
  rw [e]
  dsimp only
  refine wpAny_bind ?_
  refine wp_if_neg (by rw [s2]; simp) ?_
  refine wpAny_pure ?_
  dsimp only
  refine wpAny_storeSet_of ho hd ?_ (by rw [s2, sl, sizeLine_eq]; omega)
  have sb : Heap.SameBut a s.heap (s.heap.update a (Obj.putSet (od.filterMap (es[·]?)) t')) := Heap.SameBut.update ..
  refine hQ _ L2 _ (ep + 1) t' sb ⟨⟨_, store_at ho hd, ⟨hex.1, hex.2.1, hex.2.2⟩, rfl⟩, r1, T, (r2.map (·.2)).nodup_iff.mpr nd, fun p hm => isT_same (tup p (r2.mem_iff.mp hm)) ho hd sb, by rw [epl]; exact pl, by rw [el]; exact ld, by rw [r2.length_eq, em]; exact hn, by rw [em]; exact hM⟩ r2
/-- one more -/
theorem adds (R : SetF P w s.heap a L es ep t) {x : Addr} {k : List Int} (hx : IsT P w s.heap k x) (hu : A.units < cLine) (few : L.length < 150) {Q : Bool → Shared → Prop}
    (hQ : ∀ b h' L' es' ep' t', Heap.SameBut a s.heap h' → SetF P w h' a L' es' ep' t' → (k ∈ L.map (·.2) → L' = L) → (k ∉ L.map (·.2) → L'.Perm ((x, k) :: L)) → Q b { s with heap := h' }) :
    wpAny (model P w) A (setAddHashed a (.ref x) (thash P w k)) Q E s := by
  obtain ⟨o, ho, hex, hd⟩ := R.ob
  have sl := rows_size R.rows
  have room := R.room
  have fit := R.fits
  unfold setAddHashed
  refine wpAny_holding ?_
  rw [show (100000 : Nat) = 99999 + 1 from rfl, setAddHashedIn_succ]
  refine wpAny_bind (wpAny_setState_of ho hd fit ?_)
  dsimp only
  refine wp_if_neg (by simp [byScan, Value.scannable]) ?_
  refine wpAny_bind (seek_all R hx hu (fun hm => ?_) fun K hm hK hb => ?_)
  · dsimp only
    exact wpAny_pure (hQ false s.heap L es ep t (Heap.SameBut.refl a s.heap) R (fun _ => rfl) fun z => absurd hm z)
  · dsimp only
    refine wpAny_bind (wpAny_setState_of ho hd fit ?_)
    dsimp only
    obtain ⟨p, e1, lp, T1, em, el, epl, efl⟩ := R.tab.put hK hb
    generalize hj : way t.mask (thash P w k) K = j at e1 T1 em el epl efl ⊢
    have pb : (t.put j).2 = SetTable.below t.place j := rfl
    have pl1 : (t.put j).1.plain = true := by rw [epl]; exact R.plain
    generalize hpt : t.put j = pt at e1 T1 em el epl efl pl1 ⊢
    obtain ⟨t1, p'⟩ := pt
    dsimp only at e1 T1 em el epl efl pl1 ⊢
    subst e1
    first
      | (refine wpAny_bind ?_; refine wp_if_pos pl1 ?_; refine hashBy_tup hx ?_)
      | refine wp_if_pos pl1 (wpAny_bind (hashBy_tup hx ?_))
    simp only [if_true]
    have rows1 : (SetTable.insertAt es p' (thash P w k, Value.ref x)).toList = rowsOf P w (L.take p' ++ (x, k) :: L.drop p') := by rw [SetTable.toList_insertAt, rows_put, R.rows]
    have pm := put_perm L p' (x, k)
    have len1 : (L.take p' ++ (x, k) :: L.drop p').length = L.length + 1 := pm.length_eq
    have hh : (L.take p' ++ (x, k) :: L.drop p').map (fun p => thash P w p.2) = (L.map fun p => thash P w p.2).take p' ++ thash P w k :: (L.map fun p => thash P w p.2).drop p' := by
      rw [List.map_append, List.map_cons, List.map_take, List.map_drop]
    rw [← hh] at T1
    have nd1 : ((L.take p' ++ (x, k) :: L.drop p').map (·.2)).Nodup := (pm.map (·.2)).nodup_iff.mpr (by rw [List.map_cons]; exact List.nodup_cons.mpr ⟨hm, R.nd⟩)
    have sz1 : (SetTable.insertAt es p' (thash P w k, Value.ref x)).size = L.length + 1 := (rows_size rows1).trans len1
    generalize SetTable.insertAt es p' (thash P w k, Value.ref x) = es1 at rows1 sz1 ⊢
    generalize L.take p' ++ (x, k) :: L.drop p' = L1 at pm len1 T1 nd1 rows1
    refine wpAny_bind (wpAny_storeSet_of ho hd ?_ (by rw [sz1, sizeLine_eq]; omega))
    have sb : Heap.SameBut a s.heap (s.heap.update a (Obj.putSet es1 t1)) := Heap.SameBut.update ..
    have ho1 := store_at (es' := es1) (t' := t1) ho hd
    generalize s.heap.update a (Obj.putSet es1 t1) = h1 at sb ho1 ⊢
    have tup1 : ∀ p ∈ L1, IsT P w h1 p.2 p.1 := fun p hp => by
      rcases List.mem_cons.mp (pm.mem_iff.mp hp) with e | hp
      · rw [e]; exact isT_same hx ho hd sb
      · exact isT_same (R.tup p hp) ho hd sb
    have ld1 : w.params.followText "set-order" = true ∨ t1.led = true := by rw [el]; exact R.led
    have tf : t1.tooFull = decide ((L.length + 1) * 5 ≥ t.mask * 3) := by unfold SetTable.tooFull; rw [efl, List.length_map, em]
    by_cases hf : (L.length + 1) * 5 ≥ t.mask * 3
    · have hf1 : t1.tooFull = true := by rw [tf]; exact decide_eq_true hf
      first
        | (refine wpAny_bind ?_; refine wp_if_pos (by simp [hf1]) ?_)
        | (refine wp_if_pos (by simp [hf1]) ?_; refine wpAny_bind ?_)
      rw [sl]
      obtain ⟨M, g1, g2, g3⟩ : ∃ M, SetTable.sizeAbove (SetTable.grown (L.length + 1)) = M + 1 ∧ (M = 7 ∨ M = 31 ∨ M = 127 ∨ M = 511) ∧ (L.length + 1) * 5 < M * 3 := by
        rcases R.mask with e | e | e | e <;> rw [e] at room hf
        · refine ⟨31, ?_, .inr (.inl rfl), by omega⟩
          rw [show L.length + 1 = 5 by omega, grow_31]
        · refine ⟨127, ?_, .inr (.inr (.inl rfl)), by omega⟩
          rw [show L.length + 1 = 19 by omega, grow_127]
        · refine ⟨511, ?_, .inr (.inr (.inr rfl)), by omega⟩
          rw [show L.length + 1 = 77 by omega, grow_511]
        · omega
      refine relays (s := { s with heap := h1 }) ho1 ⟨hex.1, hex.2.1, hex.2.2⟩ rfl rows1 T1 (by rw [len1, em]; rcases R.mask with e | e | e | e <;> rw [e] at room ⊢ <;> omega) nd1 tup1 pl1 ld1 g1 g2 (by rw [len1]; exact g3) fun h2 L2 es2 ep2 t2 sb2 R2 pm2 => ?_
      exact wpAny_pure (hQ true h2 L2 es2 ep2 t2 (sb.trans sb2) R2 (fun z => absurd z hm) fun _ => pm2.trans pm)
    · have hf1 : ¬ t1.tooFull = true := by rw [tf, decide_eq_false hf]; exact Bool.false_ne_true
      first
        | refine wp_if_neg (by simp [hf1]) ?_
        | (refine wpAny_bind ?_; refine wp_if_neg (by simp [hf1]) ?_; refine wpAny_pure ?_)
      exact wpAny_pure (hQ true h1 L1 es1 (ep + 1) t1 sb ⟨⟨_, ho1, ⟨hex.1, hex.2.1, hex.2.2⟩, rfl⟩, rows1, T1, nd1, tup1, pl1, ld1, by rw [len1, em]; omega, by rw [em]; exact R.mask⟩ (fun z => absurd z hm) fun _ => pm)
theorem SetF.keep {h h' : Heap} (R : SetF P w h a L es ep t) (ha : ∀ o, h.get? a = some o → h'.get? a = some o) (ht : ∀ p ∈ L, IsT P w h' p.2 p.1) : SetF P w h' a L es ep t := by
  obtain ⟨o, ho, r⟩ := R.ob
  exact ⟨⟨o, ha o ho, r⟩, R.rows, R.tab, R.nd, ht, R.plain, R.led, R.room, R.mask⟩
theorem setF_new {h : Heap} (ho : h.get? a = some (eset w)) : SetF P w h a [] #[] 0 (.fresh 0 0 (!w.params.followText "set-order")) :=
  ⟨⟨_, ho, ⟨rfl, rfl, rfl⟩, rfl⟩, rfl, ⟨List.Pairwise.nil, rfl, rfl, mask_full (.inl rfl), fun x hx => absurd hx List.not_mem_nil, fun i h j hi => by simp at hi⟩, List.nodup_nil, fun p hp => absurd hp List.not_mem_nil, rfl, by
    show _ ∨ (!w.params.followText "set-order") = true
    cases w.params.followText "set-order" <;> simp, by show 0 * 5 < 7 * 3; decide, .inl rfl⟩
end
end DL

/-! DMzd: set(xs) of tuples, sorted(set(xs)). -/
namespace DL
open PySem PySem.Spec PyProof.Rows L2
theorem nd_le {L D : List (List Int)} (hn : L.Nodup) (hs : ∀ x ∈ L, x ∈ D) : L.length ≤ D.length := List.Nodup.length_le_of_subset hn hs
/-- what a set has of the first i items -/
structure Has (ks : List (Addr × List Int)) (i : Nat) (L : List (Addr × List Int)) : Prop where
  sub : ∀ p ∈ L, p ∈ ks
  all : ∀ p ∈ ks.take i, p.2 ∈ L.map (·.2)
section
variable {P : Program} {w : World} {A : Around} {E : Value → Shared → Prop} {s : Shared}
theorem set_walk {I : Addr} {fp wr : List Addr} {Gg : Array GenState → Array GenState → Prop} {n : Nat} {Pv : Nat → Value → Prop} {St : Nat → Shared → Prop} {R : Result → Shared → Prop}
    (W : WalksS P w A.in1 I fp wr Gg n Pv St) (S : Addr) (hSf : S ∉ fp) (ks : List (Addr × List Int)) (D : List (List Int)) (hn : n = ks.length) (few : D.length < 150) (hD : ∀ p ∈ ks, p.2 ∈ D) (hval : ∀ i v, Pv i v → ∃ p, ks[i]? = some p ∧ v = .ref p.1)
    (h0 : Heap) (hk : ∀ p ∈ ks, IsT P w h0 p.2 p.1) (hS0 : h0.get? S = none) (hw0 : ∀ b ∈ wr, h0.get? b = none) (hu : A.in1.units < cLine) :
    ∀ (m i : Nat) (s : Shared), n - i = m → i ≤ n → St i s → (∀ b o, h0.get? b = some o → s.heap.get? b = some o) → (∃ L es ep t, SetF P w s.heap S L es ep t ∧ Has ks i L) →
      (∀ s' L es ep t, Moved (S :: wr) Gg s s' → SetF P w s'.heap S L es ep t → Has ks n L → R (.ok (.ret .none)) s') →
      codeAny (model P w) A (.builtin "set.update.loop" ⟨[.ref S, .ref I], []⟩) R s := by
  have nSw : S ∉ wr := fun h => hSf (W.sub _ h)
  have in2 : ∀ b ∈ wr, b ∈ S :: wr := fun b hb => List.mem_cons_of_mem _ hb
  have old : ∀ {s s' : Shared}, Moved wr Gg s s' → (∀ b o, h0.get? b = some o → s.heap.get? b = some o) → ∀ b o, h0.get? b = some o → s'.heap.get? b = some o := fun mv kp b o e =>
    mv.heap b o (fun hb => by rw [hw0 b hb] at e; cases e) (kp b o e)
  intro m
  induction m with
  | zero =>
    intro i s hm hi st kp ⟨L, es, ep, t, Z, g⟩ hR
    obtain rfl : i = n := by omega
    refine codeAny_builtin F.entry_set_update_loop ?_
    rw [Around.under_plainId F.plain_set_update_loop _]
    refine wpAny_bind (m := pyNext (.ref I)) (W.done s _ _ st fun s' mv => ?_)
    have kp2 := old mv kp
    refine wpAny_pure (hR s' L es ep t (mv.mono in2) (Z.keep (fun o e => mv.heap S o nSw e) fun p hp => isT_keep (hk p (g.sub p hp)) kp2) g)
  | succ m ih =>
    intro i s hm hi st kp ⟨L, es, ep, t, Z, g⟩ hR
    have lt : i < n := by omega
    refine codeAny_builtin F.entry_set_update_loop ?_
    rw [Around.under_plainId F.plain_set_update_loop _]
    refine wpAny_bind (m := pyNext (.ref I)) (W.item i s _ _ lt st fun v s' hP st2 mv => ?_)
    obtain ⟨p, hp, rfl⟩ := hval i v hP
    have pk := List.mem_of_getElem? hp
    have kp2 := old mv kp
    have Z2 : SetF P w s'.heap S L es ep t := Z.keep (fun o e => mv.heap S o nSw e) fun q hq => isT_keep (hk q (g.sub q hq)) kp2
    have hx : IsT P w s'.heap p.2 p.1 := isT_keep (hk p pk) kp2
    have Lfew : L.length < 150 := by
      have := nd_le (L := L.map (·.2)) (D := D) Z.nd fun x hx => by
        obtain ⟨q, hq, rfl⟩ := List.mem_map.mp hx
        exact hD q (g.sub q hq)
      rw [List.length_map] at this
      omega
    refine wpAny_bind (m := holding [Value.ref p.1] (setAdd S (.ref p.1))) (wpAny_holding ?_)
    unfold setAdd
    refine wpAny_holding (wpAny_bind (wpAny_pyHash_tuple hu hx ?_))
    refine adds (s := { s' with toks := s'.toks + (p.2.length + 1) }) Z2 hx hu Lfew fun b h' L' es' ep' t' sb Z3 c1 c2 => ?_
    have g2 : Has ks (i + 1) L' := by
      have nx : ks.take (i + 1) = ks.take i ++ [p] := by rw [List.take_add_one, hp]; rfl
      by_cases c : p.2 ∈ L.map (·.2)
      · rw [c1 c]
        refine ⟨g.sub, fun q hq => ?_⟩
        rw [nx] at hq
        rcases List.mem_append.mp hq with z | z
        · exact g.all q z
        · rw [List.mem_singleton.mp z]; exact c
      · have pm := c2 c
        refine ⟨fun q hq => ?_, fun q hq => ?_⟩
        · rcases List.mem_cons.mp (pm.mem_iff.mp hq) with e | z
          · rw [e]; exact pk
          · exact g.sub q z
        · rw [(pm.map (·.2)).mem_iff, List.map_cons]
          rw [nx] at hq
          rcases List.mem_append.mp hq with z | z
          · exact List.mem_cons_of_mem _ (g.all q z)
          · rw [List.mem_singleton.mp z]; exact List.mem_cons_self
    have kp3 : ∀ b o, h0.get? b = some o → h'.get? b = some o := fun b o e => (sb.2 b fun z => by rw [z, hS0] at e; cases e).trans (kp2 b o e)
    refine wpAny_pure ⟨plainId_quiet F.plain_set_update_loop _, ih (i + 1) _ (by omega) lt (W.frame _ s' _ _ st2 (Nat.le_add_right _ _) fun b hb o e => ?_) kp3 ⟨L', es', ep', t', Z3, g2⟩ fun s2 L2 es2 ep2 t2 mv2 Z4 g4 => ?_⟩
    · rw [sb.2 b fun z => hSf (by rw [← z]; exact hb)]; exact e
    · refine hR s2 L2 es2 ep2 t2 (Moved.trans W.gtrans ((mv.mono in2).then_heap (Nat.le_add_right _ _) fun b o hb e => ?_) mv2) Z4 g4
      rw [sb.2 b fun z => hb (by rw [z]; exact List.mem_cons_self)]; exact e
end
section
variable {P : Program} {w : World} {A : Around} {E : Value → Shared → Prop} {s : Shared}
/-- set(xs) of a list: given what the walk over the list makes of the empty set -/
theorem set_lstW {l : Addr} {its : Array Value} {Post : Heap → Prop} {Q : Value → Shared → Prop} (cold : A.handled = none) (hl : s.heap.IsList l its)
    (walk : ∀ (B : Around) (I : Addr) (fp wr : List Addr) (Gg : Array GenState → Array GenState → Prop) (St : Nat → Shared → Prop) (s1 : Shared) (R : Result → Shared → Prop), B.units ≤ A.units + 8 → WalksS P w B.in1 I fp wr Gg its.size (fun i v => its[i]? = some v) St → s.heap.objs.size ∉ fp → (∀ b ∈ wr, s.heap.objs.size < b) → St 0 s1 →
      s1.heap.get? s.heap.objs.size = some (eset w) → (∀ b o, s.heap.get? b = some o → s1.heap.get? b = some o) → (∀ s2, Moved (s.heap.objs.size :: wr) Gg s1 s2 → Post s2.heap → R (.ok (.ret .none)) s2) → codeAny (model P w) B (.builtin "set.update.loop" ⟨[.ref s.heap.objs.size, .ref I], []⟩) R s1)
    (fin : ∀ (h2 : Heap) (tk : Nat), Post h2 → (∀ b o, s.heap.get? b = some o → h2.get? b = some o) → Q (.ref s.heap.objs.size) { s with heap := h2, toks := tk }) :
    wpAny (model P w) A (call (.type "set") [.ref l]) Q E s := by
  obtain ⟨mc, mt, mm⟩ := F.called_set.mro
  have m1 := F.called_set.made
  have m2 := F.called_set.sub
  have m3 := F.called_set.notType
  have m4 := F.called_set.canCreate
  have m5 := F.typeCall_set_1 (.ref l)
  have m6 := F.called_set.init.lookup
  refine wpAny_call (codeAny_of_tree ?_)
  show wpAny (model P w) _ (callAny (.type "set") ⟨[.ref l], []⟩) _ _ s
  refine wpAny_pure ⟨Code.quiet_builtin _ (by decide +kernel), codeAny_builtin F.entry_type_call ?_⟩
  rw [Around.under_plain (weight_type_call_type "set" [.ref l] []) rfl]
  repeat (any_goals (first | assumption | wp_step))
  refine codeAny_mono (code_set_led1 (.ref l) (E := E) (Q₁ := fun v t => v = .ref s.heap.objs.size ∧ t = { s with heap := s.heap.push (eset w) }) ⟨rfl, rfl⟩) fun r t hr => ?_
  cases r with
  | error e => exact hr
  | ok fl =>
    cases fl with
    | next => exact hr.elim
    | brk => exact hr.elim
    | cont => exact hr.elim
    | ret v =>
      obtain ⟨rfl, rfl⟩ := hr
      have gS : (s.heap.push (eset w)).get? s.heap.objs.size = some (eset w) := Heap.get?_push_size _ rfl
      have tS : Shared.TypeIs { s with heap := s.heap.push (eset w) } (.ref s.heap.objs.size) "set" := ⟨_, gS, rfl⟩
      have m7 := F.called_set.init.bind (.ref s.heap.objs.size)
      repeat (any_goals (first | assumption | wp_step))
      refine codeAny_mono (codeAny_call_builtin (R := wants (fun v t => v = .none ∧ ∃ h2 tk, t = { s with heap := h2, toks := tk } ∧ Post h2 ∧ ∀ b o, s.heap.get? b = some o → h2.get? b = some o) E) F.called_set.init.plain F.entry_set_init (check_set_init_1 tS ?_)) fun r t hr => ?_
      · obtain ⟨ol, gl, cl, nl, dl⟩ := hl
        obtain ⟨c0, d0, x0, l0⟩ := ol
        simp only at cl dl
        subst cl
        subst dl
        have gl2 : (s.heap.push (eset w)).get? l = some { cls := .type "list", dict := d0, data := .seq its nl, slots := l0 } := Heap.get?_push_of_some _ gl
        have q1 := F.sub_list_set
        have q2 := F.sub_list_frozenset
        have q3 : (Value.type "list" == Value.type "dict") = false := by decide
        have il : (s.heap.push (eset w)).IsList l its := ⟨_, gl2, rfl, nl, rfl⟩
        unfold Builtin.«set.__init__» noKeywords Builtin.Frozenset.updateFrom
        generalize hI : pyIter = PI
        wp_walk
        subst hI
        refine wpAny_pyIter_list il (wpAny_bind (wpAny_runValue ?_))
        have lS : l < s.heap.objs.size := Heap.lt_size gl
        have c3 : A.in1.in1.in1.handled = none := by simp [cold]
        have n1 : l ≠ (s.heap.push (eset w)).objs.size := by rw [Heap.size_push]; exact Nat.ne_of_lt (Nat.lt_succ_of_lt lS)
        have n2 : s.heap.objs.size ∉ [(s.heap.push (eset w)).objs.size, l] := by
          rw [Heap.size_push]
          simp only [List.mem_cons, List.not_mem_nil, or_false, not_or]
          exact ⟨Nat.ne_of_lt (Nat.lt_succ_self _), Nat.ne_of_gt lS⟩
        refine walk _ _ _ _ _ _ _ _ ?u ((Walks.list c3 _ l n1 its).toS) n2 (fun b hb => by rw [List.mem_singleton.mp hb, Heap.size_push]; exact Nat.lt_succ_self _) ⟨⟨_, Heap.get?_push_size _ rfl, rfl, rfl⟩, il.push _⟩ (Heap.get?_push_of_some _ gS) (fun b o e => Heap.get?_push_of_some _ (Heap.get?_push_of_some _ e)) fun s2 mv hp => ?_
        case u => simp
        obtain ⟨h2, g2, d2, k2, p2⟩ := s2
        have e1 : g2 = s.gens := mv.gens
        have e2 : d2 = s.drawn := mv.drawn
        have e3 : p2 = s.os := mv.os
        subst e1 e2 e3
        show wpAny _ _ _ _ _ _
        refine wpAny_pure ?_
        show wpAny _ _ (ret Value.none) _ _ _
        refine wpAny_pure ⟨rfl, h2, k2, rfl, hp, fun b o e => ?_⟩
        have lb : b < s.heap.objs.size := Heap.lt_size e
        refine mv.heap b o ?_ (Heap.get?_push_of_some _ (Heap.get?_push_of_some _ e))
        rw [Heap.size_push]
        simp only [List.mem_cons, List.not_mem_nil, or_false, not_or]
        exact ⟨Nat.ne_of_lt lb, Nat.ne_of_lt (Nat.lt_succ_of_lt lb)⟩
      · cases r with
        | error e => exact hr
        | ok fl =>
          cases fl with
          | next => exact hr.elim
          | brk => exact hr.elim
          | cont => exact hr.elim
          | ret v =>
            obtain ⟨rfl, h2, tk, rfl, hp, kp⟩ := hr
            repeat (any_goals (first | assumption | wp_step))
            exact fin h2 tk hp kp
end
/-- a set of tuples, apart from its members' own objects -/
def SetZ (P : Program) (w : World) (h : Heap) (a : Addr) (L : List (Addr × List Int)) : Prop := ∃ es ep t, (∃ o, h.get? a = some o ∧ o.ExactSet ∧ o.data = .set es ep t) ∧ es.toList = rowsOf P w L ∧ TabF t (L.map fun p => thash P w p.2) ∧ (L.map (·.2)).Nodup ∧ t.fits es.size = true ∧
  (w.params.followText "set-order" = true ∨ t.led = true)
section
variable {X : Cx} {pins : List (Addr × Obj)} {σ : L2.St} {H : Hp} {s : Shared}
theorem SetF.z {P : Program} {w : World} {a : Addr} {L : List (Addr × List Int)} {es : Array (Int × Value)} {ep : Nat} {t : SetTable} (R : SetF P w s.heap a L es ep t) : SetZ P w s.heap a L := ⟨es, ep, t, R.ob, R.rows, R.tab, R.nd, R.fits, R.led⟩
def setHO (P : Program) (w : World) (a : Addr) (L : List (Addr × List Int)) : HO := .ext fun h => SetZ P w h a L
theorem setHO_ok {P : Program} {w : World} {h : Heap} {a : Addr} {L : List (Addr × List Int)} (R : SetZ P w h a L) : ObjOk P w H h a (setHO P w a L) := by
  have ⟨_, _, _, ⟨o, ho, _⟩, _⟩ := R
  refine ⟨R, ⟨o, ho⟩, fun h1 h2 p k => ?_⟩
  obtain ⟨es, ep, t, ⟨o, ho, r⟩, r2⟩ := p
  exact ⟨es, ep, t, ⟨o, k o ho, r⟩, r2⟩
def rSetT (K : PySem.W.Frag) (P : Program) (w : World) : List V → Hp → VK → Prop := fun xs H Q => ∃ (l : Addr) (ks : List (Addr × List Int)) (D : List (List Int)), xs = [V.ref l] ∧ SqL K H l (ks.map fun p => V.ref p.1) ∧ (∀ p ∈ ks, SqT K H p.1 (p.2.map V.int)) ∧ (∀ p ∈ ks, p.2 ∈ D) ∧ D.length < 150 ∧
  ∀ a L, H a = none → (∀ q ∈ L, q ∈ ks) → (∀ q ∈ ks, q.2 ∈ L.map (·.2)) → (L.map (·.2)).Nodup → Q (.ref a) (upd H a (setHO P w a L))
theorem cr_setT (hc : X.calm = true) (hu : X.A.units + 20 < cLine) : CallR X (.type "set") (rSetT X.K X.prog X.w) := by
  intro pins s σ H xs us Q I r h
  obtain ⟨l, ks, D, rfl, hl, ht, hD, few, q⟩ := h
  rw [Vals.ref1 r]
  obtain ⟨its, rv, pl, hz⟩ := I.list hl
  have eits := refs_of_vals rv
  have len : its.toArray.size = ks.length := by rw [List.size_toArray, eits, List.length_map]
  have hn : H s.heap.objs.size = none := I.hok.fresh (Nat.le_refl _)
  have none_of : ∀ b, s.heap.objs.size ≤ b → s.heap.get? b = none := fun b hb => by
    cases q : s.heap.get? b with
    | none => rfl
    | some o => exact absurd (Nat.lt_of_lt_of_le (Heap.lt_size q) hb) (Nat.lt_irrefl _)
  have hk : ∀ p ∈ ks, IsT X.prog X.w s.heap p.2 p.1 := fun p hp => I.isT (ht p hp)
  refine set_lstW (Post := fun h2 => ∃ L, SetZ X.prog X.w h2 s.heap.objs.size L ∧ Has ks ks.length L ∧ (L.map (·.2)).Nodup) (I.ok.hd hc) pl.isList (fun B J fp wr Gg St s1 R bu W nf nw st g kp fn => ?_) fun h2 tk ⟨L, Z, hs, nd⟩ kp => ?_
  · refine set_walk W _ nf ks D len few hD (fun i v hv => ?_) s.heap hk (none_of _ (Nat.le_refl _)) (fun b hb => none_of b (Nat.le_of_lt (nw b hb))) (by show B.units + 1 < cLine; omega) (its.toArray.size - 0) 0 s1 rfl (Nat.zero_le _) st kp
      ⟨[], #[], 0, _, setF_new g, fun p hp => absurd hp List.not_mem_nil, fun p hp => by simp at hp⟩ fun s2 L es ep t mv Z hs => fn s2 mv ⟨L, Z.z, by rw [← len]; exact hs, Z.nd⟩
    have hv : its[i]? = some v := by simpa using hv
    rw [eits, List.getElem?_map] at hv
    obtain ⟨p, hp, e⟩ := Option.map_eq_some_iff.mp hv
    exact ⟨p, hp, e.symm⟩
  · refine ⟨.ref s.heap.objs.size, _, I.laid (t' := tk) kp (Nat.le_refl _) (setHO_ok Z), rfl, q _ L hn hs.sub (fun p hp => hs.all p (by rw [List.take_length]; exact hp)) nd⟩
end
end DL

/-! DMze: sorted(set(xs)) of tuples of whole numbers. -/
namespace DL
open PySem PySem.Spec PyProof.Rows L2
abbrev tI (k : List Int) : PyData := .tuple (k.map PyData.int)
section
variable {X : Cx} {pins : List (Addr × Obj)} {σ : L2.St} {H : Hp} {s : Shared}
theorem inv_like {s' : Shared} (J : Inv X pins σ H s) (h : s'.heap = s.heap) (g : s'.gens = s.gens) (o : s'.os = s.os) : Inv X pins σ H s' := by
  obtain ⟨h', g', d', t', o'⟩ := s'
  simp only at h g o
  subst h g o
  exact ⟨J.ok, J.os, J.bare, J.base, J.loc, J.cell, J.free, J.freeC, J.pin, J.hok, J.len⟩
theorem relI {w : World} {K : PySem.W.Frag} : ∀ {k : List Int} {vs : List V}, RelAll w K H (k.map PyData.int) vs → vs = k.map V.int
  | [], _, h => by cases h; rfl
  | i :: k, _, h => by
    cases h with
    | cons h1 h2 =>
      cases h1
      rw [relI h2]; rfl
theorem relI' {w : World} {K : PySem.W.Frag} : ∀ (k : List Int), RelAll w K H (k.map PyData.int) (k.map V.int)
  | [] => .nil
  | i :: k => .cons (.int i) (relI' k)
theorem alike_tI {ms : List (List Int)} (h : ∀ k ∈ ms, k ≠ []) : PySem.W.AllAlike (ms.map tI) ∧ PySem.W.Sortable (ms.map tI) ∧ ∀ d ∈ ms.map tI, d.depth ≤ 60 := by
  refine ⟨PySem.W.AllAlike.of fun x y => PySem.W.alike_ints x y, .inl fun d hd => ?_, fun d hd => ?_⟩
  · obtain ⟨k, hk, rfl⟩ := List.mem_map.mp hd
    cases k with
    | nil => exact absurd rfl (h _ hk)
    | cons i k => exact ⟨_, _, rfl⟩
  · obtain ⟨k, hk, rfl⟩ := List.mem_map.mp hd
    have : PyData.depthAll (k.map PyData.int) ≤ 1 := by
      clear hk hd
      induction k with
      | nil => unfold PyData.depthAll; simp
      | cons i k ih => rw [List.map_cons]; unfold PyData.depthAll PyData.depth; omega
    show PyData.depthAll (k.map PyData.int) + 1 ≤ 60
    omega
theorem perm_back {α β : Type} (f : α → β) : ∀ {L : List α} {vs : List β}, vs.Perm (L.map f) → ∃ L1 : List α, L1.Perm L ∧ vs = L1.map f
  | [], vs, h => ⟨[], .refl _, List.perm_nil.mp h⟩
  | x :: L, vs, h => by
    have hm : f x ∈ vs := h.mem_iff.mpr List.mem_cons_self
    obtain ⟨l1, l2, rfl⟩ := List.append_of_mem hm
    have h2 : (f x :: (l1 ++ l2)).Perm (f x :: L.map f) := List.perm_middle.symm.trans h
    obtain ⟨L1, p1, e⟩ := perm_back f (L := L) (List.Perm.cons_inv h2)
    obtain ⟨m1, m2, rfl, rfl, rfl⟩ := List.map_eq_append_iff.mp e.symm
    exact ⟨m1 ++ x :: m2, List.perm_middle.trans (p1.cons x), by rw [List.map_append, List.map_cons]⟩
def rSortZ (K : PySem.W.Frag) (P : Program) (w : World) : List V → Hp → VK → Prop := fun vs H Q => ∃ a L, vs = [V.ref a] ∧ H a = some (setHO P w a L) ∧ (∀ q ∈ L, Rel w K H (tI q.2) (.ref q.1) ∧ q.2 ≠ []) ∧ L.length < 150 ∧
  ∀ (ms : List (List Int)) (p : Addr) (us : List V), ms.Perm (L.map (·.2)) → RelAll w K H ((ms.map tI).mergeSort (PySem.W.dataLe false id)) us → H p = none → us.length ≤ sizeLine → Q (.ref p) (upd H p (.lst us))
theorem cr_sortZ {k : Nat} (hc : X.calm = true) (hr : Room k X.A) : CallR X (.builtin "sorted") (rSortZ X.K X.prog X.w) := by
  intro pins s σ H vs us Q I r h
  obtain ⟨a, L, rfl, ha, hL, few, q⟩ := h
  rw [Vals.ref1 r]
  obtain ⟨es, ep, t, ⟨o, ho, hex, hd⟩, rows, T, nd, fit, led⟩ : SetZ X.prog X.w s.heap a L := (I.hok a _ ha).1
  have hh := I.ok.hd hc
  have un := hr.un
  have sl := rows_size rows
  refine Calls.call_function_entry kind_sorted plain_sorted entry_sorted (args_sorted1 _) ?_
  unfold Builtin.«sorted»
  refine wpAny_bind (m := checkCount "sorted" 1 1 _) (wpAny_pure ?_)
  refine wpAny_bind (collect_set (A := X.A.in1) hh ⟨o, ho, hex.1, hd⟩ fit (by unfold scanBound; omega) T.ris led fun s1 vs k1 hz g1 o1 pm => ?_)
  have I1 : Inv X pins σ H s1 := inv_like (I.kept (t' := s1.toks) k1) rfl g1 o1
  have hes : es.toList.map (·.2) = L.map fun q => Value.ref q.1 := by
    rw [rows]
    unfold rowsOf
    rw [List.map_map]; rfl
  rw [hes] at pm
  -- the members, in the set's own order
  obtain ⟨L1, pL, rfl⟩ : ∃ L1 : List (Addr × List Int), L1.Perm L ∧ vs = L1.map fun q => Value.ref q.1 := perm_back _ pm
  have eus : PySem.W.EachIs (fun u d => ∃ v, RelV v u ∧ Rel X.w X.K H d v) (L1.map fun q => Value.ref q.1) ((L1.map (·.2)).map tI) := by
    have sub : ∀ q ∈ L1, Rel X.w X.K H (tI q.2) (.ref q.1) := fun q hq => (hL q (pL.mem_iff.mp hq)).1
    clear pm pL
    induction L1 with
    | nil => exact .nil
    | cons q L1 ih => exact .cons ⟨.ref q.1, rfl, sub q List.mem_cons_self⟩ (ih fun r hr => sub r (List.mem_cons_of_mem _ hr))
  generalize hds : (L1.map (·.2)).map tI = ds at eus
  obtain ⟨hal, hso, hdp⟩ : PySem.W.AllAlike ds ∧ PySem.W.Sortable ds ∧ ∀ d ∈ ds, d.depth ≤ 60 := by
    rw [← hds]
    exact alike_tI fun k hk => by
      obtain ⟨q, hq, rfl⟩ := List.mem_map.mp hk
      exact (hL q (pL.mem_iff.mp hq)).2
  generalize hvs : (L1.map fun q => Value.ref q.1) = vs at eus
  have lv := eus.length
  have ll : ds.length < 150 := by rw [← hds, List.length_map, List.length_map, pL.length_eq]; exact few
  refine wpAny_bind (wpAny_newList ?_ (by rw [sizeLine_eq]; omega))
  have hol : (s1.heap.push { cls := .type "list", data := .seq vs.toArray }).get? s1.heap.objs.size = some (seqObj "list" vs.toArray 0) := Heap.get?_push_size _ rfl
  have hn : H s1.heap.objs.size = none := I1.hok.fresh (Nat.le_refl _)
  refine wpAny_bind (wpAny_holding (wpAny_call_entry_kw slot_list_sort ⟨_, hol, rfl⟩ entry_list_sort ?body (args_list_sort _)))
  case body =>
    show wpAny (model X.prog X.w) X.A.in1.in1 (Builtin.«list.sort» ⟨[.ref s1.heap.objs.size], []⟩) _ _ _
    have ke : ∀ b o, s1.heap.get? b = some o → (PySem.W.sortingHeap (s1.heap.push { cls := .type "list", data := .seq vs.toArray }) s1.heap.objs.size vs).get? b = some o := fun b o e => PySem.W.sortingHeap_old (Nat.ne_of_lt (Heap.lt_size e)) (Heap.get?_push_of_some _ e)
    have er : PySem.W.EachIs (fun u d => ∃ as, Reads (PySem.W.sortingHeap (s1.heap.push { cls := .type "list", data := .seq vs.toArray }) s1.heap.objs.size vs) u d as) vs ds := (each_reads I1 eus).mono fun _ _ ⟨as, q⟩ => ⟨as, PyProof.Rows.Reads.keeps ke q⟩
    refine PySem.W.list_sort_vals (κ := PySem.W.dataKind (PySem.W.sortingHeap (s1.heap.push { cls := .type "list", data := .seq vs.toArray }) s1.heap.objs.size vs) ds) hol (PySem.W.SortsAt.data er hal hso fun e he => ?_) (by rw [sizeLine_eq]; omega) ⟨_, rfl, ?_⟩
    · have := hdp e he
      show X.A.units + 1 + 1 + _ < _
      omega
    · obtain ⟨c, hat⟩ := sortedHeap_at (out := (PySem.W.sortVals (PySem.W.dataKind (PySem.W.sortingHeap (s1.heap.push { cls := .type "list", data := .seq vs.toArray }) s1.heap.objs.size vs) ds) false vs vs).toArray) hol
      have eo : PySem.W.EachIs (fun u d => ∃ v, RelV v u ∧ Rel X.w X.K H d v) (PySem.W.sortVals (PySem.W.dataKind (PySem.W.sortingHeap (s1.heap.push { cls := .type "list", data := .seq vs.toArray }) s1.heap.objs.size vs) ds) false vs vs) (ds.mergeSort (PySem.W.dataLe false id)) := by
        have := PySem.W.sortVals_data (enc := id) (h' := PySem.W.sortingHeap (s1.heap.push { cls := .type "list", data := .seq vs.toArray }) s1.heap.objs.size vs) (bs := ds) false eus er (by rw [List.map_id]; exact hal)
        rw [List.map_id] at this
        exact this
      obtain ⟨ws, rv, ra⟩ := vals_of_each eo
      have hl : ws.length = ds.length := by rw [← RelAll.length ra, List.length_mergeSort]
      have wz : ws.length ≤ sizeLine := by rw [sizeLine_eq]; omega
      have I2 := I1.laid (t' := s1.toks) (o := .lst ws) (h' := sortedHeap (s1.heap.push { cls := .type "list", data := .seq vs.toArray }) s1.heap.objs.size vs (PySem.W.sortVals (PySem.W.dataKind (PySem.W.sortingHeap (s1.heap.push { cls := .type "list", data := .seq vs.toArray }) s1.heap.objs.size vs) ds) false vs vs).toArray) (fun b ob e => (sortedHeap_old (Nat.ne_of_lt (Heap.lt_size e)) (by rw [Heap.size_push]; exact Nat.lt_succ_of_lt (Heap.lt_size e))).trans (Heap.get?_push_of_some _ e)) (Nat.le_refl _) ⟨wz, _, c, rv, hat⟩
      rw [← hds] at ra
      exact wpAny_pure ⟨_, rfl, .ref s1.heap.objs.size, _, I2, rfl, q (L1.map (·.2)) _ ws (pL.map (·.2)) ra hn wz⟩
/-- the tuples of a list, told by their addresses -/
theorem tups_of {w : World} {K : PySem.W.Frag} : ∀ {ks : List (List Int)} {vs : List V}, RelAll w K H (ks.map tI) vs → ∃ L : List (Addr × List Int), L.map (·.2) = ks ∧ vs = L.map (fun q => V.ref q.1) ∧ ∀ q ∈ L, Rel w K H (tI q.2) (.ref q.1)
  | [], _, h => by cases h; exact ⟨[], rfl, rfl, fun q hq => absurd hq List.not_mem_nil⟩
  | k :: ks, _, h => by
    cases h with
    | cons h1 h2 =>
      obtain ⟨L, e1, e2, hL⟩ := tups_of h2
      cases h1 with
      | @tup a _ _ ht ha =>
        refine ⟨(a, k) :: L, by rw [List.map_cons, e1], by rw [List.map_cons, e2], fun q hq => ?_⟩
        rcases List.mem_cons.mp hq with rfl | hq
        · exact .tup ht ha
        · exact hL q hq
theorem rel_sq {w : World} {K : PySem.W.Frag} {a : Addr} {k : List Int} (h : Rel w K H (tI k) (.ref a)) : SqT K H a (k.map V.int) := by
  cases h with
  | tup ht ha =>
    rw [relI ha] at ht
    exact ht.sq
/-- sorted(set(e)), tuples of whole numbers -/
def dSortSetT (t : DE) : DA := fun τ G Q => t τ G fun x G1 => ∃ ks D : List (List Int), see G1 x = some (.list (ks.map tI)) ∧ (∀ k ∈ ks, k ≠ []) ∧ D.length < 150 ∧ (∀ k ∈ ks, k ∈ D) ∧ ∀ ms : List (List Int), ms.Nodup → (∀ k, k ∈ ms ↔ k ∈ ks) → Q (((ms.map tI).mergeSort (PySem.W.dataLe false id)).map Va.dat) G1
theorem ql_sortsetT {k : Nat} {e : Expr} {t : DE} {p q pos pos2 : Pos} (hc : X.calm = true) (hr : Room k X.A) (hm : X.mg "sorted" = none) (hv : bootBuiltins "sorted" = some (.builtin "sorted")) (hm2 : X.mg "set" = none) (hv2 : bootBuiltins "set" = some (.type "set")) (ha : PE X e (upE X.w X.K t)) (hg : Gl X "sorted" := by rfl) (hg2 : Gl X "set" := by rfl)
    (he : starEach [e] X.env = (false, eval e X.env) :: starEach [] X.env := by rfl) (hpl : (backTo pos2 (starEach [] X.env)).any (·.1) = false := by rfl)
    (he2 : starEach [.Call (.Name "set" q) [e] [] pos2] X.env = (false, eval (.Call (.Name "set" q) [e] [] pos2) X.env) :: starEach [] X.env := by rfl) (hpl2 : (backTo pos (starEach [] X.env)).any (·.1) = false := by rfl) :
    PE X (.Call (.Name "sorted" p) [.Call (.Name "set" q) [e] [] pos2] [] pos) (upL X.w X.K (dSortSetT t)) :=
  (pe_callB (cr_sortZ hc hr) hg hm hv (pa_cons (pe_callTy (cr_setT hc (by have := hr.un; omega)) hg2 hm2 hv2 (pa_cons ha pa_nil he) (by decide) (by decide) he hpl) pa_nil he2) (by decide) (by decide) he2 hpl2).imp fun σ H Q h => by
    obtain ⟨τ, G, Q0, ab, q, hQ⟩ := h
    refine ⟨τ, G, _, ab, q, fun x G1 v H1 q1 r1 a1 s1 => ?_⟩
    obtain ⟨ks, D, sd, ne, hD, hk, q2⟩ := q1
    obtain ⟨l, vs, rfl, hl, hv⟩ := now_list (see_now a1 r1 sd)
    obtain ⟨L0, e1, e2, hL0⟩ := tups_of hv
    subst e2
    have k0 : ∀ q ∈ L0, q.2 ∈ ks := fun q hq => by rw [← e1]; exact List.mem_map.mpr ⟨q, hq, rfl⟩
    refine ⟨l, L0, D, rfl, .inl hl, fun q hq => rel_sq (hL0 q hq), fun q hq => hk _ (k0 q hq), hD, fun a L hna sub all nd => ?_⟩
    have s2 : Step H1 G1 (upd H1 a (setHO X.prog X.w a L)) G1 := Step.new hna
    refine ⟨a, L, rfl, upd_same, fun q hq => ⟨(hL0 q (sub q hq)).ext s2.ext, ne _ (k0 q (sub q hq))⟩, ?_, fun ms p us pm ra hnp wz => ?_⟩
    · have := nd_le (L := L.map (·.2)) (D := D) nd fun x hx => by
        obtain ⟨q, hq, rfl⟩ := List.mem_map.mp hx
        exact hk _ (k0 q (sub q hq))
      rw [List.length_map] at this
      omega
    · have s3 : Step (upd H1 a (setHO X.prog X.w a L)) G1 (upd (upd H1 a (setHO X.prog X.w a L)) p (.lst us)) G1 := Step.new hnp
      have s13 := (s1.trans s2).trans s3
      have hap : a ≠ p := fun e => by rw [← e, upd_same] at hnp; cases hnp
      have hp1 : H1 p = none := by rw [upd_ne (Ne.symm hap)] at hnp; exact hnp
      have a3 : AbsG X.w X.K (upd (upd H1 a (setHO X.prog X.w a L)) p (.lst us)) G1 := (a1.new hna).new hnp
      refine hQ _ G1 us p _ (q2 ms (pm.nodup_iff.mpr nd) fun k => ⟨fun hm => ?_, fun hm => ?_⟩) (RelAll.vas (RelAll.ext s3.ext ra)) upd_same wz (a1.off hp1) a3 (fun b o ne hb gb => s13.keep b o hb gb) s13.ext fun gp => ?_
      · obtain ⟨q, hq, rfl⟩ := List.mem_map.mp (pm.mem_iff.mp hm)
        exact k0 q (sub q hq)
      · rw [← e1] at hm
        obtain ⟨q, hq, rfl⟩ := List.mem_map.mp hm
        exact pm.mem_iff.mpr (all q hq)
      · cases e : H p with
        | none => rfl
        | some o => have := (s1.keep p o e gp).1; rw [hp1] at this; cases this
end
end DL

namespace DL
open PySem PySem.Spec PyProof.Rows L2 DL

/-! plain words for readings -/
theorem ret_ok {Q : VQ} {x : Va} {G : Gp} (h : Q x G) : (bodyEnds Q).rt x G := endQ.of h
theorem nx_ok {Q : VQ} {τ : Ts} {G : Gp} (h : Q (.dat .none) G) : (bodyEnds Q).nx τ G := endQ.of h
theorem see_d {G : Gp} {d : PyData} : see G (.dat d) = some d := rfl
theorem all_bools {bs : List Bool} : allF (.list (bs.map PyData.bool)) (.bool (bs.all id)) := by
  refine ⟨fun x hx => ?_, ?_⟩
  · obtain ⟨b, _, rfl⟩ := List.mem_map.mp hx
    exact ⟨b, rfl⟩
  · congr 1
    induction bs with
    | nil => rfl
    | cons b bs ih => simp [List.all_cons, ih, PyData.truthy]
theorem seeL_map {α : Type} (f : α → PyData) : ∀ l : List α, seeL (l.map fun a => Va.dat (f a)) = some (l.map f)
  | [] => rfl
  | a :: l => by rw [List.map_cons, seeL, seeL_map f l]; rfl
/-- a comprehension whose test is always true and whose items are told by f -/
theorem lc_map {g : DG} {te : DE} {τ : Ts} {Q : List Va → Gp → Prop} {G : Gp} (f : Va → Va) : ∀ (xs acc : List Va), (∀ x ∈ xs, ∀ Q', Q' (f x) G → g x τ G fun τ1 G1 => te τ1 G1 Q') → Q (acc ++ xs.map f) G → lcG g dYes te τ Q xs acc G
  | [], acc, _, h => by simpa [lcG] using h
  | x :: xs, acc, hs, h => by
    unfold lcG
    have := hs x List.mem_cons_self (fun y G3 => lcG g dYes te τ Q xs (acc ++ [y]) G3) (lc_map f xs (acc ++ [f x]) (fun y hy => hs y (List.mem_cons_of_mem _ hy)) (by simpa using h))
    simpa only [dYes, if_true] using this
theorem eqF_int (i j : Int) : eqF (.int i) (.int j) = some (.bool (decide (i = j))) := rfl
theorem neF_int (i j : Int) : neF (.int i) (.int j) = some (.bool (!decide (i = j))) := rfl
theorem ixV_dd {G : Gp} {d e : PyData} : ixV G (.dat d) (.dat e) = (ixDF d e).map .dat := rfl
theorem atI_nat {α : Type} {xs : List α} {i : Int} (h0 : 0 ≤ i) (h1 : i < xs.length) : ∃ x, atI xs i = some x ∧ x ∈ xs ∧ xs[i.toNat]? = some x := by
  unfold atI ixN
  rw [if_pos h0, if_pos h1]
  have hl : i.toNat < xs.length := by omega
  exact ⟨xs[i.toNat], by simp [hl], List.getElem_mem hl, by simp [hl]⟩
theorem mulI_l {i j : Int} (h : small i = true) : mulI (.int i) (.int j) = some (.int (i * j)) := by
  unfold mulI
  simp [h]
theorem mulI_r {i j : Int} (h : small j = true) : mulI (.int i) (.int j) = some (.int (i * j)) := by
  unfold mulI
  simp [h]
theorem small_of {i : Int} (h0 : 0 ≤ i) (h1 : i < 18446744073709551616) : small i = true := by
  unfold small
  exact decide_eq_true ⟨by omega, by omega⟩
section
variable {xs : List PyData} {i j : Int} {z : PyData}
theorem lenF_t : lenDF (.tuple xs) z = (z = .int xs.length) := rfl
theorem lenF_l : lenDF (.list xs) z = (z = .int xs.length) := rfl
theorem itemsD_t : itemsD (.tuple xs) = some xs := rfl
theorem itemsD_l : itemsD (.list xs) = some xs := rfl
theorem ixF_t : ixDF (.tuple xs) (.int i) = atI xs i := rfl
theorem ixF_l : ixDF (.list xs) (.int i) = atI xs i := rfl
theorem setO_l {ys : List Va} {a b : Va} {m : MO} : setO (.lst ys) a b m = setL ys a b m := rfl
theorem inDF_t {d : PyData} : inDF d (.tuple xs) = inF d (.tuple xs) := by cases d <;> rfl
theorem inDF_l {d : PyData} : inDF d (.list xs) = inF d (.list xs) := by cases d <;> rfl
theorem notInDF_t {d : PyData} : notInDF d (.tuple xs) = notInF d (.tuple xs) := by cases d <;> rfl
theorem notInDF_l {d : PyData} : notInDF d (.list xs) = notInF d (.list xs) := by cases d <;> rfl
theorem addF_i : addF (.int i) (.int j) = some (.int (i + j)) := rfl
theorem subF_i : subF (.int i) (.int j) = some (.int (i - j)) := rfl
theorem modF_i : modF (.int i) (.int j) = if 0 < j then some (.int (i % j)) else none := rfl
theorem fdivF_i : fdivF (.int i) (.int j) = if 0 < j ∧ j < 1073741824 then some (.int (i / j)) else none := rfl
theorem ltF_i : ltF (.int i) (.int j) = some (.bool (decide (i < j))) := rfl
theorem leF_i : leF (.int i) (.int j) = some (.bool (decide (i ≤ j))) := rfl
theorem gtF_i : gtF (.int i) (.int j) = some (.bool (decide (j < i))) := rfl
theorem geF_i : geF (.int i) (.int j) = some (.bool (decide (j ≤ i))) := rfl
theorem tupF_t : tupF (.tuple xs) z = (z = .tuple xs) := rfl
theorem tupF_l : tupF (.list xs) z = (z = .tuple xs) := rfl
theorem min2F_i : min2F (.int i) (.int j) z = (z = .int (if j < i then j else i)) := rfl
theorem max2F_i : max2F (.int i) (.int j) z = (z = .int (if j > i then j else i)) := rfl
theorem dmF_i : dmF (.int i) (.int j) z = ((0 < j ∧ j < 1073741824) ∧ z = .tuple [.int (i / j), .int (i % j)]) := rfl
theorem absF_i : absF (.int i) z = (z = .int (if i < 0 then -i else i)) := rfl
end
/-- a loop, by the turn -/
theorem loop_ix {g : DG} {tb : DS} {D : DEnds} : ∀ (xs : List Va) (P : Nat → Ts → Gp → Prop) {τ : Ts} {G : Gp}, P 0 τ G →
    (∀ i x τ G, xs[i]? = some x → P i τ G → ∀ N : Ts → Gp → Prop, (∀ τ' G', P (i + 1) τ' G' → N τ' G') → g x τ G fun τ1 G1 => tb { D with nx := N, ct := N, bk := D.nx } τ1 G1) →
    (∀ τ G, P xs.length τ G → D.nx τ G) → loopG g tb D xs τ G
  | [], P, τ, G, h0, _, hd => hd τ G h0
  | x :: xs, P, τ, G, h0, hs, hd => by
    show g x τ G fun τ1 G1 => tb { D with nx := loopG g tb D xs, ct := loopG g tb D xs, bk := D.nx } τ1 G1
    refine hs 0 x τ G rfl h0 _ fun τ' G' p => ?_
    exact loop_ix xs (fun i => P (i + 1)) p (fun i y τ G e p N k => hs (i + 1) y τ G (by simpa using e) p N k) fun τ G p => hd τ G p
/-- a loop over 0, .., n - 1 -/
theorem loop_rg {g : DG} {tb : DS} {D : DEnds} {n : Nat} {k : Int} (hk : k = (n : Nat)) (P : Nat → Ts → Gp → Prop) {τ : Ts} {G : Gp} (h0 : P 0 τ G)
    (hs : ∀ i τ G, i < n → P i τ G → ∀ N : Ts → Gp → Prop, (∀ τ' G', P (i + 1) τ' G' → N τ' G') → g (.dat (.int (i : Nat))) τ G fun τ1 G1 => tb { D with nx := N, ct := N, bk := D.nx } τ1 G1)
    (hd : ∀ τ G, P n τ G → D.nx τ G) : loopG g tb D ((rgD 0 k).map Va.dat) τ G := by
  subst hk
  have hl : ((rgD 0 (n : Nat)).map Va.dat).length = n := by unfold rgD; simp
  refine loop_ix _ P h0 (fun i x τ G e p N kk => ?_) fun τ G p => hd τ G (by rw [hl] at p; exact p)
  have hi : i < n := by
    have := (List.getElem?_eq_some_iff.mp e).1
    rw [hl] at this; exact this
  have ex : x = .dat (.int (i : Nat)) := by
    unfold rgD at e
    rw [List.getElem?_map, List.getElem?_map, List.getElem?_range (by omega)] at e
    have e' := Option.some.inj e
    rw [← e']
    simp
  subst ex
  exact hs i τ G hi p N kk
/-- a comprehension, by the turn: what it has so far, the objects -/
theorem lc_ix {g : DG} {tt : DT} {te : DE} {τ : Ts} {Q : List Va → Gp → Prop} : ∀ (xs : List Va) (P : Nat → List Va → Gp → Prop) {acc : List Va} {G : Gp}, P 0 acc G →
    (∀ i x acc G, xs[i]? = some x → P i acc G → ∀ N : List Va → Gp → Prop, (∀ acc' G', P (i + 1) acc' G' → N acc' G') → g x τ G fun τ1 G1 => tt τ1 G1 fun b G2 => if b = true then te τ1 G2 fun y G3 => N (acc ++ [y]) G3 else N acc G2) →
    (∀ acc G, P xs.length acc G → Q acc G) → lcG g tt te τ Q xs acc G
  | [], P, acc, G, h0, _, hd => hd acc G h0
  | x :: xs, P, acc, G, h0, hs, hd => by
    show g x τ G fun τ1 G1 => tt τ1 G1 fun b G2 => if b = true then te τ1 G2 fun y G3 => lcG g tt te τ Q xs (acc ++ [y]) G3 else lcG g tt te τ Q xs acc G2
    refine hs 0 x acc G rfl h0 (fun acc G => lcG g tt te τ Q xs acc G) fun acc' G' p => ?_
    exact lc_ix xs (fun i => P (i + 1)) p (fun i y acc G e p N k => hs (i + 1) y acc G (by simpa using e) p N k) fun acc G p => hd acc G p
theorem lc_rg {g : DG} {tt : DT} {te : DE} {τ : Ts} {Q : List Va → Gp → Prop} {n : Nat} {k : Int} (hk : k = (n : Nat)) (P : Nat → List Va → Gp → Prop) {acc : List Va} {G : Gp} (h0 : P 0 acc G)
    (hs : ∀ i acc G, i < n → P i acc G → ∀ N : List Va → Gp → Prop, (∀ acc' G', P (i + 1) acc' G' → N acc' G') → g (.dat (.int (i : Nat))) τ G fun τ1 G1 => tt τ1 G1 fun b G2 => if b = true then te τ1 G2 fun y G3 => N (acc ++ [y]) G3 else N acc G2)
    (hd : ∀ acc G, P n acc G → Q acc G) : lcG g tt te τ Q ((rgD 0 k).map Va.dat) acc G := by
  subst hk
  have hl : ((rgD 0 (n : Nat)).map Va.dat).length = n := by unfold rgD; simp
  refine lc_ix _ P h0 (fun i x acc G e p N kk => ?_) fun acc G p => hd acc G (by rw [hl] at p; exact p)
  have hi : i < n := by
    have := (List.getElem?_eq_some_iff.mp e).1
    rw [hl] at this; exact this
  have ex : x = .dat (.int (i : Nat)) := by
    unfold rgD at e
    rw [List.getElem?_map, List.getElem?_map, List.getElem?_range (by omega)] at e
    have e' := Option.some.inj e
    rw [← e']
    simp
  subst ex
  exact hs i acc G hi p N kk

end DL

namespace DL
open PySem PySem.Spec PyProof.Rows L2 DL

/-! deeds as lists of numbers -/
def tN (d : List Nat) : PyData := .tuple (d.map fun n => .int (n : Nat))
def lN (d : List Nat) : PyData := .list (d.map fun n => .int (n : Nat))
def IsDeed (n : Nat) (d : List Nat) : Prop := d.Perm (List.range n)
theorem IsDeed.len {n : Nat} {d : List Nat} (h : IsDeed n d) : d.length = n := by rw [h.length_eq, List.length_range]
theorem IsDeed.lt {n : Nat} {d : List Nat} (h : IsDeed n d) {x : Nat} (hx : x ∈ d) : x < n := by simpa using h.mem_iff.mp hx
theorem IsDeed.mem {n : Nat} {d : List Nat} (h : IsDeed n d) {x : Nat} (hx : x < n) : x ∈ d := h.mem_iff.mpr (by simpa using hx)
theorem IsDeed.nodup {n : Nat} {d : List Nat} (h : IsDeed n d) : d.Nodup := h.nodup_iff.mpr List.nodup_range
theorem rgD_nat (n : Nat) : rgD 0 (n : Nat) = (List.range n).map fun i => PyData.int (i : Nat) := by
  unfold rgD
  have e : (((n : Nat) : Int) - 0).toNat = n := by omega
  rw [e]
  apply List.map_congr_left
  intro i _
  congr 1
  omega
theorem plain_ints (d : List Nat) : PyData.plainAll (d.map fun n => PyData.int (n : Nat)) = true := by
  induction d with
  | nil => rfl
  | cons a d ih => rw [List.map_cons]; unfold PyData.plainAll; rw [ih]; rfl
theorem depth_ints (d : List Nat) : PyData.depthAll (d.map fun n => PyData.int (n : Nat)) ≤ 1 := by
  induction d with
  | nil => decide
  | cons a d ih => rw [List.map_cons]; unfold PyData.depthAll PyData.depth; omega
theorem sort_ints (d : List Nat) : (d.map fun n => PyData.int (n : Nat)).mergeSort (PySem.W.dataLe false id) = (d.mergeSort fun a b => decide (a ≤ b)).map fun n => PyData.int (n : Nat) := by
  rw [List.map_mergeSort (r := fun a b => decide (a ≤ b))]
  intro a _ b _
  have := congrFun (congrFun (PySem.W.dataLe_int (fun n : Nat => ((n : Nat) : Int))) a) b
  show decide (a ≤ b) = PySem.W.dataLe false id (.int (a : Nat)) (.int (b : Nat))
  have e : PySem.W.dataLe false id (.int (a : Nat)) (.int (b : Nat)) = PySem.W.dataLe false (fun n : Nat => PyData.int (n : Nat)) a b := rfl
  rw [e, this]
  simp
theorem IsDeed.sorted {n : Nat} {d : List Nat} (h : IsDeed n d) : (d.mergeSort fun a b => decide (a ≤ b)) = List.range n := by
  have hp : (d.mergeSort fun a b => decide (a ≤ b)).Perm (List.range n) := (List.mergeSort_perm d _).trans h
  have s1 : (d.mergeSort fun a b => decide (a ≤ b)).Pairwise (fun a b => a ≤ b) := by
    have := List.pairwise_mergeSort (le := fun a b : Nat => decide (a ≤ b)) (by intro a b c; simp; omega) (by intro a b; simp; omega) d
    simpa using this
  have s2 : (List.range n).Pairwise (fun a b => a ≤ b) := List.pairwise_le_range
  exact hp.eq_of_pairwise (fun a b _ _ h1 h2 => Nat.le_antisymm h1 h2) s1 s2
theorem sortF_ints {c : PyData} (d : List Nat) (hi : itemsD c = some (d.map fun n => PyData.int (n : Nat))) (hs : ∀ y, c ≠ .str y) : sortF c ((d.mergeSort fun a b => decide (a ≤ b)).map fun n => PyData.int (n : Nat)) := by
  refine ⟨_, hi, hs, ?_, ?_, ?_, (sort_ints d).symm⟩
  · intro a ha b hb
    obtain ⟨m, _, rfl⟩ := List.mem_map.mp ha
    obtain ⟨k, _, rfl⟩ := List.mem_map.mp hb
    rfl
  · refine .inr fun a ha => ?_
    obtain ⟨m, _, rfl⟩ := List.mem_map.mp ha
    exact ⟨by simp, by intro xs; simp⟩
  · intro a ha
    obtain ⟨m, _, rfl⟩ := List.mem_map.mp ha
    show 0 ≤ 60
    omega
theorem fine_lN (d : List Nat) : fine (lN d) = true := by
  have h1 := plain_ints d
  have h2 := depth_ints d
  unfold fine lN PyData.plain PyData.depth
  rw [h1]
  simp
  omega
theorem fine_tN (d : List Nat) : fine (tN d) = true := by
  have h1 := plain_ints d
  have h2 := depth_ints d
  unfold fine tN PyData.plain PyData.depth
  rw [h1]
  simp
  omega
theorem eqv_ints (a b : List Nat) : PyData.eqvAll (a.map fun n => PyData.int (n : Nat)) (b.map fun n => PyData.int (n : Nat)) = decide (a = b) := by
  induction a generalizing b with
  | nil =>
    cases b with
    | nil => rfl
    | cons y b => rfl
  | cons x a ih =>
    cases b with
    | nil => rfl
    | cons y b =>
      rw [List.map_cons, List.map_cons, PySem.W.eqv_all_cons, ih]
      have : PyData.eqv (.int (x : Nat)) (.int (y : Nat)) = decide (x = y) := by
        show decide ((x : Int) = (y : Int)) = decide (x = y)
        exact decide_eq_decide.mpr Int.ofNat_inj
      rw [this]
      simp [Bool.decide_and]
def tP (p : List (List Nat)) : PyData := .tuple (p.map tN)
structure IsPuz (n : Nat) (p : List (List Nat)) : Prop where
  n1 : 1 ≤ n
  n5 : n ≤ 5
  p1 : 1 ≤ p.length
  p3 : p.length ≤ 3
  deed : ∀ d ∈ p, IsDeed n d
theorem IsPuz.cons {n : Nat} {p : List (List Nat)} (h : IsPuz n p) : ∃ d r, p = d :: r ∧ d.length = n := by
  cases p with
  | nil => have := h.p1; simp at this
  | cons d r => exact ⟨d, r, rfl, (h.deed d List.mem_cons_self).len⟩
theorem atI_zero {α : Type} (x : α) (r : List α) : atI (x :: r) 0 = some x := by
  unfold atI ixN
  simp
/-- n different numbers below n are all of them -/
theorem perm_of : ∀ {n : Nat} {l : List Nat}, l.Nodup → (∀ x ∈ l, x < n) → l.length = n → l.Perm (List.range n)
  | 0, l, _, _, h => by
    have : l = [] := List.eq_nil_of_length_eq_zero h
    subst this
    exact .nil
  | n + 1, l, hn, hb, h => by
    by_cases hm : n ∈ l
    · have h1 : (l.erase n).Perm (List.range n) := by
        refine perm_of (hn.erase n) (fun x hx => ?_) (by rw [List.length_erase_of_mem hm]; omega)
        have h2 : x ≠ n ∧ x ∈ l := by
          have := (hn.mem_erase_iff (a := x) (b := n)).mp hx
          exact this
        have := hb x h2.2
        omega
      have h3 : l.Perm (n :: l.erase n) := List.perm_cons_erase hm
      have h4 : (n :: l.erase n).Perm (n :: List.range n) := h1.cons n
      rw [List.range_succ]
      exact (h3.trans h4).trans (List.perm_append_comm (l₁ := [n]) (l₂ := List.range n))
    · exfalso
      have hb' : ∀ x ∈ l, x < n := fun x hx => by
        have := hb x hx
        have : x ≠ n := fun e => hm (e ▸ hx)
        omega
      have hlt : ∀ (m : Nat) (l : List Nat), l.Nodup → (∀ x ∈ l, x < m) → l.length ≤ m := by
        intro m
        induction m with
        | zero =>
          intro l _ hb
          cases l with
          | nil => simp
          | cons a l => exact absurd (hb a List.mem_cons_self) (by omega)
        | succ m ih =>
          intro l hn hb
          by_cases hm : m ∈ l
          · have := ih (l.erase m) (hn.erase m) fun x hx => by
              have h2 := (hn.mem_erase_iff (a := x) (b := m)).mp hx
              have := hb x h2.2
              have := h2.1
              omega
            rw [List.length_erase_of_mem hm] at this
            omega
          · have := ih l hn fun x hx => by
              have := hb x hx
              have : x ≠ m := fun e => hm (e ▸ hx)
              omega
            omega
      have := hlt n l hn hb'
      omega
/-- the first m of d led on in a ring -/
theorem ring_perm {n m : Nat} {d f : List Nat} (hd : IsDeed n d) (hm : m ≤ n) (hf : f.length = n) (h1 : ∀ j x y, j < m → d[j]? = some x → d[(j + 1) % m]? = some y → f[x]? = some y) (h2 : ∀ j x, m ≤ j → d[j]? = some x → f[x]? = some x) : IsDeed n f := by
  have hl := hd.len
  -- the place that comes behind place j
  have key : ∀ j, j < n → ∃ k, k < n ∧ (j < m → k = (j + 1) % m) ∧ (m ≤ j → k = j) ∧ ∀ x y, d[j]? = some x → d[k]? = some y → f[x]? = some y := fun j hj => by
    by_cases h : j < m
    · refine ⟨(j + 1) % m, Nat.lt_of_lt_of_le (Nat.mod_lt _ (by omega)) hm, fun _ => rfl, fun q => by omega, fun x y e1 e2 => h1 j x y h e1 e2⟩
    · refine ⟨j, hj, fun q => absurd q h, fun _ => rfl, fun x y e1 e2 => ?_⟩
      rw [e1] at e2
      cases e2
      exact h2 j x (by omega) e1
  have at_ : ∀ x, x < n → ∃ j, j < n ∧ d[j]? = some x := fun x hx => by
    obtain ⟨j, hj⟩ := List.getElem?_of_mem (hd.mem hx)
    have := (List.getElem?_eq_some_iff.mp hj).1
    exact ⟨j, by omega, hj⟩
  have val : ∀ x, x < n → ∃ j k y, j < n ∧ k < n ∧ d[j]? = some x ∧ d[k]? = some y ∧ f[x]? = some y ∧ (j < m → k = (j + 1) % m) ∧ (m ≤ j → k = j) := fun x hx => by
    obtain ⟨j, hj, e1⟩ := at_ x hx
    obtain ⟨k, hk, h3, h4, h5⟩ := key j hj
    have e2 : d[k]? = some (d[k]'(by omega)) := List.getElem?_eq_getElem _
    exact ⟨j, k, _, hj, hk, e1, e2, h5 x _ e1 e2, h3, h4⟩
  refine perm_of ?_ (fun y hy => ?_) hf
  · rw [List.nodup_iff_pairwise_ne, List.pairwise_iff_getElem]
    intro a b ha hb hab e0
    have e : f[a]? = f[b]? := by simp [ha, hb, e0]
    obtain ⟨j, k, y, hj, hk, e1, e2, e3, e4, e5⟩ := val a (by omega)
    obtain ⟨j', k', y', hj', hk', e1', e2', e3', e4', e5'⟩ := val b (by omega)
    rw [e3, e3'] at e
    cases e
    have hkk : k = k' := by
      exact (List.getElem?_inj (l := d) (i := k) (j := k') (by omega) hd.nodup).mp (e2.trans e2'.symm)
    subst hkk
    have hjj : j = j' := by
      by_cases h : j < m
      · by_cases h' : j' < m
        · have q := e4 h
          rw [e4' h'] at q
          have a1 : (j + 1) % m = if j + 1 = m then 0 else j + 1 := by
            split
            · rename_i z; rw [z, Nat.mod_self]
            · exact Nat.mod_eq_of_lt (by omega)
          have a2 : (j' + 1) % m = if j' + 1 = m then 0 else j' + 1 := by
            split
            · rename_i z; rw [z, Nat.mod_self]
            · exact Nat.mod_eq_of_lt (by omega)
          rw [a1, a2] at q
          split at q <;> split at q <;> omega
        · have q := e4 h
          have q' := e5' (by omega)
          have := Nat.mod_lt (j + 1) (show 0 < m by omega)
          omega
      · by_cases h' : j' < m
        · have q := e5 (by omega)
          have q' := e4' h'
          have := Nat.mod_lt (j' + 1) (show 0 < m by omega)
          omega
        · have q := e5 (by omega)
          have q' := e5' (by omega)
          omega
    subst hjj
    rw [e1] at e1'
    cases e1'
    omega
  · obtain ⟨a, ha⟩ := List.getElem?_of_mem hy
    have := (List.getElem?_eq_some_iff.mp ha).1
    obtain ⟨j, k, y', hj, hk, e1, e2, e3, _⟩ := val a (by omega)
    rw [ha] at e3
    cases e3
    exact hd.lt (List.mem_of_getElem? e2)

end DL

namespace DL
open PySem PySem.Spec PyProof.Rows L2 DL

/-! data that can be shown -/
structure Shw (d : PyData) (w k : Nat) : Prop where
  s : d.showable = true
  h : d.hasDict = false
  dp : d.depth ≤ k
  l : d.leavesShort 13 = true
  w : d.weight ≤ w
theorem Shw.mono {d : PyData} {w k w' k' : Nat} (x : Shw d w k) (hw : w ≤ w') (hk : k ≤ k') : Shw d w' k' := ⟨x.s, x.h, Nat.le_trans x.dp hk, x.l, Nat.le_trans x.w hw⟩
theorem shw_int {i : Int} (h : i.natAbs < 10 ^ 12) : Shw (.int i) 40 0 := by
  have hl : i.natAbs.log2 < 40 := by
    by_cases h0 : i.natAbs = 0
    · rw [h0]; decide
    · exact (Nat.log2_lt h0).mpr (Nat.lt_of_lt_of_le h (by decide))
  refine ⟨?_, rfl, Nat.le_refl _, ?_, ?_⟩
  · unfold PyData.showable
    exact decide_eq_true (by omega)
  · unfold PyData.leavesShort PyData.shown
    refine decide_eq_true ?_
    have := int_text_length_le10 (a := i) (k := 12) (by decide) h
    show (Str.ofString (toString i)).length ≤ 13
    rw [PySem.ofString_length]
    exact this
  · unfold PyData.weight
    split <;> omega
theorem shw_all {w k : Nat} : ∀ {xs : List PyData}, (∀ x ∈ xs, Shw x w k) → PyData.showableAll xs = true ∧ PyData.hasDictAll xs = false ∧ PyData.depthAll xs ≤ k + 1 ∧ PyData.leavesShortAll 13 xs = true ∧ PyData.weightAll xs ≤ xs.length * (w + 1)
  | [], _ => ⟨rfl, rfl, by unfold PyData.depthAll; omega, rfl, by unfold PyData.weightAll; omega⟩
  | x :: xs, h => by
    obtain ⟨h1, h2, h3, h4, h5⟩ := shw_all (fun y hy => h y (List.mem_cons_of_mem _ hy))
    have hx := h x List.mem_cons_self
    refine ⟨?_, ?_, ?_, ?_, ?_⟩
    · unfold PyData.showableAll; rw [hx.s, h1]; rfl
    · unfold PyData.hasDictAll; rw [hx.h, h2]; rfl
    · have := hx.dp
      unfold PyData.depthAll
      omega
    · unfold PyData.leavesShortAll; rw [hx.l, h4]; rfl
    · have := hx.w
      unfold PyData.weightAll
      rw [List.length_cons, Nat.succ_mul]
      omega
theorem shw_tuple {w k : Nat} {xs : List PyData} (h : ∀ x ∈ xs, Shw x w k) : Shw (.tuple xs) (xs.length * (w + 1)) (k + 2) := by
  obtain ⟨h1, h2, h3, h4, h5⟩ := shw_all h
  exact ⟨by unfold PyData.showable; exact h1, by unfold PyData.hasDict; exact h2, by unfold PyData.depth; omega, by unfold PyData.leavesShort; exact h4, by unfold PyData.weight; exact h5⟩
theorem shw_list {w k : Nat} {xs : List PyData} (h : ∀ x ∈ xs, Shw x w k) : Shw (.list xs) (xs.length * (w + 1)) (k + 2) := by
  obtain ⟨h1, h2, h3, h4, h5⟩ := shw_all h
  exact ⟨by unfold PyData.showable; exact h1, by unfold PyData.hasDict; exact h2, by unfold PyData.depth; omega, by unfold PyData.leavesShort; exact h4, by unfold PyData.weight; exact h5⟩
theorem reprF_of {d : PyData} {w k : Nat} (x : Shw d w k) (hw : w ≤ 2 ^ 20) (hk : k ≤ 60) : reprF d (.str d.shown) :=
  ⟨x.s, x.h, Nat.le_trans x.dp hk, PyData.shown_fits (B := 13) (by decide) (by decide) x.l (Nat.le_trans x.w hw), rfl⟩
theorem neF_str (a : Str) : neF (.str a) (.str a) = some (.bool false) := by
  unfold neF
  rw [show fine (.str a) = true from rfl]
  have : PyData.eqv (.str a) (.str a) = true := SeqAt.eqv_refl_plain _ rfl
  simp [this]
theorem fineAll_ints (l : List Int) : fineAll (l.map PyData.int) = true := by
  have h1 : PyData.plainAll (l.map PyData.int) = true := by
    induction l with
    | nil => rfl
    | cons a l ih => rw [List.map_cons]; unfold PyData.plainAll; rw [ih]; rfl
  have h2 : PyData.depthAll (l.map PyData.int) ≤ 1 := by
    clear h1
    induction l with
    | nil => decide
    | cons a l ih => rw [List.map_cons]; unfold PyData.depthAll PyData.depth; omega
  unfold fineAll
  rw [h1]
  simp
  omega
theorem notIn_ints (i : Int) (l : List Int) : notInF (.int i) (.tuple (l.map PyData.int)) = some (.bool (!((l.map PyData.int).any fun y => PyData.eqv y (.int i)))) := by
  show (if (fineAll (l.map PyData.int) && fine (.int i)) = true then some (PyData.bool (!((l.map PyData.int).any fun y => PyData.eqv y (.int i)))) else none) = _
  rw [fineAll_ints, show fine (.int i) = true from rfl]
  rfl
theorem eqF_bool (a b : Bool) : eqF (.bool a) (.bool b) = some (.bool (decide (a = b))) := by
  cases a <;> cases b <;> rfl
theorem addF_l {a b : List PyData} (h : a.length + b.length ≤ sizeLine) : addF (.list a) (.list b) = some (.list (a ++ b)) := if_pos h
theorem addF_t {a b : List PyData} (h : a.length + b.length ≤ sizeLine) : addF (.tuple a) (.tuple b) = some (.tuple (a ++ b)) := if_pos h

end DL

namespace DL
open PySem PySem.Spec PyProof.Rows L2 DL

/-! parts, enumerate -/
theorem cut_from {α : Type} (xs : List α) (k : Nat) : cutD xs (some (k : Nat)) none = xs.drop k := by
  unfold cutD
  rw [HT.sIx_nat, HT.sIx_none]
  by_cases h : k ≤ xs.length
  · rw [Nat.min_eq_left h]
    exact List.take_of_length_le (by rw [List.length_drop]; omega)
  · rw [Nat.min_eq_right (by omega), List.drop_length, List.drop_eq_nil_of_le (by omega)]
    simp
theorem cut_to {α : Type} (xs : List α) (k : Nat) : cutD xs none (some (k : Nat)) = xs.take k := by
  unfold cutD
  rw [HT.sIx_nat, HT.sIx_none]
  rw [List.drop_zero, Nat.sub_zero]
  by_cases h : k ≤ xs.length
  · rw [Nat.min_eq_left h]
  · rw [Nat.min_eq_right (by omega), List.take_length, List.take_of_length_le (by omega)]
theorem enum_get {ds : List PyData} {i : Nat} {x : Va} (h : ((enumD ds).map Va.dat)[i]? = some x) : ∃ e, ds[i]? = some e ∧ x = .dat (.tuple [.int (i : Nat), e]) := by
  have hl : ((enumD ds).map Va.dat).length = ds.length := by unfold enumD; rw [List.length_map, List.length_map, List.length_zipIdx]
  have hi : i < ds.length := by
    have := (List.getElem?_eq_some_iff.mp h).1
    omega
  refine ⟨ds[i], List.getElem?_eq_getElem hi, ?_⟩
  rw [enum_at (List.getElem?_eq_getElem hi)] at h
  exact (Option.some.inj h).symm
theorem rg_get {a b : Int} {k : Nat} {x : Va} (h : ((rgD a b).map Va.dat)[k]? = some x) : x = .dat (.int (a + (k : Nat))) ∧ k < (b - a).toNat := by
  have hl : ((rgD a b).map Va.dat).length = (b - a).toNat := by unfold rgD; simp
  have hk : k < (b - a).toNat := by
    have := (List.getElem?_eq_some_iff.mp h).1
    omega
  refine ⟨?_, hk⟩
  unfold rgD at h
  rw [List.getElem?_map, List.getElem?_map, List.getElem?_range hk] at h
  exact (Option.some.inj h).symm
theorem rg_len {a b : Int} : ((rgD a b).map Va.dat).length = (b - a).toNat := by unfold rgD; simp
/-- a comprehension over data, with a test, that changes nothing -/
theorem lc_fm {α : Type} {g : DG} {tt : DT} {te : DE} {τ : Ts} {Q : List Va → Gp → Prop} {G : Gp} (h : α → PyData) (b : α → Bool) (f : α → PyData) : ∀ (L : List α) (acc : List Va),
    (∀ a ∈ L, ∀ N : List Va → Gp → Prop, (b a = true → N [.dat (f a)] G) → (b a = false → N [] G) → g (.dat (h a)) τ G fun τ1 G1 => tt τ1 G1 fun c G2 => if c = true then te τ1 G2 fun y G3 => N [y] G3 else N [] G2) →
    Q (acc ++ (L.filter b).map fun a => Va.dat (f a)) G → lcG g tt te τ Q ((L.map h).map Va.dat) acc G
  | [], acc, _, q => by simpa [lcG] using q
  | a :: L, acc, hs, q => by
    have := hs a List.mem_cons_self (fun l G3 => lcG g tt te τ Q ((L.map h).map Va.dat) (acc ++ l) G3) (fun hb => ?_) (fun hb => ?_)
    · simp only [List.append_nil] at this
      exact this
    · refine lc_fm h b f L _ (fun y hy => hs y (List.mem_cons_of_mem _ hy)) ?_
      rw [List.filter_cons_of_pos hb] at q
      simpa [List.append_assoc] using q
    · refine lc_fm h b f L _ (fun y hy => hs y (List.mem_cons_of_mem _ hy)) ?_
      rw [List.filter_cons_of_neg (by rw [hb]; exact Bool.false_ne_true)] at q
      simpa using q
/-- .. without a test -/
theorem lc_m {α : Type} {g : DG} {te : DE} {τ : Ts} {Q : List Va → Gp → Prop} {G : Gp} (h : α → PyData) (f : α → PyData) (L : List α) (acc : List Va)
    (hs : ∀ a ∈ L, ∀ N : Va → Gp → Prop, N (.dat (f a)) G → g (.dat (h a)) τ G fun τ1 G1 => te τ1 G1 N)
    (q : Q (acc ++ L.map fun a => Va.dat (f a)) G) : lcG g dYes te τ Q ((L.map h).map Va.dat) acc G := by
  refine lc_fm h (fun _ => true) f L acc (fun a ha N h1 _ => ?_) (by rw [List.filter_eq_self.mpr fun _ _ => rfl]; exact q)
  have := hs a ha (fun y G3 => N [y] G3) (h1 rfl)
  simpa only [dYes, if_true] using this

end DL

namespace DL
open PySem PySem.Spec PyProof.Rows L2 DL

/-! words, deeds by letter -/
abbrev sC (c : Nat) : PyData := .str ⟨#[c]⟩
def tW (w : List Nat) : PyData := .str ⟨w.toArray⟩
def lets (k : Nat) : List Nat := [88, 89, 90].take k ++ [120, 121, 122].take k
structure IsWord (k : Nat) (w : List Nat) : Prop where
  ok : ∀ c ∈ w, c ∈ lets k
  len : w.length ≤ 100000
def inv (d : List Nat) : List Nat := (List.range d.length).map fun x => d.idxOf x
def mv (s d : List Nat) : List Nat := d.map fun x => s.getD x 0
def ld (p : List (List Nat)) (c : Nat) : List Nat := if c ∈ [120, 121, 122] then p.getD ([120, 121, 122].idxOf c) [] else inv (p.getD ([88, 89, 90].idxOf c) [])
def bh (p : List (List Nat)) (s w : List Nat) : List Nat := w.foldl (fun s c => mv s (ld p c)) s
theorem lets_cases {k c : Nat} (hk : k ≤ 3) (h : c ∈ lets k) : (∃ i, i < k ∧ [88, 89, 90][i]? = some c ∧ c ∉ [120, 121, 122] ∧ [88, 89, 90].idxOf c = i) ∨ ∃ i, i < k ∧ [120, 121, 122][i]? = some c ∧ c ∈ [120, 121, 122] ∧ [120, 121, 122].idxOf c = i := by
  unfold lets at h
  rcases List.mem_append.mp h with h | h
  · left
    obtain ⟨i, hi, e⟩ := List.mem_iff_getElem?.mp h |>.imp fun i e => (⟨(List.getElem?_take ▸ e : (if i < k then [88, 89, 90][i]? else none) = some c), e⟩ : _ ∧ _)
    by_cases hik : i < k
    · rw [if_pos hik] at hi
      refine ⟨i, hik, hi, ?_⟩
      match i, hi with
      | 0, hi => cases hi; decide
      | 1, hi => cases hi; decide
      | 2, hi => cases hi; decide
    · rw [if_neg hik] at hi; cases hi
  · right
    obtain ⟨i, hi, e⟩ := List.mem_iff_getElem?.mp h |>.imp fun i e => (⟨(List.getElem?_take ▸ e : (if i < k then [120, 121, 122][i]? else none) = some c), e⟩ : _ ∧ _)
    by_cases hik : i < k
    · rw [if_pos hik] at hi
      refine ⟨i, hik, hi, ?_⟩
      match i, hi with
      | 0, hi => cases hi; decide
      | 1, hi => cases hi; decide
      | 2, hi => cases hi; decide
    · rw [if_neg hik] at hi; cases hi
theorem inv_deed {n : Nat} {d : List Nat} (h : IsDeed n d) : IsDeed n (inv d) := by
  refine perm_of ?_ (fun x hx => ?_) (by unfold inv; rw [List.length_map, List.length_range, h.len])
  · unfold inv
    rw [h.len]
    refine List.pairwise_map.mpr (List.Pairwise.imp_of_mem ?_ List.nodup_range)
    intro a b ha hb hab e
    have ma := h.mem (by simpa using ha : a < n)
    have mb := h.mem (by simpa using hb : b < n)
    have ea := List.getElem_idxOf (List.idxOf_lt_length_iff.mpr ma)
    have eb := List.getElem_idxOf (List.idxOf_lt_length_iff.mpr mb)
    apply hab
    rw [← ea, ← eb]
    congr 1
  · unfold inv at hx
    obtain ⟨y, hy, rfl⟩ := List.mem_map.mp hx
    rw [h.len] at hy
    have := List.idxOf_lt_length_iff.mpr (h.mem (by simpa using hy : y < n))
    rw [h.len] at this
    exact this
theorem getD_get {s : List Nat} {x : Nat} (h : x < s.length) : s[x]? = some (s.getD x 0) := by
  rw [List.getD_eq_getElem?_getD, List.getElem?_eq_getElem h]; rfl
theorem mv_deed {n : Nat} {s d : List Nat} (hs : IsDeed n s) (hd : IsDeed n d) : IsDeed n (mv s d) := by
  have e : mv s d = d.map fun x => s.getD x 0 := rfl
  rw [e]
  refine (hd.map _).trans ?_
  have : (List.range n).map (fun x => s.getD x 0) = s := by
    apply List.ext_getElem?
    intro i
    rw [List.getElem?_map]
    by_cases hi : i < n
    · rw [List.getElem?_range hi, getD_get (by rw [hs.len]; exact hi)]; rfl
    · rw [List.getElem?_eq_none (by simpa using hi), List.getElem?_eq_none (by rw [hs.len]; omega)]; rfl
  rw [this]
  exact hs
theorem puz_get {n i : Nat} {p : List (List Nat)} (hp : IsPuz n p) (h : i < p.length) : IsDeed n (p.getD i []) ∧ p[i]? = some (p.getD i []) := by
  have : p[i]? = some (p.getD i []) := by rw [List.getD_eq_getElem?_getD, List.getElem?_eq_getElem h]; rfl
  exact ⟨hp.deed _ (List.mem_of_getElem? this), this⟩
theorem ld_deed {n c : Nat} {p : List (List Nat)} (hp : IsPuz n p) (h : c ∈ lets p.length) : IsDeed n (ld p c) := by
  unfold ld
  rcases lets_cases hp.p3 h with ⟨i, hi, _, hn, e⟩ | ⟨i, hi, _, hm, e⟩
  · rw [if_neg hn, e]
    exact inv_deed (puz_get hp hi).1
  · rw [if_pos hm, e]
    exact (puz_get hp hi).1
theorem bh_deed {n : Nat} {p : List (List Nat)} (hp : IsPuz n p) : ∀ {w s : List Nat}, (∀ c ∈ w, c ∈ lets p.length) → IsDeed n s → IsDeed n (bh p s w)
  | [], s, _, hs => hs
  | c :: w, s, h, hs => by
    show IsDeed n (bh p (mv s (ld p c)) w)
    exact bh_deed hp (fun x hx => h x (List.mem_cons_of_mem _ hx)) (mv_deed hs (ld_deed hp (h c List.mem_cons_self)))
theorem bh_take {p : List (List Nat)} {w s : List Nat} {i c : Nat} (h : w[i]? = some c) : bh p s (w.take (i + 1)) = mv (bh p s (w.take i)) (ld p c) := by
  unfold bh
  rw [List.take_add_one, h, List.foldl_append]; rfl
theorem itemsD_w (w : List Nat) : itemsD (tW w) = some (w.map sC) := rfl
theorem lets_len {k : Nat} (hk : k ≤ 3) : (lets k).length = 2 * k := by
  unfold lets
  rw [List.length_append, List.length_take, List.length_take]
  show min k 3 + min k 3 = _
  omega
theorem fineAll_strs (L : List Nat) : fineAll (L.map sC) = true := by
  have : PyData.plainAll (L.map sC) = true ∧ PyData.depthAll (L.map sC) ≤ 1 := by
    induction L with
    | nil => exact ⟨rfl, Nat.zero_le _⟩
    | cons a L ih =>
      refine ⟨?_, ?_⟩
      · rw [List.map_cons]; unfold PyData.plainAll; rw [ih.1]; rfl
      · rw [List.map_cons]; unfold PyData.depthAll
        have := ih.2
        have e : (sC a).depth = 0 := rfl
        rw [e]; omega
  unfold fineAll
  rw [this.1]
  exact decide_eq_true (by omega)
theorem eqv_sC (a b : Nat) : PyData.eqv (sC a) (sC b) = decide (a = b) := by
  show decide ((⟨#[a]⟩ : Str) = ⟨#[b]⟩) = decide (a = b)
  by_cases h : a = b
  · subst h; simp
  · have : ¬ ((⟨#[a]⟩ : Str) = ⟨#[b]⟩) := fun e => h (by injection e with e; injection e with e; injection e)
    simp [h, this]
theorem in_sC (c : Nat) (L : List Nat) : inF (sC c) (.tuple (L.map sC)) = some (.bool (decide (c ∈ L))) := by
  show (if (fineAll (L.map sC) && fine (sC c)) = true then some (PyData.bool ((L.map sC).any fun y => PyData.eqv y (sC c))) else none) = _
  rw [fineAll_strs, show fine (sC c) = true from rfl]
  simp only [Bool.and_self, if_true]
  congr 2
  rw [List.any_map]
  induction L with
  | nil => rfl
  | cons a L ih =>
    rw [List.any_cons, ih]
    show (PyData.eqv (sC a) (sC c) || _) = _
    rw [eqv_sC]
    by_cases h : a = c
    · simp [h]
    · simp [h, Ne.symm h]
theorem shw_str {w : List Nat} {m : Nat} (hl : w.length ≤ m) (hc : ∀ c ∈ w, c < 1000) : Shw (tW w) m 0 := by
  refine ⟨rfl, rfl, Nat.le_refl _, ?_, ?_⟩
  · show (w.all fun c => decide (c < 16 ^ 8)) = true
    rw [List.all_eq_true]
    intro c h
    have := hc c h
    exact decide_eq_true (by omega)
  · show w.length ≤ m
    exact hl
theorem lets_lt {k c : Nat} (h : c ∈ lets k) : c < 1000 := by
  unfold lets at h
  rcases List.mem_append.mp h with h | h
  · have := List.mem_of_mem_take h
    simp at this; omega
  · have := List.mem_of_mem_take h
    simp at this; omega
theorem IsWord.shw {k m : Nat} {w : List Nat} (h : IsWord k w) (hl : w.length ≤ m) : Shw (tW w) m 0 := shw_str hl fun c hc => lets_lt (h.ok c hc)
theorem shw_tN {n : Nat} {d : List Nat} (h : IsDeed n d) (h5 : n ≤ 5) : Shw (tN d) 205 2 := by
  refine Shw.mono (shw_tuple (w := 40) (k := 0) fun x hx => ?_) ?_ (Nat.le_refl _)
  · obtain ⟨i, hi, rfl⟩ := List.mem_map.mp hx
    have := h.lt hi
    exact shw_int (by omega)
  · rw [List.length_map, h.len]; omega
theorem shw_tP {n : Nat} {p : List (List Nat)} (hp : IsPuz n p) : Shw (tP p) 618 4 := by
  refine Shw.mono (shw_tuple (w := 205) (k := 2) fun x hx => ?_) ?_ (Nat.le_refl _)
  · obtain ⟨d, hd, rfl⟩ := List.mem_map.mp hx
    exact shw_tN (hp.deed d hd) hp.n5
  · have := hp.p3
    rw [List.length_map]; omega
/-! ### dicts by letter -/
theorem dkey_sC (a b : Nat) : dkeyEq (sC a) (sC b) = decide (a = b) := by
  show decide (some (NestedKey.text ⟨#[a]⟩) = some (NestedKey.text ⟨#[b]⟩)) = decide (a = b)
  by_cases h : a = b
  · subst h; simp
  · have : ¬ (some (NestedKey.text ⟨#[a]⟩) = some (NestedKey.text ⟨#[b]⟩)) := fun e => h (by injection e with e; injection e with e; injection e with e; injection e with e; injection e)
    simp [h, this]
theorem dlook_sC {α : Type} {f : Nat → α} : ∀ {L : List Nat} {c : Nat}, c ∈ L → dlook (L.map fun c => (sC c, f c)) (sC c) = some (f c)
  | [], c, h => (List.not_mem_nil h).elim
  | a :: L, c, h => by
    by_cases e : a = c
    · subst e
      unfold dlook
      rw [List.map_cons, List.find?_cons_of_pos (by rw [dkey_sC]; exact decide_eq_true rfl)]; rfl
    · have hm : c ∈ L := (List.mem_cons.mp h).resolve_left (Ne.symm e)
      have := dlook_sC (f := f) hm
      unfold dlook at this ⊢
      rw [List.map_cons, List.find?_cons_of_neg (by rw [dkey_sC]; simp [e])]
      exact this
theorem dlook_none {α : Type} {f : Nat → α} : ∀ {L : List Nat} {c : Nat}, c ∉ L → dlook (L.map fun c => (sC c, f c)) (sC c) = none
  | [], c, h => rfl
  | a :: L, c, h => by
    have e : a ≠ c := fun q => h (q ▸ List.mem_cons_self)
    have hm : c ∉ L := fun q => h (List.mem_cons_of_mem _ q)
    have := dlook_none (f := f) hm
    unfold dlook at this ⊢
    rw [List.map_cons, List.find?_cons_of_neg (by rw [dkey_sC]; simp [e])]
    exact this
theorem hom_sC {α : Type} {f : Nat → α} (L : List Nat) (c : Nat) : homB (L.map fun c => (sC c, f c)) (sC c) = true := by
  unfold homB
  rw [List.all_map]
  simp [Function.comp_def, fk]
theorem homAll_sC {α : Type} {f : Nat → α} (L : List Nat) : homAll (L.map fun c => (sC c, f c)) = true := by
  unfold homAll
  rw [List.all_map, List.all_map]
  simp [Function.comp_def, fk]
theorem dmerge_sC {α : Type} {f : Nat → α} : ∀ {L M : List Nat}, (M ++ L).Nodup → dmerge (M.map fun c => (sC c, f c)) (L.map fun c => (sC c, f c)) = (M ++ L).map fun c => (sC c, f c)
  | [], M, _ => by rw [List.append_nil]; rfl
  | a :: L, M, h => by
    have hn : a ∉ M := fun q => by
      have := List.nodup_append.mp h
      exact this.2.2 a q a List.mem_cons_self rfl
    have e : dstore (M.map fun c => (sC c, f c)) (sC a) (f a) = (M ++ [a]).map fun c => (sC c, f c) := by
      unfold dstore
      rw [dlook_none hn, List.map_append]; rfl
    unfold dmerge
    rw [List.map_cons, List.foldl_cons]
    show dmerge (dstore (M.map fun c => (sC c, f c)) (sC a) (f a)) (L.map fun c => (sC c, f c)) = _
    rw [e, dmerge_sC (L := L) (M := M ++ [a]) (by rw [List.append_assoc]; exact h), List.append_assoc]; rfl
theorem lets_nodup (k : Nat) : (lets k).Nodup := by
  unfold lets
  match k with
  | 0 => decide
  | 1 => decide
  | 2 => decide
  | k + 3 =>
    rw [List.take_of_length_le (by simp), List.take_of_length_le (by simp)]
    decide

end DL

namespace DL
open PySem PySem.Spec PyProof.Rows L2 DL

/-! all deeds of n places, and going through all stands -/
def dec : Nat → Nat → List Nat
  | 0, _ => []
  | n + 1, e => e % 5 :: dec n (e / 5)
def enc : List Nat → Nat
  | [] => 0
  | x :: l => x + 5 * enc l
theorem dec_enc : ∀ (l : List Nat), (∀ x ∈ l, x < 5) → dec l.length (enc l) = l
  | [], _ => rfl
  | x :: l, h => by
    have hx := h x List.mem_cons_self
    show (x + 5 * enc l) % 5 :: dec l.length ((x + 5 * enc l) / 5) = _
    rw [show (x + 5 * enc l) % 5 = x by omega, show (x + 5 * enc l) / 5 = enc l by omega, dec_enc l fun y hy => h y (List.mem_cons_of_mem _ hy)]
theorem enc_lt : ∀ (l : List Nat), (∀ x ∈ l, x < 5) → enc l < 5 ^ l.length
  | [], _ => by decide
  | x :: l, h => by
    have hx := h x List.mem_cons_self
    have := enc_lt l fun y hy => h y (List.mem_cons_of_mem _ hy)
    show x + 5 * enc l < 5 ^ (l.length + 1)
    rw [Nat.pow_succ]
    omega
def allDeeds (n : Nat) : List (List Nat) := ((List.range (5 ^ n)).map (dec n)).filter fun d => d.isPerm (List.range n)
theorem mem_all {n : Nat} {d : List Nat} (h : IsDeed n d) (h5 : n ≤ 5) : d ∈ allDeeds n := by
  have hx : ∀ x ∈ d, x < 5 := fun x hx => Nat.lt_of_lt_of_le (h.lt hx) h5
  refine List.mem_filter.mpr ⟨List.mem_map.mpr ⟨enc d, ?_, ?_⟩, List.isPerm_iff.mpr h⟩
  · rw [List.mem_range]
    have := enc_lt d hx
    rw [h.len] at this
    exact this
  · have := dec_enc d hx
    rw [h.len] at this
    exact this
theorem all_len : ∀ {n : Nat}, n ≤ 5 → (allDeeds n).length ≤ 120
  | 0, _ => by decide +kernel
  | 1, _ => by decide +kernel
  | 2, _ => by decide +kernel
  | 3, _ => by decide +kernel
  | 4, _ => by decide +kernel
  | 5, _ => by decide +kernel
  | n + 6, h => by omega
theorem deeds_len {n : Nat} {l : List (List Nat)} (h : l.Nodup) (hd : ∀ d ∈ l, IsDeed n d) (h5 : n ≤ 5) : l.length ≤ 120 :=
  Nat.le_trans (List.Nodup.length_le_of_subset h fun d hx => mem_all (hd d hx) h5) (all_len h5)

abbrev Fs := List (List Nat × List Nat)
def keysF (F : Fs) : List (List Nat) := F.map (·.1)
def findF (F : Fs) (s : List Nat) : Option (List Nat) := (F.find? fun q => decide (q.1 = s)).map (·.2)
def wordAt (F : Fs) (s : List Nat) : List Nat := (findF F s).getD []
def tryL (p : List (List Nat)) (s : List Nat) (F : Fs) (c : Nat) : Fs := if mv s (ld p c) ∈ keysF F then F else F ++ [(mv s (ld p c), wordAt F s ++ [c])]
def visit (p : List (List Nat)) (F : Fs) (s : List Nat) : Fs := (lets p.length).foldl (tryL p s) F
def goF (p : List (List Nat)) (n : Nat) : Nat → Fs
  | 0 => [(List.range n, [])]
  | k + 1 => match (goF p n k)[k]? with
    | some q => visit p (goF p n k) q.1
    | none => goF p n k
theorem fin_ex (p : List (List Nat)) (n : Nat) : ∃ F : Fs, F = goF p n 120 := ⟨_, rfl⟩
noncomputable def fin (p : List (List Nat)) (n : Nat) : Fs := (fin_ex p n).choose
theorem fin_eq (p : List (List Nat)) (n : Nat) : fin p n = goF p n 120 := (fin_ex p n).choose_spec
theorem findF_mem : ∀ {F : Fs} {s : List Nat}, s ∈ keysF F → ∃ w, findF F s = some w ∧ (s, w) ∈ F
  | [], s, h => (List.not_mem_nil h).elim
  | q :: F, s, h => by
    unfold findF
    by_cases e : q.1 = s
    · rw [List.find?_cons, decide_eq_true e]
      subst e
      exact ⟨q.2, rfl, List.mem_cons_self⟩
    · rw [List.find?_cons_of_neg (by simp [e])]
      obtain ⟨w, h1, h2⟩ := findF_mem (F := F) (s := s) ((List.mem_cons.mp h).resolve_left (Ne.symm e))
      exact ⟨w, h1, List.mem_cons_of_mem _ h2⟩
theorem findF_none : ∀ {F : Fs} {s : List Nat}, s ∉ keysF F → findF F s = none
  | [], s, h => rfl
  | q :: F, s, h => by
    unfold findF
    have e : ¬ q.1 = s := fun z => h (by subst z; exact List.mem_cons_self)
    rw [List.find?_cons_of_neg (by simp [e])]
    exact findF_none (F := F) (s := s) fun z => h (List.mem_cons_of_mem _ z)
theorem findF_at : ∀ {F : Fs} {q : List Nat × List Nat}, (keysF F).Nodup → q ∈ F → findF F q.1 = some q.2
  | [], q, _, h => (List.not_mem_nil h).elim
  | r :: F, q, nd, h => by
    unfold findF
    have nd' := List.nodup_cons.mp nd
    rcases List.mem_cons.mp h with rfl | h
    · rw [List.find?_cons, show decide (q.1 = q.1) = true from decide_eq_true rfl]; rfl
    · have e : ¬ r.1 = q.1 := fun z => nd'.1 (List.mem_map.mpr ⟨q, h, z.symm⟩)
      rw [List.find?_cons_of_neg (by simp [e])]
      exact findF_at nd'.2 h
structure Wf (n : Nat) (p : List (List Nat)) (F : Fs) : Prop where
  nd : (keysF F).Nodup
  deed : ∀ q ∈ F, IsDeed n q.1
  ok : ∀ q ∈ F, ∀ c ∈ q.2, c ∈ lets p.length
  to : ∀ q ∈ F, bh p (List.range n) q.2 = q.1
  len : ∀ (i : Nat) (q : List Nat × List Nat), F[i]? = some q → q.2.length ≤ i
theorem Wf.le {n : Nat} {p : List (List Nat)} {F : Fs} (h : Wf n p F) (hp : IsPuz n p) : F.length ≤ 120 := by
  have := deeds_len h.nd (fun d hd => by obtain ⟨q, hq, rfl⟩ := List.mem_map.mp hd; exact h.deed q hq) hp.n5
  unfold keysF at this
  rwa [List.length_map] at this
theorem Wf.key {n : Nat} {p : List (List Nat)} {F : Fs} (h : Wf n p F) {s : List Nat} (hs : s ∈ keysF F) : IsDeed n s := by
  obtain ⟨q, hq, rfl⟩ := List.mem_map.mp hs
  exact h.deed q hq
theorem wf0 (n : Nat) (p : List (List Nat)) : Wf n p [(List.range n, [])] where
  nd := List.nodup_cons.mpr ⟨List.not_mem_nil, List.nodup_nil⟩
  deed q hq := by rw [List.mem_singleton.mp hq]; exact .refl _
  ok q hq := by rw [List.mem_singleton.mp hq]; exact fun c h => (List.not_mem_nil h).elim
  to q hq := by rw [List.mem_singleton.mp hq]; rfl
  len i q e := by
    match i, e with
    | 0, e => cases e; exact Nat.le_refl _
theorem wf_try {n : Nat} {p : List (List Nat)} (hp : IsPuz n p) {F : Fs} (h : Wf n p F) {s : List Nat} (hs : s ∈ keysF F) {c : Nat} (hc : c ∈ lets p.length) : Wf n p (tryL p s F c) := by
  unfold tryL
  split
  · exact h
  · rename_i hn
    obtain ⟨w, hw, hm⟩ := findF_mem hs
    have ew : wordAt F s = w := by unfold wordAt; rw [hw]; rfl
    rw [ew]
    have hsd := h.key hs
    have hnew : IsDeed n (mv s (ld p c)) := mv_deed hsd (ld_deed hp hc)
    refine ⟨?_, fun q hq => ?_, fun q hq => ?_, fun q hq => ?_, fun i q e => ?_⟩
    · unfold keysF
      rw [List.map_append]
      refine List.nodup_append.mpr ⟨h.nd, List.nodup_cons.mpr ⟨List.not_mem_nil, List.nodup_nil⟩, fun a ha b hb => ?_⟩
      rw [List.mem_singleton.mp hb]
      exact fun z => hn (by have z' : a = mv s (ld p c) := z; rw [← z']; exact ha)
    · rcases List.mem_append.mp hq with hq | hq
      · exact h.deed q hq
      · rw [List.mem_singleton.mp hq]; exact hnew
    · rcases List.mem_append.mp hq with hq | hq
      · exact h.ok q hq
      · rw [List.mem_singleton.mp hq]
        intro d hd
        rcases List.mem_append.mp hd with hd | hd
        · exact h.ok _ hm d hd
        · rw [List.mem_singleton.mp hd]; exact hc
    · rcases List.mem_append.mp hq with hq | hq
      · exact h.to q hq
      · rw [List.mem_singleton.mp hq]
        show (w ++ [c]).foldl _ _ = _
        rw [List.foldl_append]
        have := h.to _ hm
        unfold bh at this
        rw [this]; rfl
    · by_cases hi : i < F.length
      · rw [List.getElem?_append_left hi] at e
        exact h.len i q e
      · rw [List.getElem?_append_right (by omega)] at e
        have h0 : i - F.length = 0 := by
          have := (List.getElem?_eq_some_iff.mp e).1
          simp at this; omega
        rw [h0] at e
        cases e
        obtain ⟨j, hj⟩ := List.mem_iff_getElem?.mp hm
        have := h.len j _ hj
        have hjl := (List.getElem?_eq_some_iff.mp hj).1
        rw [List.length_append, List.length_singleton]
        dsimp only at this
        omega
theorem try_mem {p : List (List Nat)} {s t : List Nat} {F : Fs} {c : Nat} (h : t ∈ keysF F) : t ∈ keysF (tryL p s F c) := by
  unfold tryL
  split
  · exact h
  · unfold keysF; rw [List.map_append]; exact List.mem_append_left _ h
theorem try_pre (p : List (List Nat)) (s : List Nat) (F : Fs) (c : Nat) : ∃ M, tryL p s F c = F ++ M := by
  unfold tryL
  split
  · exact ⟨[], by simp⟩
  · exact ⟨_, rfl⟩
theorem fold_pre (p : List (List Nat)) (s : List Nat) : ∀ (L : List Nat) (F : Fs), ∃ M, L.foldl (tryL p s) F = F ++ M
  | [], F => ⟨[], by simp⟩
  | c :: L, F => by
    obtain ⟨M, e⟩ := try_pre p s F c
    obtain ⟨M2, e2⟩ := fold_pre p s L (tryL p s F c)
    rw [List.foldl_cons, e2, e]
    exact ⟨M ++ M2, by rw [List.append_assoc]⟩
theorem wf_fold {n : Nat} {p : List (List Nat)} (hp : IsPuz n p) {s : List Nat} : ∀ {L : List Nat} {F : Fs}, Wf n p F → s ∈ keysF F → (∀ c ∈ L, c ∈ lets p.length) → Wf n p (L.foldl (tryL p s) F)
  | [], F, h, _, _ => h
  | c :: L, F, h, hs, hL => by
    rw [List.foldl_cons]
    exact wf_fold hp (wf_try hp h hs (hL c List.mem_cons_self)) (try_mem hs) fun x hx => hL x (List.mem_cons_of_mem _ hx)
theorem wf_go {n : Nat} {p : List (List Nat)} (hp : IsPuz n p) : ∀ k, Wf n p (goF p n k)
  | 0 => wf0 n p
  | k + 1 => by
    show Wf n p (match (goF p n k)[k]? with | some q => visit p (goF p n k) q.1 | none => goF p n k)
    cases e : (goF p n k)[k]? with
    | none => exact wf_go hp k
    | some q => exact wf_fold hp (wf_go hp k) (List.mem_map.mpr ⟨q, List.mem_of_getElem? e, rfl⟩) fun c h => h
theorem go_succ {p : List (List Nat)} {n k : Nat} {q : List Nat × List Nat} (e : (goF p n k)[k]? = some q) : goF p n (k + 1) = visit p (goF p n k) q.1 := by
  show (match (goF p n k)[k]? with | some q => visit p (goF p n k) q.1 | none => goF p n k) = _
  rw [e]
theorem go_pre (p : List (List Nat)) (n k : Nat) : ∃ M, goF p n (k + 1) = goF p n k ++ M := by
  show ∃ M, (match (goF p n k)[k]? with | some q => visit p (goF p n k) q.1 | none => goF p n k) = _
  cases e : (goF p n k)[k]? with
  | none => exact ⟨[], by simp⟩
  | some q => exact fold_pre p q.1 _ _
theorem go_pre' (p : List (List Nat)) (n k : Nat) : ∀ j, ∃ M, goF p n (k + j) = goF p n k ++ M
  | 0 => ⟨[], by simp⟩
  | j + 1 => by
    obtain ⟨M, e⟩ := go_pre' p n k j
    obtain ⟨M2, e2⟩ := go_pre p n (k + j)
    exact ⟨M ++ M2, by rw [← Nat.add_assoc, e2, e, List.append_assoc]⟩
theorem go_stop {p : List (List Nat)} {n k : Nat} (h : (goF p n k).length ≤ k) : ∀ j, goF p n (k + j) = goF p n k
  | 0 => rfl
  | j + 1 => by
    have ih := go_stop h j
    show (match (goF p n (k + j))[k + j]? with | some q => visit p (goF p n (k + j)) q.1 | none => goF p n (k + j)) = _
    rw [ih, List.getElem?_eq_none (by omega)]
theorem go_fin {p : List (List Nat)} {n k : Nat} (hp : IsPuz n p) (h : (goF p n k).length ≤ k) : goF p n k = fin p n := by
  rw [fin_eq]
  by_cases hk : k ≤ 120
  · obtain ⟨j, hj⟩ := Nat.exists_eq_add_of_le hk
    have := go_stop h j
    rw [← hj] at this
    exact this.symm
  · have h2 := (wf_go hp 120).le hp
    have := go_stop h2 (k - 120)
    rw [show 120 + (k - 120) = k by omega] at this
    exact this
theorem wf_fin {n : Nat} {p : List (List Nat)} (hp : IsPuz n p) : Wf n p (fin p n) := by rw [fin_eq]; exact wf_go hp 120
theorem go_home {p : List (List Nat)} {n : Nat} : ∀ k, ∃ M, goF p n k = (List.range n, []) :: M
  | 0 => ⟨[], rfl⟩
  | k + 1 => by
    obtain ⟨M, e⟩ := go_home (p := p) (n := n) k
    obtain ⟨M2, e2⟩ := go_pre p n k
    exact ⟨M ++ M2, by rw [e2, e]; rfl⟩
/-! ### as a dict -/
def dF (F : Fs) : List (PyData × PyData) := F.map fun q => (tN q.1, tW q.2)
def aF (F : Fs) : List (PyData × Va) := F.map fun q => (tN q.1, Va.dat (tW q.2))
theorem dats_dF (F : Fs) : dats (dF F) = aF F := by
  unfold dats dF aF
  rw [List.map_map]; rfl
theorem nkeys_ints (d : List Nat) : nkeys (d.map fun n => PyData.int (n : Nat)) = some (d.map fun n => NestedKey.num (n : Nat)) := by
  induction d with
  | nil => rfl
  | cons a d ih =>
    rw [List.map_cons, nkeys, ih]; rfl
theorem nkey_tN (d : List Nat) : nkey (tN d) = some (.tup (d.map fun n => NestedKey.num (n : Nat))) := by
  show (nkeys (d.map fun n => PyData.int (n : Nat))).map NestedKey.tup = _
  rw [nkeys_ints]; rfl
theorem tk_tN (d : List Nat) : tk (tN d) = true := by
  show (match nkey (tN d) with | some n => decide (n.depth ≤ 8) | none => false) = true
  rw [nkey_tN]
  refine decide_eq_true ?_
  have : NestedKey.depthAll (d.map fun n => NestedKey.num (n : Nat)) ≤ 1 := by
    induction d with
    | nil => rw [List.map_nil]; unfold NestedKey.depthAll; omega
    | cons a d ih =>
      rw [List.map_cons]
      unfold NestedKey.depthAll
      have : (NestedKey.num (a : Nat)).depth ≤ 1 := by unfold NestedKey.depth; omega
      omega
  unfold NestedKey.depth
  omega
theorem map_int_inj {a b : List Nat} (h : (a.map fun n => NestedKey.num (n : Nat)) = b.map fun n => NestedKey.num (n : Nat)) : a = b := by
  induction a generalizing b with
  | nil => cases b with
    | nil => rfl
    | cons y b => cases h
  | cons x a ih => cases b with
    | nil => cases h
    | cons y b =>
      rw [List.map_cons, List.map_cons] at h
      injection h with h1 h2
      injection h1 with h1
      rw [ih h2, show x = y by omega]
theorem dkey_tN (a b : List Nat) : dkeyEq (tN a) (tN b) = decide (a = b) := by
  unfold dkeyEq
  rw [nkey_tN, nkey_tN]
  by_cases h : a = b
  · subst h; simp
  · have : ¬ (some (NestedKey.tup (a.map fun n => NestedKey.num (n : Nat))) = some (NestedKey.tup (b.map fun n => NestedKey.num (n : Nat)))) := fun e => h (map_int_inj (by injection e with e; injection e))
    simp [h, this]
theorem dlook_tN {α : Type} {f : List Nat → α} (F : Fs) (s : List Nat) : dlook (F.map fun q => (tN q.1, f q.2)) (tN s) = (findF F s).map f := by
  unfold dlook findF
  rw [List.find?_map, Option.map_map, Option.map_map]
  have : ((fun x : PyData × α => dkeyEq x.1 (tN s)) ∘ fun q : List Nat × List Nat => (tN q.1, f q.2)) = fun q => decide (q.1 = s) := by
    funext q
    exact dkey_tN q.1 s
  rw [this]; rfl
theorem hom_tN {α : Type} {f : List Nat × List Nat → α} (F : Fs) (s : List Nat) : homB (F.map fun q => (tN q.1, f q)) (tN s) = true := by
  unfold homB
  rw [tk_tN, List.all_map]
  have : (F.all ((fun p : PyData × α => tk p.1) ∘ fun q : List Nat × List Nat => (tN q.1, f q))) = true := by
    rw [List.all_eq_true]
    intro q _
    exact tk_tN _
  rw [this]; rfl
theorem dstore_new {F : Fs} {s w : List Nat} (h : s ∉ keysF F) : dstore (aF F) (tN s) (.dat (tW w)) = aF (F ++ [(s, w)]) := by
  unfold dstore aF
  rw [dlook_tN (f := fun w => Va.dat (tW w)), findF_none h, List.map_append]; rfl
theorem see_aF {G : Gp} {a : Addr} {F : Fs} (g : G a = some (.dct (aF F))) : see G (.ref a) = some (.dict (dF F)) := by
  show (match G a with | some (.lst xs) => (seeL xs).map PyData.list | some (.dct kvs) => (seeKV kvs).map PyData.dict | _ => none) = _
  rw [g]
  dsimp only
  rw [← dats_dF]
  rw [show dats (dF F) = (dF F).map fun p => (p.1, Va.dat p.2) from rfl, seeKV_dats]; rfl
theorem notIn_dF (F : Fs) (s : List Nat) : notInDF (tN s) (.dict (dF F)) = some (.bool (!decide (s ∈ keysF F))) := by
  show (if homB (dF F) (tN s) then some (PyData.bool (!(dlook (dF F) (tN s)).isSome)) else none) = _
  unfold dF
  rw [hom_tN (f := fun q => tW q.2), dlook_tN (f := tW)]
  simp only [if_true]
  by_cases h : s ∈ keysF F
  · obtain ⟨w, e, _⟩ := findF_mem h
    rw [e, decide_eq_true h]; rfl
  · rw [findF_none h, decide_eq_false h]; rfl
theorem ix_aF {G : Gp} {a : Addr} {F : Fs} {s : List Nat} (g : G a = some (.dct (aF F))) (h : s ∈ keysF F) : ixV G (.ref a) (.dat (tN s)) = some (.dat (tW (wordAt F s))) := by
  unfold ixV
  simp only [g]
  obtain ⟨w, e, _⟩ := findF_mem h
  unfold aF
  rw [hom_tN (f := fun q => Va.dat (tW q.2)), dlook_tN (f := fun w => Va.dat (tW w)), e]
  unfold wordAt
  rw [e]; rfl
theorem ix_dF {F : Fs} {s : List Nat} (h : s ∈ keysF F) : ixDF (.dict (dF F)) (tN s) = some (tW (wordAt F s)) := by
  show (if homB (dF F) (tN s) then dlook (dF F) (tN s) else none) = _
  obtain ⟨w, e, _⟩ := findF_mem h
  unfold dF
  rw [hom_tN (f := fun q => tW q.2), dlook_tN (f := tW), e]
  unfold wordAt
  rw [e]; rfl
theorem addF_w {w : List Nat} {c : Nat} (h : w.length < sizeLine) : addF (tW w) (sC c) = some (tW (w ++ [c])) := by
  show (if w.length + 1 ≤ sizeLine then some (PyData.str ((⟨w.toArray⟩ : Str) ++ (⟨#[c]⟩ : Str))) else none) = _
  rw [if_pos (by omega)]
  show some (PyData.str ⟨w.toArray ++ #[c]⟩) = _
  simp [tW]
theorem word_short {n : Nat} {p : List (List Nat)} {F : Fs} (h : Wf n p F) (hp : IsPuz n p) (s : List Nat) : (wordAt F s).length < 120 := by
  by_cases hs : s ∈ keysF F
  · obtain ⟨w, e, hm⟩ := findF_mem hs
    unfold wordAt
    rw [e]
    obtain ⟨i, hi⟩ := List.mem_iff_getElem?.mp hm
    have h1 := h.len i _ hi
    have h2 := (List.getElem?_eq_some_iff.mp hi).1
    have h3 := h.le hp
    show w.length < 120
    dsimp only at h1
    omega
  · unfold wordAt
    rw [findF_none hs]; decide
theorem fine_ltN (L : List (List Nat)) : fine (.list (L.map tN)) = true := by
  have : PyData.plainAll (L.map tN) = true ∧ PyData.depthAll (L.map tN) ≤ 3 := by
    induction L with
    | nil => exact ⟨rfl, Nat.zero_le _⟩
    | cons a L ih =>
      have hf := fine_tN a
      unfold fine at hf
      rw [Bool.and_eq_true] at hf
      refine ⟨?_, ?_⟩
      · rw [List.map_cons]; unfold PyData.plainAll; rw [ih.1, hf.1]; rfl
      · rw [List.map_cons]; unfold PyData.depthAll
        have h1 := ih.2
        have h2 : (tN a).depth ≤ 2 := by
          show PyData.depthAll (a.map fun n => PyData.int (n : Nat)) + 1 ≤ 2
          have := depth_ints a
          omega
        omega
  unfold fine
  have e : (PyData.list (L.map tN)).plain = PyData.plainAll (L.map tN) := rfl
  rw [e, this.1]
  refine decide_eq_true ?_
  show PyData.depthAll (L.map tN) + 1 ≤ 60
  omega
theorem ne_ltN (L : List (List Nat)) : neF (.list (L.map tN)) (.list []) = some (.bool (!decide (L = []))) := by
  unfold neF
  rw [fine_ltN, show fine (PyData.list []) = true from rfl]
  simp only [Bool.and_self, if_true]
  cases L with
  | nil => rfl
  | cons a L => rfl
/-! ### stands sorted -/
def srt (L : List (List Nat)) : List (List Nat) := L.mergeSort fun a b => PySem.W.dataLe false id (tN a) (tN b)
theorem srt_map (L : List (List Nat)) : (L.map tN).mergeSort (PySem.W.dataLe false id) = (srt L).map tN := by
  unfold srt
  rw [List.map_mergeSort]
  intro a ha b hb
  rfl
theorem mem_srt {L : List (List Nat)} {d : List Nat} : d ∈ srt L ↔ d ∈ L := List.mem_mergeSort
theorem len_srt (L : List (List Nat)) : (srt L).length = L.length := List.length_mergeSort L
theorem alike_ints (a b : List Nat) : PySem.W.alike (tN a) (tN b) = true := by
  show PySem.W.alikeAll (a.map fun n => PyData.int (n : Nat)) (b.map fun n => PyData.int (n : Nat)) = true
  induction a generalizing b with
  | nil => unfold PySem.W.alikeAll; rfl
  | cons x a ih =>
    cases b with
    | nil => unfold PySem.W.alikeAll; rfl
    | cons y b =>
      rw [List.map_cons, List.map_cons]
      unfold PySem.W.alikeAll
      rw [ih b]; rfl
theorem sortF_tN {c : PyData} (L : List (List Nat)) (hL : ∀ d ∈ L, d ≠ []) (hi : itemsD c = some (L.map tN)) (hs : ∀ y, c ≠ .str y) : sortF c ((srt L).map tN) := by
  refine ⟨_, hi, hs, ?_, ?_, ?_, (srt_map L).symm⟩
  · intro a ha b hb
    obtain ⟨m, _, rfl⟩ := List.mem_map.mp ha
    obtain ⟨k, _, rfl⟩ := List.mem_map.mp hb
    exact alike_ints m k
  · refine .inl fun a ha => ?_
    obtain ⟨m, hm, rfl⟩ := List.mem_map.mp ha
    cases m with
    | nil => exact absurd rfl (hL _ hm)
    | cons x r => exact ⟨_, _, rfl⟩
  · intro a ha
    obtain ⟨m, _, rfl⟩ := List.mem_map.mp ha
    show PyData.depthAll (m.map fun n => PyData.int (n : Nat)) + 1 ≤ 60
    have := depth_ints m
    omega
theorem IsDeed.ne {n : Nat} {d : List Nat} (h : IsDeed n d) (h1 : 1 ≤ n) : d ≠ [] := fun e => by
  have := h.len
  rw [e] at this
  simp at this
  omega
theorem items_dF (F : Fs) : itemsD (.dict (dF F)) = some ((keysF F).map tN) := by
  show some ((dF F).map (·.1)) = _
  unfold dF keysF
  rw [List.map_map, List.map_map]; rfl
theorem shw_ltN {n : Nat} {L : List (List Nat)} (hL : ∀ d ∈ L, IsDeed n d) (h5 : n ≤ 5) (hl : L.length ≤ 1000) : Shw (.list (L.map tN)) 206000 4 := by
  refine Shw.mono (shw_list (w := 205) (k := 2) fun x hx => ?_) ?_ (Nat.le_refl _)
  · obtain ⟨d, hd, rfl⟩ := List.mem_map.mp hx
    exact shw_tN (hL d hd) h5
  · rw [List.length_map]; omega

end DL

namespace DL.R
open PySem PySem.Spec PyProof.Rows L2 DL

def c_GREAT : PyData := .tuple [.str (("X" : Str)), .str (("Y" : Str)), .str (("Z" : Str))]
def c_SMALL : PyData := .tuple [.str (("x" : Str)), .str (("y" : Str)), .str (("z" : Str))]
/-- _law_cell: 0 _law_script 1 _law_k -/
def rd__law_cell : DS :=
    (dSeq (dIf (dB (dO2 ltF (dVar 1) (dC1 lenDF (dVar 0)))) (dRet (dIx (dVar 0) (dVar 1))) dNext)
    (dRet (dC (.int 0))))
abbrev sp__law_cell : DSp := spOf 2 0 rd__law_cell

/-- _law_mix: 0 _law_cell_here 1 _law_k 2 _law_some 3 _law_stir -/
def rd__law_mix : DS :=
    (dSeq (dSet 2 (dPure (dDisp (dCons (dC (.int 48271)) (dCons (dC (.int 69621)) (dCons (dC (.int 16807)) (dCons (dC (.int 39373)) (dCons (dC (.int 30269)) (dCons (dC (.int 40014)) (dCons (dC (.int 40692)) (dCons (dC (.int 50021)) (dCons (dC (.int 61687)) (dCons (dC (.int 71993)) (dCons (dC (.int 83869)) (dCons (dC (.int 95561)) (dCons (dC (.int 30307)) dNil))))))))))))))))
    (dSeq (dSet 3 (dO2 addF (dO2 addF (dO2 mulI (dO2 addF (dO2 modF (dVar 0) (dC (.int 2147483647))) (dC (.int 12345))) (dIx (dVar 2) (dO2 modF (dVar 1) (dC (.int 13))))) (dO2 mulI (dC (.int 977)) (dVar 1))) (dO2 mulI (dC (.int 7919)) (dO2 fdivF (dVar 1) (dC (.int 13))))))
    (dSeq (dSet 3 (dO2 modF (dVar 3) (dC (.int 1000000007))))
    (dRet (dO2 fdivF (dO2 modF (dO2 addF (dO2 mulI (dVar 3) (dVar 3)) (dO2 mulI (dC (.int 48271)) (dVar 1))) (dC (.int 1000000007))) (dC (.int 7)))))))
abbrev sp__law_mix : DSp := spOf 2 2 rd__law_mix

/-- _law_box: 0 _law_script 1 _law_k 2 _law_cell_here 3 _law_number 4 _law_j -/
def rd__law_box : DS :=
    (dSeq (dSet 2 (dCall sp__law_cell (dCons (dVar 0) (dCons (dVar 1) dNil))))
    (dSeq (dIf (dB (dO2 eqF (dO2 modF (dVar 2) (dC (.int 2))) (dC (.int 0)))) (dRet (dMut (dDisp (dCons (dO2 fdivF (dC1 absF (dVar 2)) (dC (.int 2))) dNil)))) dNext)
    (dSeq (dSet 3 (dC (.int 0)))
    (dSeq (dFor (dIRg1 (dC (.int 40))) (gN 4)
    (dSet 3 (dO2 addF (dO2 mulI (dVar 3) (dC (.int 142857143))) (dCall sp__law_mix (dCons (dVar 2) (dCons (dVar 4) dNil))))))
    (dRet (dMut (dDisp (dCons (dVar 3) dNil))))))))
abbrev sp__law_box : DSp := spOf 2 3 rd__law_box

/-- _law_take: 0 _law_box_here 1 _law_many 2 _law_left 3 _law_digit -/
def rd__law_take : DS :=
    (dSeq (dAsg (dC2 dmF (dIx (dVar 0) (dC (.int 0))) (dVar 1)) (gTp 2 (gsCons (gN 2) (gsCons (gN 3) gsNil))))
    (dSeq (dAsg (dVar 2) (gIx (dVar 0) (dC (.int 0))))
    (dRet (dVar 3))))
abbrev sp__law_take : DSp := spOf 2 2 rd__law_take

/-- _law_drawn_deed: 0 _law_box_here 1 _law_many 2 _law_left 3 _law_way 4 _law_drawn 5 _law_found 6 _law_size 7 _law_at 8 _law_place -/
def rd__law_drawn_deed : DS :=
    (dSeq (dSet 2 (dMut (dLRg (dR1 (dVar 1)))))
    (dSeq (dSet 3 (dCall sp__law_take (dCons (dVar 0) (dCons (dC (.int 5)) dNil))))
    (dSeq (dSet 4 (dPure (dLc0 (dIRg1 (dVar 1)) (gN 8) dYes (dMt tyL (mLM mPopAt) (dVar 2) (dCons (dCall sp__law_take (dCons (dVar 0) (dCons (dC1 lenDF (dVar 2)) dNil))) dNil)) [8])))
    (dSeq (dSet 5 (dMut (dLRg (dR1 (dVar 1)))))
    (dSeq (dIf (dOr (dB (dO2 eqF (dVar 3) (dC (.int 0)))) (dB (dO2 eqF (dVar 1) (dC (.int 1))))) (dRet (dC1 tupF (dVar 4))) dNext)
    (dSeq (dSet 6 (dC2 min2F (dVar 1) (dIx (dPure (dDisp (dCons (dC (.int 2)) (dCons (dC (.int 3)) (dCons (dVar 1) (dCons (dC (.int 2)) dNil)))))) (dO2 subF (dVar 3) (dC (.int 1))))))
    (dSeq (dFor (dIRg1 (dVar 6)) (gN 7)
    (dAsg (dIx (dVar 4) (dO2 modF (dO2 addF (dVar 7) (dC (.int 1))) (dVar 6))) (gIx (dVar 5) (dIx (dVar 4) (dVar 7)))))
    (dRet (dC1 tupF (dVar 5))))))))))
abbrev sp__law_drawn_deed : DSp := spOf 2 7 rd__law_drawn_deed

/-- _law_drawn_puzzle: 0 _law_box_here 1 _law_most 2 _law_many 3 _law_found 4 _law_turn -/
def rd__law_drawn_puzzle : DS :=
    (dSeq (dSet 2 (dO2 addF (dC (.int 1)) (dCall sp__law_take (dCons (dVar 0) (dCons (dVar 1) dNil)))))
    (dSeq (dSet 3 (dMut (dDisp dNil)))
    (dSeq (dFor (dIRg1 (dO2 addF (dC (.int 1)) (dCall sp__law_take (dCons (dVar 0) (dCons (dC (.int 3)) dNil))))) (gN 4)
    (dDrop (dMt tyL (mLM mAppend) (dVar 3) (dCons (dCall sp__law_drawn_deed (dCons (dVar 0) (dCons (dVar 2) dNil))) dNil))))
    (dRet (dC1 tupF (dVar 3))))))
abbrev sp__law_drawn_puzzle : DSp := spOf 2 3 rd__law_drawn_puzzle

/-- _law_undone: 0 _law_deed 1 _law_found 2 _law_place -/
def rd__law_undone : DS :=
    (dSeq (dSet 1 (dMut (dRep (dMut (dDisp (dCons (dC (.int 0)) dNil))) (dC1 lenDF (dVar 0)))))
    (dSeq (dFor (dIRg1 (dC1 lenDF (dVar 0))) (gN 2)
    (dAsg (dVar 2) (gIx (dVar 1) (dIx (dVar 0) (dVar 2)))))
    (dRet (dC1 tupF (dVar 1)))))
abbrev sp__law_undone : DSp := spOf 1 2 rd__law_undone

/-- _law_deeds: 0 _law_puzzle 1 _law_found 2 _law_at -/
def rd__law_deeds : DS :=
    (dSeq (dSet 1 (dPure (dLc0 (dIRg1 (dC1 lenDF (dVar 0))) (gN 2) dYes (dTup (dCons (dIx (dPure (dDisp (dCons (dC (.str (("X" : Str)))) (dCons (dC (.str (("Y" : Str)))) (dCons (dC (.str (("Z" : Str)))) dNil))))) (dVar 2)) (dCons (dCall sp__law_undone (dCons (dIx (dVar 0) (dVar 2)) dNil)) dNil))) [2])))
    (dRet (dPure (dCat (dVar 1) (dPure (dLc0 (dIRg1 (dC1 lenDF (dVar 0))) (gN 2) dYes (dTup (dCons (dIx (dPure (dDisp (dCons (dC (.str (("x" : Str)))) (dCons (dC (.str (("y" : Str)))) (dCons (dC (.str (("z" : Str)))) dNil))))) (dVar 2)) (dCons (dIx (dVar 0) (dVar 2)) dNil))) [2]))))))
abbrev sp__law_deeds : DSp := spOf 1 2 rd__law_deeds

/-- _law_moved: 0 _law_stand 1 _law_deed 2 _law_place -/
def rd__law_moved : DS :=
    (dRet (dC1 tupF (dPure (dLc0 (dIt (dVar 1)) (gN 2) dYes (dIx (dVar 0) (dVar 2)) [2]))))
abbrev sp__law_moved : DSp := spOf 2 1 rd__law_moved

/-- _law_done: 0 _law_puzzle 1 _law_stand 2 _law_word 3 _law_deeds_here 4 _law_letter -/
def rd__law_done : DS :=
    (dSeq (dSet 3 (dFzE (dDictP (dCall sp__law_deeds (dCons (dVar 0) dNil)))))
    (dSeq (dFor (dIt (dVar 2)) (gN 4)
    (dSet 1 (dCall sp__law_moved (dCons (dVar 1) (dCons (dIx (dVar 3) (dVar 4)) dNil)))))
    (dRet (dVar 1))))
abbrev sp__law_done : DSp := spOf 3 2 rd__law_done

/-- _law_home: 0 _law_puzzle -/
def rd__law_home : DS :=
    (dRet (dTRg (dR1 (dC1 lenDF (dIx (dVar 0) (dC (.int 0)))))))
abbrev sp__law_home : DSp := spOf 1 0 rd__law_home

/-- _law_letters: 0 _law_puzzle -/
def rd__law_letters : DS :=
    (dRet (dPure (dCat (dPure (dSlL (dPure (dDisp (dCons (dC (.str (("X" : Str)))) (dCons (dC (.str (("Y" : Str)))) (dCons (dC (.str (("Z" : Str)))) dNil))))) dNoP (dP (dC1 lenDF (dVar 0))))) (dPure (dSlL (dPure (dDisp (dCons (dC (.str (("x" : Str)))) (dCons (dC (.str (("y" : Str)))) (dCons (dC (.str (("z" : Str)))) dNil))))) dNoP (dP (dC1 lenDF (dVar 0))))))))
abbrev sp__law_letters : DSp := spOf 1 0 rd__law_letters

/-- _law_drawn_word: 0 _law_box_here 1 _law_puzzle 2 _law_most 3 _law_found 4 _law_turn -/
def rd__law_drawn_word : DS :=
    (dSeq (dSet 3 (dC (.str (("" : Str)))))
    (dSeq (dFor (dIRg1 (dCall sp__law_take (dCons (dVar 0) (dCons (dO2 addF (dVar 2) (dC (.int 1))) dNil)))) (gN 4)
    (dSet 3 (dO2 addF (dVar 3) (dIx (dCall sp__law_letters (dCons (dVar 1) dNil)) (dCall sp__law_take (dCons (dVar 0) (dCons (dO2 mulI (dC (.int 2)) (dC1 lenDF (dVar 1))) dNil)))))))
    (dRet (dVar 3))))
abbrev sp__law_drawn_word : DSp := spOf 3 2 rd__law_drawn_word

/-- _law_drawn_stand: 0 _law_box_here 1 _law_puzzle 2 _law_left 3 _law_found -/
def rd__law_drawn_stand : DS :=
    (dSeq (dSet 2 (dMut (dLRg (dR1 (dC1 lenDF (dIx (dVar 1) (dC (.int 0))))))))
    (dSeq (dSet 3 (dMut (dDisp dNil)))
    (dSeq (dWhile (dB (dO2 neF (dVar 2) (dPure (dDisp dNil)))) (dDrop (dMt tyL (mLM mAppend) (dVar 3) (dCons (dMt tyL (mLM mPopAt) (dVar 2) (dCons (dCall sp__law_take (dCons (dVar 0) (dCons (dC1 lenDF (dVar 2)) dNil))) dNil)) dNil))))
    (dRet (dC1 tupF (dVar 3))))))
abbrev sp__law_drawn_stand : DSp := spOf 2 2 rd__law_drawn_stand

/-- _law_least_net: 0 _law_puzzle 1 _law_stand 2 _law_number 3 _law_found 4 _law_turn 5 _law_later 6 _law_one 7 _law_letter 8 _law_deed -/
def rd__law_least_net : DS :=
    (dSeq (dSet 3 (dMut (dDisp (dCons (dTup (dCons (dVar 1) dNil)) dNil))))
    (dSeq (dFor (dIRg1 (dVar 2)) (gN 4)
    (dSeq (dSet 5 (dPure (dL1 listF (dIx (dVar 3) (dNeg (dC (.int 1)))))))
    (dSeq (dFor (dIt (dIx (dVar 3) (dNeg (dC (.int 1))))) (gN 6)
    (dSet 5 (dPure (dCat (dVar 5) (dPure (dLc0 (dIt (dCall sp__law_deeds (dCons (dVar 0) dNil))) (gTp 2 (gsCons (gN 7) (gsCons (gN 8) gsNil))) dYes (dCall sp__law_moved (dCons (dVar 6) (dCons (dVar 8) dNil))) [7, 8]))))))
    (dDrop (dMt tyL (mLM mAppend) (dVar 3) (dCons (dC1 tupF (dPure (dSortSetT (dVar 5)))) dNil))))))
    (dRet (dC1 tupF (dVar 3)))))
abbrev sp__law_least_net : DSp := spOf 3 6 rd__law_least_net

/-- is_whole: 0 thing -/
def rd_is_whole : DS :=
    (dRet (dAndV (dIsi "int" (dVar 0)) (dNotV (dIsi "bool" (dVar 0)))))
abbrev sp_is_whole : DSp := spOf 1 0 rd_is_whole

/-- is_deed: 0 thing 1 one -/
def rd_is_deed : DS :=
    (dSeq (dIf (dOr (dNot (dB (dIsi "tuple" (dVar 0)))) (dNot (dB (dChn leF leF (dC (.int 1)) (dC1 lenDF (dVar 0)) (dC (.int 5)))))) (dRet (dC (.bool false))) dNext)
    (dRet (dAndV (dC1 allF (dPure (dLc0 (dIt (dVar 0)) (gN 1) dYes (dCall sp_is_whole (dCons (dVar 1) dNil)) [1]))) (dO2 eqF (dPure (dL1 sortF (dVar 0))) (dPure (dLRg (dR1 (dC1 lenDF (dVar 0)))))))))
abbrev sp_is_deed : DSp := spOf 1 1 rd_is_deed

/-- is_puzzle: 0 thing 1 one -/
def rd_is_puzzle : DS :=
    (dSeq (dIf (dOr (dNot (dB (dIsi "tuple" (dVar 0)))) (dOr (dNot (dB (dChn leF leF (dC (.int 1)) (dC1 lenDF (dVar 0)) (dC (.int 3))))) (dNot (dB (dC1 allF (dPure (dLc0 (dIt (dVar 0)) (gN 1) dYes (dCall sp_is_deed (dCons (dVar 1) dNil)) [1]))))))) (dRet (dC (.bool false))) dNext)
    (dRet (dC1 allF (dPure (dLc0 (dIt (dVar 0)) (gN 1) dYes (dO2 eqF (dC1 lenDF (dVar 1)) (dC1 lenDF (dIx (dVar 0) (dC (.int 0))))) [1])))))
abbrev sp_is_puzzle : DSp := spOf 1 1 rd_is_puzzle

/-- need_puzzle: 0 puzzle -/
def rd_need_puzzle : DS :=
    (dIf (dNot (dB (dCall sp_is_puzzle (dCons (dVar 0) dNil)))) dNever dNext)
abbrev sp_need_puzzle : DSp := spOf 1 0 rd_need_puzzle

/-- is_stand_of: 0 thing 1 puzzle -/
def rd_is_stand_of : DS :=
    (dRet (dAndV (dCall sp_is_deed (dCons (dVar 0) dNil)) (dO2 eqF (dC1 lenDF (dVar 0)) (dC1 lenDF (dIx (dVar 1) (dC (.int 0)))))))
abbrev sp_is_stand_of : DSp := spOf 2 0 rd_is_stand_of

/-- need_stand: 0 puzzle 1 stand -/
def rd_need_stand : DS :=
    (dIf (dNot (dB (dCall sp_is_stand_of (dCons (dVar 1) (dCons (dVar 0) dNil))))) dNever dNext)
abbrev sp_need_stand : DSp := spOf 2 0 rd_need_stand

/-- need_number: 0 number 1 most -/
def rd_need_number : DS :=
    (dIf (dOr (dNot (dB (dCall sp_is_whole (dCons (dVar 0) dNil)))) (dNot (dB (dChn leF leF (dC (.int 0)) (dVar 0) (dVar 1))))) dNever dNext)
abbrev sp_need_number : DSp := spOf 2 0 rd_need_number

/-- need_asked: 0 puzzle 1 stand 2 number -/
def rd_need_asked : DS :=
    (dSeq (dDrop (dCall sp_need_puzzle (dCons (dVar 0) dNil)))
    (dSeq (dDrop (dCall sp_need_stand (dCons (dVar 0) (dCons (dVar 1) dNil))))
    (dDrop (dCall sp_need_number (dCons (dVar 2) (dCons (dC (.int 4)) dNil))))))
abbrev sp_need_asked : DSp := spOf 3 0 rd_need_asked

/-- moved_by: 0 stand 1 deed 2 place -/
def rd_moved_by : DS :=
    (dRet (dC1 tupF (dPure (dLc0 (dIt (dVar 1)) (gN 2) dYes (dIx (dVar 0) (dVar 2)) [2]))))
abbrev sp_moved_by : DSp := spOf 2 1 rd_moved_by

/-- undone: 0 deed 1 place -/
def rd_undone : DS :=
    (dRet (dC1 tupF (dPure (dLc0 (dIRg1 (dC1 lenDF (dVar 0))) (gN 1) dYes (dMt tyT mTIndex (dVar 0) (dCons (dVar 1) dNil)) [1]))))
abbrev sp_undone : DSp := spOf 1 1 rd_undone

/-- letter_deed: 0 puzzle 1 letter -/
def rd_letter_deed : DS :=
    (dSeq (dIf (dB (dO2 inDF (dVar 1) (dC c_SMALL))) (dRet (dIx (dVar 0) (dMt tyT mTIndex (dC c_SMALL) (dCons (dVar 1) dNil)))) dNext)
    (dRet (dCall sp_undone (dCons (dIx (dVar 0) (dMt tyT mTIndex (dC c_GREAT) (dCons (dVar 1) dNil))) dNil))))
abbrev sp_letter_deed : DSp := spOf 2 0 rd_letter_deed

/-- letters_of: 0 puzzle -/
def rd_letters_of : DS :=
    (dRet (dO2 addF (dSl (dC c_GREAT) dNoP (dP (dC1 lenDF (dVar 0)))) (dSl (dC c_SMALL) dNoP (dP (dC1 lenDF (dVar 0))))))
abbrev sp_letters_of : DSp := spOf 1 0 rd_letters_of

/-- further: 0 puzzle 1 stands 2 found 3 stand 4 letter -/
def rd_further : DS :=
    (dSeq (dSet 2 (dMut (dL1 listF (dVar 1))))
    (dSeq (dFor (dIt (dVar 1)) (gN 3)
    (dDrop (dMt tyL mExtend (dVar 2) (dCons (dMut (dLc0 (dIt (dCall sp_letters_of (dCons (dVar 0) dNil))) (gN 4) dYes (dCall sp_moved_by (dCons (dVar 3) (dCons (dCall sp_letter_deed (dCons (dVar 0) (dCons (dVar 4) dNil))) dNil))) [4])) dNil))))
    (dRet (dC1 tupF (dPure (dSortSetT (dVar 2)))))))
abbrev sp_further : DSp := spOf 2 3 rd_further

/-- net_of: 0 puzzle 1 stand 2 number 3 found 4 turn -/
def rd_net_of : DS :=
    (dSeq (dSet 3 (dMut (dDisp (dCons (dTup (dCons (dVar 1) dNil)) dNil))))
    (dSeq (dFor (dIRg1 (dVar 2)) (gN 4)
    (dDrop (dMt tyL (mLM mAppend) (dVar 3) (dCons (dCall sp_further (dCons (dVar 0) (dCons (dIx (dVar 3) (dNeg (dC (.int 1)))) dNil))) dNil))))
    (dRet (dC1 tupF (dVar 3)))))
abbrev sp_net_of : DSp := spOf 3 2 rd_net_of

/-- meet: 0 one 1 other 2 thing -/
def rd_meet : DS :=
    (dRet (dC1 anyF (dPure (dLc0 (dIt (dVar 0)) (gN 2) dYes (dO2 inDF (dVar 2) (dVar 1)) [2]))))
abbrev sp_meet : DSp := spOf 2 1 rd_meet

/-- home_of: 0 puzzle -/
def rd_home_of : DS :=
    (dRet (dTRg (dR1 (dC1 lenDF (dIx (dVar 0) (dC (.int 0)))))))
abbrev sp_home_of : DSp := spOf 1 0 rd_home_of

/-- net_paper: 0 puzzle 1 stand 2 number 3 other 4 found -/
def rd_net_paper : DS :=
    (dSeq (dDrop (dCall sp_need_asked (dCons (dVar 0) (dCons (dVar 1) (dCons (dVar 2) dNil)))))
    (dSeq (dDrop (dCall sp_need_number (dCons (dVar 3) (dCons (dC (.int 4)) dNil))))
    (dSeq (dSet 4 (dTup (dCons (dCall sp_net_of (dCons (dVar 0) (dCons (dCall sp_home_of (dCons (dVar 0) dNil)) (dCons (dVar 2) dNil)))) (dCons (dCall sp_net_of (dCons (dVar 0) (dCons (dVar 1) (dCons (dVar 3) dNil)))) dNil))))
    (dRet (dIfE (dB (dCall sp_meet (dCons (dIx (dIx (dVar 4) (dC (.int 0))) (dNeg (dC (.int 1)))) (dCons (dIx (dIx (dVar 4) (dC (.int 1))) (dNeg (dC (.int 1)))) dNil)))) (dC .none) (dVar 4))))))
abbrev sp_net_paper : DSp := spOf 4 1 rd_net_paper

/-- law: 0 _law_script 1 _law_k 2 _law_box_here 3 _law_puzzle 4 _law_there 5 _law_stand 6 _law_due 7 _law_number 8 _law_other 9 _law_one -/
def rd_law : DS :=
    (dSeq (dFor (dIRg1 (dC2 max2F (dC (.int 1)) (dC2 min2F (dC1 lenDF (dVar 0)) (dC (.int 3))))) (gN 1)
    (dSeq (dSet 2 (dCall sp__law_box (dCons (dVar 0) (dCons (dVar 1) dNil))))
    (dSeq (dSet 3 (dCall sp__law_drawn_puzzle (dCons (dVar 2) (dCons (dC (.int 5)) dNil))))
    (dSeq (dSet 4 (dCall sp__law_done (dCons (dVar 3) (dCons (dCall sp__law_home (dCons (dVar 3) dNil)) (dCons (dCall sp__law_drawn_word (dCons (dVar 2) (dCons (dVar 3) (dCons (dC (.int 8)) dNil)))) dNil)))))
    (dFor (dIt (dPure (dDisp (dCons (dCall sp__law_drawn_stand (dCons (dVar 2) (dCons (dVar 3) dNil))) (dCons (dVar 4) dNil))))) (gN 5)
    (dSeq (dPar 7 8 (dCons (dCall sp__law_take (dCons (dVar 2) (dCons (dC (.int 5)) dNil))) (dCons (dCall sp__law_take (dCons (dVar 2) (dCons (dC (.int 5)) dNil))) dNil)))
    (dSeq (dSet 6 (dTup (dCons (dCall sp__law_least_net (dCons (dVar 3) (dCons (dCall sp__law_home (dCons (dVar 3) dNil)) (dCons (dVar 7) dNil)))) (dCons (dCall sp__law_least_net (dCons (dVar 3) (dCons (dVar 5) (dCons (dVar 8) dNil)))) dNil))))
    (dSeq (dIf (dB (dO2 neF (dPure (dLc0 (dIt (dIx (dIx (dVar 6) (dC (.int 0))) (dNeg (dC (.int 1))))) (gN 9) (dB (dO2 inDF (dVar 9) (dIx (dIx (dVar 6) (dC (.int 1))) (dNeg (dC (.int 1)))))) (dVar 9) [9])) (dPure (dDisp dNil)))) (dSet 6 (dC .none)) dNext)
    (dIf (dB (dO2 neF (dC1 reprF (dCall sp_net_paper (dCons (dVar 3) (dCons (dVar 5) (dCons (dVar 7) (dCons (dVar 8) dNil)))))) (dC1 reprF (dVar 6)))) (dRet (dC (.bool false))) dNext)))))))))
    (dRet (dC (.bool true))))
abbrev sp_law : DSp := spOf 1 9 rd_law

end DL.R

namespace DL.R
open PySem PySem.Spec PyProof.Rows L2 DL

/-- a whole number, no truth -/
def isW (d : PyData) : Bool := d.isInt && !d.isBool
theorem whole_ok {d : PyData} {G : Gp} {Q : VQ} (h : Q (.dat (.bool (isW d))) G) : sp_is_whole [.dat d] G Q := by
  refine ⟨rfl, ?_⟩
  simp only [rd_is_whole, dSeq, dSet, dAsg, dDrop, dRet, dRetN, dIf, dB, dAnd, dOr, dNot, dAndV, dOrV, dNotV, dIfE, dVar, dC, dO2, dChn, dC1, dC2, dIx, dSl, dP, dNoP, dCall, dCons, dNil, dPure, dMut, dDisp, dTup, dLRg, dTRg, dR1, dR2, gN, gTp, gsNil, gsCons, dNext, dNever, dIsi, dNeg, dL1, dFor, dIt, dIRg1, dIRg2, dEn, dLc0, dYes, dMt, dMt0, dFzE, gIx, dCat, dRep, dSlL, dD0, dD1, dDictP, dPar, dPar3, dRevT, dRevS, dRevL, dIvals, dSortSet, dLkL, dForM, dFzs, dSortSetT, List.map_cons, List.map_nil, List.replicate, List.append_nil, List.cons_append, List.nil_append, List.getElem?_cons_zero, List.getElem?_cons_succ, List.set_cons_zero, List.set_cons_succ, Option.some.injEq, exists_eq_left', exists_eq_left, exists_and_left, and_assoc, or_false, false_or, see_d, isiF, Va.dat.injEq, PyData.bool.injEq, PyData.int.injEq, PyData.str.injEq, PyData.tuple.injEq, PyData.list.injEq, seeL, Option.map_some, wipeD, List.cons.injEq, and_true, true_and, if_true, Bool.false_eq_true, if_false, reduceCtorEq, Int.reduceLT, Int.reduceLE, Int.reduceNeg, and_self, addF_i, subF_i, modF_i, fdivF_i, eqF_int, neF_int, ltF_i, leF_i, gtF_i, geF_i, lenF_t, lenF_l, List.length_map, List.length_cons, List.length_nil, itemsD_t, itemsD_l, decide_true, decide_false, Bool.not_true, Bool.not_false, ixV_dd, ixF_t, ixF_l, tupF_t, tupF_l, min2F_i, max2F_i, dmF_i, absF_i, setO_l, inDF_t, inDF_l, notInDF_t, notInDF_l, ite_true, ite_false]
  unfold isW at h
  cases hd : d.isInt
  · rw [hd] at h
    simp only [Bool.false_eq_true, if_false]
    exact ret_ok h
  · rw [hd] at h
    simp only [if_true]
    exact ret_ok h
theorem deed_ok {n : Nat} {d : List Nat} {G : Gp} {Q : VQ} (hd : IsDeed n d) (h1 : 1 ≤ n) (h5 : n ≤ 5) (h : Q (.dat (.bool true)) G) : sp_is_deed [.dat (tN d)] G Q := by
  have hl := hd.len
  refine ⟨rfl, ?_⟩
  have e1 : decide (1 ≤ (d.length : Int)) = true := by rw [hl]; exact decide_eq_true (by omega)
  have e2 : decide ((d.length : Int) ≤ 5) = true := by rw [hl]; exact decide_eq_true (by omega)
  simp only [rd_is_deed, dSeq, dSet, dAsg, dDrop, dRet, dRetN, dIf, dB, dAnd, dOr, dNot, dAndV, dOrV, dNotV, dIfE, dVar, dC, dO2, dChn, dC1, dC2, dIx, dSl, dP, dNoP, dCall, dCons, dNil, dPure, dMut, dDisp, dTup, dLRg, dTRg, dR1, dR2, gN, gTp, gsNil, gsCons, dNext, dNever, dIsi, dNeg, dL1, dFor, dIt, dIRg1, dIRg2, dEn, dLc0, dYes, dMt, dMt0, dFzE, gIx, dCat, dRep, dSlL, dD0, dD1, dDictP, dPar, dPar3, dRevT, dRevS, dRevL, dIvals, dSortSet, dLkL, dForM, dFzs, dSortSetT, List.map_cons, List.map_nil, List.replicate, List.append_nil, List.cons_append, List.nil_append, List.getElem?_cons_zero, List.getElem?_cons_succ, List.set_cons_zero, List.set_cons_succ, Option.some.injEq, exists_eq_left', exists_eq_left, exists_and_left, and_assoc, or_false, false_or, see_d, isiF, Va.dat.injEq, PyData.bool.injEq, PyData.int.injEq, PyData.str.injEq, PyData.tuple.injEq, PyData.list.injEq, seeL, Option.map_some, wipeD, List.cons.injEq, and_true, true_and, if_true, Bool.false_eq_true, if_false, reduceCtorEq, Int.reduceLT, Int.reduceLE, Int.reduceNeg, and_self, addF_i, subF_i, modF_i, fdivF_i, eqF_int, neF_int, ltF_i, leF_i, gtF_i, geF_i, lenF_t, lenF_l, List.length_map, List.length_cons, List.length_nil, itemsD_t, itemsD_l, decide_true, decide_false, Bool.not_true, Bool.not_false, ixV_dd, ixF_t, ixF_l, tupF_t, tupF_l, min2F_i, max2F_i, dmF_i, absF_i, setO_l, inDF_t, inDF_l, notInDF_t, notInDF_l, ite_true, ite_false, tN, PyData.isTuple, e1, e2, Bool.not_true]
  refine ⟨by rw [hl, sizeLine_eq]; omega, lc_map (fun _ => .dat (.bool true)) _ _ (fun x hx Q' q => ?_) ?_⟩
  · obtain ⟨y, hy, rfl⟩ := List.mem_map.mp hx
    obtain ⟨m, hm, rfl⟩ := List.mem_map.mp hy
    simp only [dSeq, dSet, dAsg, dDrop, dRet, dRetN, dIf, dB, dAnd, dOr, dNot, dAndV, dOrV, dNotV, dIfE, dVar, dC, dO2, dChn, dC1, dC2, dIx, dSl, dP, dNoP, dCall, dCons, dNil, dPure, dMut, dDisp, dTup, dLRg, dTRg, dR1, dR2, gN, gTp, gsNil, gsCons, dNext, dNever, dIsi, dNeg, dL1, dFor, dIt, dIRg1, dIRg2, dEn, dLc0, dYes, dMt, dMt0, dFzE, gIx, dCat, dRep, dSlL, dD0, dD1, dDictP, dPar, dPar3, dRevT, dRevS, dRevL, dIvals, dSortSet, dLkL, dForM, dFzs, dSortSetT, List.map_cons, List.map_nil, List.replicate, List.append_nil, List.cons_append, List.nil_append, List.getElem?_cons_zero, List.getElem?_cons_succ, List.set_cons_zero, List.set_cons_succ, Option.some.injEq, exists_eq_left', exists_eq_left, exists_and_left, and_assoc, or_false, false_or, see_d, isiF, Va.dat.injEq, PyData.bool.injEq, PyData.int.injEq, PyData.str.injEq, PyData.tuple.injEq, PyData.list.injEq, seeL, Option.map_some, wipeD, List.cons.injEq, and_true, true_and, if_true, Bool.false_eq_true, if_false, reduceCtorEq, Int.reduceLT, Int.reduceLE, Int.reduceNeg, and_self, addF_i, subF_i, modF_i, fdivF_i, eqF_int, neF_int, ltF_i, leF_i, gtF_i, geF_i, lenF_t, lenF_l, List.length_map, List.length_cons, List.length_nil, itemsD_t, itemsD_l, decide_true, decide_false, Bool.not_true, Bool.not_false, ixV_dd, ixF_t, ixF_l, tupF_t, tupF_l, min2F_i, max2F_i, dmF_i, absF_i, setO_l, inDF_t, inDF_l, notInDF_t, notInDF_l, ite_true, ite_false]
    exact whole_ok q
  · refine ⟨_, by rw [List.nil_append]; exact seeL_map (fun _ => PyData.bool true) _, _, all_bools (bs := (d.map fun _ => true)) |> fun q => by simpa [List.map_map, Function.comp_def] using q, _, rfl, ?_⟩
    rw [if_pos (by simp)]
    refine ⟨_, sortF_ints d rfl (fun y e => by cases e), _, seeL_dats _, RgOk.of_le (by omega) (by rw [hl]; omega) (by omega) (by omega), _, seeL_dats _, .bool true, ?_, ret_ok h⟩
    rw [hd.sorted, rgD_nat, hl]
    unfold eqF
    rw [show fine (PyData.list ((List.range n).map fun n => PyData.int (n : Nat))) = true from fine_lN _]
    have : PyData.eqv (PyData.list ((List.range n).map fun n => PyData.int (n : Nat))) (PyData.list ((List.range n).map fun n => PyData.int (n : Nat))) = true := SeqAt.eqv_refl_plain _ (by unfold PyData.plain; exact plain_ints _)
    simp [this]

end DL.R

namespace DL.R
open PySem PySem.Spec PyProof.Rows L2 DL

theorem puz_first {n : Nat} {p : List (List Nat)} (hp : IsPuz n p) : ∃ d, atI (p.map tN) 0 = some (tN d) ∧ d.length = n := by
  obtain ⟨d, r, rfl, hl⟩ := hp.cons
  exact ⟨d, atI_zero _ _, hl⟩
theorem puzzle_ok {n : Nat} {p : List (List Nat)} {G : Gp} {Q : VQ} (hp : IsPuz n p) (h : Q (.dat (.bool true)) G) : sp_is_puzzle [.dat (tP p)] G Q := by
  refine ⟨rfl, ?_⟩
  have p1 := hp.p1
  have p3 := hp.p3
  have e1 : decide (1 ≤ (p.length : Int)) = true := decide_eq_true (by omega)
  have e2 : decide ((p.length : Int) ≤ 3) = true := decide_eq_true (by omega)
  obtain ⟨d0, hd0, hl0⟩ := puz_first hp
  have hz : p.length ≤ sizeLine := by rw [sizeLine_eq]; omega
  simp only [rd_is_puzzle, dSeq, dSet, dAsg, dDrop, dRet, dRetN, dIf, dB, dAnd, dOr, dNot, dAndV, dOrV, dNotV, dIfE, dVar, dC, dO2, dChn, dC1, dC2, dIx, dSl, dP, dNoP, dCall, dCons, dNil, dPure, dMut, dDisp, dTup, dLRg, dTRg, dR1, dR2, gN, gTp, gsNil, gsCons, dNext, dNever, dIsi, dNeg, dL1, dFor, dIt, dIRg1, dIRg2, dEn, dLc0, dYes, dMt, dMt0, dFzE, gIx, dCat, dRep, dSlL, dD0, dD1, dDictP, dPar, dPar3, dRevT, dRevS, dRevL, dIvals, dSortSet, dLkL, dForM, dFzs, dSortSetT, List.map_cons, List.map_nil, List.replicate, List.append_nil, List.cons_append, List.nil_append, List.getElem?_cons_zero, List.getElem?_cons_succ, List.set_cons_zero, List.set_cons_succ, Option.some.injEq, exists_eq_left', exists_eq_left, exists_and_left, and_assoc, or_false, false_or, see_d, isiF, Va.dat.injEq, PyData.bool.injEq, PyData.int.injEq, PyData.str.injEq, PyData.tuple.injEq, PyData.list.injEq, seeL, Option.map_some, wipeD, List.cons.injEq, and_true, true_and, if_true, Bool.false_eq_true, if_false, reduceCtorEq, Int.reduceLT, Int.reduceLE, Int.reduceNeg, and_self, addF_i, subF_i, modF_i, fdivF_i, eqF_int, neF_int, ltF_i, leF_i, gtF_i, geF_i, lenF_t, lenF_l, List.length_map, List.length_cons, List.length_nil, itemsD_t, itemsD_l, decide_true, decide_false, Bool.not_true, Bool.not_false, ixV_dd, ixF_t, ixF_l, tupF_t, tupF_l, min2F_i, max2F_i, dmF_i, absF_i, setO_l, inDF_t, inDF_l, notInDF_t, notInDF_l, ite_true, ite_false, tP, PyData.isTuple, e1, e2, Bool.not_true]
  refine ⟨hz, lc_map (fun _ => .dat (.bool true)) _ _ (fun x hx Q' q => ?_) ?_⟩
  · obtain ⟨y, hy, rfl⟩ := List.mem_map.mp hx
    obtain ⟨d, hm, rfl⟩ := List.mem_map.mp hy
    simp only [dSeq, dSet, dAsg, dDrop, dRet, dRetN, dIf, dB, dAnd, dOr, dNot, dAndV, dOrV, dNotV, dIfE, dVar, dC, dO2, dChn, dC1, dC2, dIx, dSl, dP, dNoP, dCall, dCons, dNil, dPure, dMut, dDisp, dTup, dLRg, dTRg, dR1, dR2, gN, gTp, gsNil, gsCons, dNext, dNever, dIsi, dNeg, dL1, dFor, dIt, dIRg1, dIRg2, dEn, dLc0, dYes, dMt, dMt0, dFzE, gIx, dCat, dRep, dSlL, dD0, dD1, dDictP, dPar, dPar3, dRevT, dRevS, dRevL, dIvals, dSortSet, dLkL, dForM, dFzs, dSortSetT, List.map_cons, List.map_nil, List.replicate, List.append_nil, List.cons_append, List.nil_append, List.getElem?_cons_zero, List.getElem?_cons_succ, List.set_cons_zero, List.set_cons_succ, Option.some.injEq, exists_eq_left', exists_eq_left, exists_and_left, and_assoc, or_false, false_or, see_d, isiF, Va.dat.injEq, PyData.bool.injEq, PyData.int.injEq, PyData.str.injEq, PyData.tuple.injEq, PyData.list.injEq, seeL, Option.map_some, wipeD, List.cons.injEq, and_true, true_and, if_true, Bool.false_eq_true, if_false, reduceCtorEq, Int.reduceLT, Int.reduceLE, Int.reduceNeg, and_self, addF_i, subF_i, modF_i, fdivF_i, eqF_int, neF_int, ltF_i, leF_i, gtF_i, geF_i, lenF_t, lenF_l, List.length_map, List.length_cons, List.length_nil, itemsD_t, itemsD_l, decide_true, decide_false, Bool.not_true, Bool.not_false, ixV_dd, ixF_t, ixF_l, tupF_t, tupF_l, min2F_i, max2F_i, dmF_i, absF_i, setO_l, inDF_t, inDF_l, notInDF_t, notInDF_l, ite_true, ite_false]
    exact deed_ok (hp.deed d hm) hp.n1 hp.n5 q
  · refine ⟨_, by rw [List.nil_append]; exact seeL_map (fun _ => PyData.bool true) _, _, all_bools (bs := (p.map fun _ => true)) |> fun q => by simpa [List.map_map, Function.comp_def] using q, _, rfl, ?_⟩
    rw [if_neg (by simp)]
    refine ⟨hz, lc_map (fun _ => .dat (.bool true)) _ _ (fun x hx Q' q => ?_) ?_⟩
    · obtain ⟨y, hy, rfl⟩ := List.mem_map.mp hx
      obtain ⟨d, hm, rfl⟩ := List.mem_map.mp hy
      simp only [dSeq, dSet, dAsg, dDrop, dRet, dRetN, dIf, dB, dAnd, dOr, dNot, dAndV, dOrV, dNotV, dIfE, dVar, dC, dO2, dChn, dC1, dC2, dIx, dSl, dP, dNoP, dCall, dCons, dNil, dPure, dMut, dDisp, dTup, dLRg, dTRg, dR1, dR2, gN, gTp, gsNil, gsCons, dNext, dNever, dIsi, dNeg, dL1, dFor, dIt, dIRg1, dIRg2, dEn, dLc0, dYes, dMt, dMt0, dFzE, gIx, dCat, dRep, dSlL, dD0, dD1, dDictP, dPar, dPar3, dRevT, dRevS, dRevL, dIvals, dSortSet, dLkL, dForM, dFzs, dSortSetT, List.map_cons, List.map_nil, List.replicate, List.append_nil, List.cons_append, List.nil_append, List.getElem?_cons_zero, List.getElem?_cons_succ, List.set_cons_zero, List.set_cons_succ, Option.some.injEq, exists_eq_left', exists_eq_left, exists_and_left, and_assoc, or_false, false_or, see_d, isiF, Va.dat.injEq, PyData.bool.injEq, PyData.int.injEq, PyData.str.injEq, PyData.tuple.injEq, PyData.list.injEq, seeL, Option.map_some, wipeD, List.cons.injEq, and_true, true_and, if_true, Bool.false_eq_true, if_false, reduceCtorEq, Int.reduceLT, Int.reduceLE, Int.reduceNeg, and_self, addF_i, subF_i, modF_i, fdivF_i, eqF_int, neF_int, ltF_i, leF_i, gtF_i, geF_i, lenF_t, lenF_l, List.length_map, List.length_cons, List.length_nil, itemsD_t, itemsD_l, decide_true, decide_false, Bool.not_true, Bool.not_false, ixV_dd, ixF_t, ixF_l, tupF_t, tupF_l, min2F_i, max2F_i, dmF_i, absF_i, setO_l, inDF_t, inDF_l, notInDF_t, notInDF_l, ite_true, ite_false, hd0, tN, hl0, (hp.deed d hm).len]
      exact q
    · refine ⟨_, by rw [List.nil_append]; exact seeL_map (fun _ => PyData.bool true) _, _, all_bools (bs := (p.map fun _ => true)) |> fun q => by simpa [List.map_map, Function.comp_def] using q, ?_⟩
      have ea : (p.all fun _ => true) = true := by simp
      rw [ea]
      exact ret_ok h
theorem need_puzzle_ok {n : Nat} {p : List (List Nat)} {G : Gp} {Q : VQ} (hp : IsPuz n p) (h : Q (.dat .none) G) : sp_need_puzzle [.dat (tP p)] G Q := by
  refine ⟨rfl, ?_⟩
  simp only [rd_need_puzzle, dSeq, dSet, dAsg, dDrop, dRet, dRetN, dIf, dB, dAnd, dOr, dNot, dAndV, dOrV, dNotV, dIfE, dVar, dC, dO2, dChn, dC1, dC2, dIx, dSl, dP, dNoP, dCall, dCons, dNil, dPure, dMut, dDisp, dTup, dLRg, dTRg, dR1, dR2, gN, gTp, gsNil, gsCons, dNext, dNever, dIsi, dNeg, dL1, dFor, dIt, dIRg1, dIRg2, dEn, dLc0, dYes, dMt, dMt0, dFzE, gIx, dCat, dRep, dSlL, dD0, dD1, dDictP, dPar, dPar3, dRevT, dRevS, dRevL, dIvals, dSortSet, dLkL, dForM, dFzs, dSortSetT, List.map_cons, List.map_nil, List.replicate, List.append_nil, List.cons_append, List.nil_append, List.getElem?_cons_zero, List.getElem?_cons_succ, List.set_cons_zero, List.set_cons_succ, Option.some.injEq, exists_eq_left', exists_eq_left, exists_and_left, and_assoc, or_false, false_or, see_d, isiF, Va.dat.injEq, PyData.bool.injEq, PyData.int.injEq, PyData.str.injEq, PyData.tuple.injEq, PyData.list.injEq, seeL, Option.map_some, wipeD, List.cons.injEq, and_true, true_and, if_true, Bool.false_eq_true, if_false, reduceCtorEq, Int.reduceLT, Int.reduceLE, Int.reduceNeg, and_self, addF_i, subF_i, modF_i, fdivF_i, eqF_int, neF_int, ltF_i, leF_i, gtF_i, geF_i, lenF_t, lenF_l, List.length_map, List.length_cons, List.length_nil, itemsD_t, itemsD_l, decide_true, decide_false, Bool.not_true, Bool.not_false, ixV_dd, ixF_t, ixF_l, tupF_t, tupF_l, min2F_i, max2F_i, dmF_i, absF_i, setO_l, inDF_t, inDF_l, notInDF_t, notInDF_l, ite_true, ite_false]
  refine puzzle_ok hp ?_
  exact ⟨true, rfl, nx_ok h⟩
theorem stand_of_ok {n : Nat} {p : List (List Nat)} {d : List Nat} {G : Gp} {Q : VQ} (hp : IsPuz n p) (hd : IsDeed n d) (h : Q (.dat (.bool true)) G) : sp_is_stand_of [.dat (tN d), .dat (tP p)] G Q := by
  refine ⟨rfl, ?_⟩
  obtain ⟨d0, hd0, hl0⟩ := puz_first hp
  simp only [rd_is_stand_of, dSeq, dSet, dAsg, dDrop, dRet, dRetN, dIf, dB, dAnd, dOr, dNot, dAndV, dOrV, dNotV, dIfE, dVar, dC, dO2, dChn, dC1, dC2, dIx, dSl, dP, dNoP, dCall, dCons, dNil, dPure, dMut, dDisp, dTup, dLRg, dTRg, dR1, dR2, gN, gTp, gsNil, gsCons, dNext, dNever, dIsi, dNeg, dL1, dFor, dIt, dIRg1, dIRg2, dEn, dLc0, dYes, dMt, dMt0, dFzE, gIx, dCat, dRep, dSlL, dD0, dD1, dDictP, dPar, dPar3, dRevT, dRevS, dRevL, dIvals, dSortSet, dLkL, dForM, dFzs, dSortSetT, List.map_cons, List.map_nil, List.replicate, List.append_nil, List.cons_append, List.nil_append, List.getElem?_cons_zero, List.getElem?_cons_succ, List.set_cons_zero, List.set_cons_succ, Option.some.injEq, exists_eq_left', exists_eq_left, exists_and_left, and_assoc, or_false, false_or, see_d, isiF, Va.dat.injEq, PyData.bool.injEq, PyData.int.injEq, PyData.str.injEq, PyData.tuple.injEq, PyData.list.injEq, seeL, Option.map_some, wipeD, List.cons.injEq, and_true, true_and, if_true, Bool.false_eq_true, if_false, reduceCtorEq, Int.reduceLT, Int.reduceLE, Int.reduceNeg, and_self, addF_i, subF_i, modF_i, fdivF_i, eqF_int, neF_int, ltF_i, leF_i, gtF_i, geF_i, lenF_t, lenF_l, List.length_map, List.length_cons, List.length_nil, itemsD_t, itemsD_l, decide_true, decide_false, Bool.not_true, Bool.not_false, ixV_dd, ixF_t, ixF_l, tupF_t, tupF_l, min2F_i, max2F_i, dmF_i, absF_i, setO_l, inDF_t, inDF_l, notInDF_t, notInDF_l, ite_true, ite_false]
  refine deed_ok hd hp.n1 hp.n5 ⟨true, rfl, ?_⟩
  simp only [dSeq, dSet, dAsg, dDrop, dRet, dRetN, dIf, dB, dAnd, dOr, dNot, dAndV, dOrV, dNotV, dIfE, dVar, dC, dO2, dChn, dC1, dC2, dIx, dSl, dP, dNoP, dCall, dCons, dNil, dPure, dMut, dDisp, dTup, dLRg, dTRg, dR1, dR2, gN, gTp, gsNil, gsCons, dNext, dNever, dIsi, dNeg, dL1, dFor, dIt, dIRg1, dIRg2, dEn, dLc0, dYes, dMt, dMt0, dFzE, gIx, dCat, dRep, dSlL, dD0, dD1, dDictP, dPar, dPar3, dRevT, dRevS, dRevL, dIvals, dSortSet, dLkL, dForM, dFzs, dSortSetT, List.map_cons, List.map_nil, List.replicate, List.append_nil, List.cons_append, List.nil_append, List.getElem?_cons_zero, List.getElem?_cons_succ, List.set_cons_zero, List.set_cons_succ, Option.some.injEq, exists_eq_left', exists_eq_left, exists_and_left, and_assoc, or_false, false_or, see_d, isiF, Va.dat.injEq, PyData.bool.injEq, PyData.int.injEq, PyData.str.injEq, PyData.tuple.injEq, PyData.list.injEq, seeL, Option.map_some, wipeD, List.cons.injEq, and_true, true_and, if_true, Bool.false_eq_true, if_false, reduceCtorEq, Int.reduceLT, Int.reduceLE, Int.reduceNeg, and_self, addF_i, subF_i, modF_i, fdivF_i, eqF_int, neF_int, ltF_i, leF_i, gtF_i, geF_i, lenF_t, lenF_l, List.length_map, List.length_cons, List.length_nil, itemsD_t, itemsD_l, decide_true, decide_false, Bool.not_true, Bool.not_false, ixV_dd, ixF_t, ixF_l, tupF_t, tupF_l, min2F_i, max2F_i, dmF_i, absF_i, setO_l, inDF_t, inDF_l, notInDF_t, notInDF_l, ite_true, ite_false, tP, hd0, tN, hl0, hd.len]
  exact ret_ok h
theorem need_stand_ok {n : Nat} {p : List (List Nat)} {d : List Nat} {G : Gp} {Q : VQ} (hp : IsPuz n p) (hd : IsDeed n d) (h : Q (.dat .none) G) : sp_need_stand [.dat (tP p), .dat (tN d)] G Q := by
  refine ⟨rfl, ?_⟩
  simp only [rd_need_stand, dSeq, dSet, dAsg, dDrop, dRet, dRetN, dIf, dB, dAnd, dOr, dNot, dAndV, dOrV, dNotV, dIfE, dVar, dC, dO2, dChn, dC1, dC2, dIx, dSl, dP, dNoP, dCall, dCons, dNil, dPure, dMut, dDisp, dTup, dLRg, dTRg, dR1, dR2, gN, gTp, gsNil, gsCons, dNext, dNever, dIsi, dNeg, dL1, dFor, dIt, dIRg1, dIRg2, dEn, dLc0, dYes, dMt, dMt0, dFzE, gIx, dCat, dRep, dSlL, dD0, dD1, dDictP, dPar, dPar3, dRevT, dRevS, dRevL, dIvals, dSortSet, dLkL, dForM, dFzs, dSortSetT, List.map_cons, List.map_nil, List.replicate, List.append_nil, List.cons_append, List.nil_append, List.getElem?_cons_zero, List.getElem?_cons_succ, List.set_cons_zero, List.set_cons_succ, Option.some.injEq, exists_eq_left', exists_eq_left, exists_and_left, and_assoc, or_false, false_or, see_d, isiF, Va.dat.injEq, PyData.bool.injEq, PyData.int.injEq, PyData.str.injEq, PyData.tuple.injEq, PyData.list.injEq, seeL, Option.map_some, wipeD, List.cons.injEq, and_true, true_and, if_true, Bool.false_eq_true, if_false, reduceCtorEq, Int.reduceLT, Int.reduceLE, Int.reduceNeg, and_self, addF_i, subF_i, modF_i, fdivF_i, eqF_int, neF_int, ltF_i, leF_i, gtF_i, geF_i, lenF_t, lenF_l, List.length_map, List.length_cons, List.length_nil, itemsD_t, itemsD_l, decide_true, decide_false, Bool.not_true, Bool.not_false, ixV_dd, ixF_t, ixF_l, tupF_t, tupF_l, min2F_i, max2F_i, dmF_i, absF_i, setO_l, inDF_t, inDF_l, notInDF_t, notInDF_l, ite_true, ite_false]
  refine stand_of_ok hp hd ?_
  exact ⟨true, rfl, nx_ok h⟩

end DL.R

namespace DL.R
open PySem PySem.Spec PyProof.Rows L2 DL

theorem mix_ok {c : Int} {k : Nat} {G : Gp} {Q : VQ} (hk : k < 100) (h : ∀ r : Int, Q (.dat (.int r)) G) : sp__law_mix [.dat (.int c), .dat (.int (k : Nat))] G Q := by
  refine ⟨rfl, ?_⟩
  obtain ⟨e, he, hm, _⟩ := atI_nat (xs := [48271, 69621, 16807, 39373, 30269, 40014, 40692, 50021, 61687, 71993, 83869, 95561, 30307].map PyData.int) (i := (k : Int) % 13) (by omega) (by simp; omega)
  obtain ⟨m, _, rfl⟩ := List.mem_map.mp hm
  simp only [List.map_cons, List.map_nil] at he
  have s1 : small (c % 2147483647 + 12345) = true := small_of (by omega) (by omega)
  have s2 : ∀ z : Int, small (z % 1000000007) = true := fun z => small_of (by omega) (by omega)
  simp only [rd__law_mix, dSeq, dSet, dAsg, dDrop, dRet, dRetN, dIf, dB, dAnd, dOr, dNot, dAndV, dOrV, dNotV, dIfE, dVar, dC, dO2, dChn, dC1, dC2, dIx, dSl, dP, dNoP, dCall, dCons, dNil, dPure, dMut, dDisp, dTup, dLRg, dTRg, dR1, dR2, gN, gTp, gsNil, gsCons, dNext, dNever, dIsi, dNeg, dL1, dFor, dIt, dIRg1, dIRg2, dEn, dLc0, dYes, dMt, dMt0, dFzE, gIx, dCat, dRep, dSlL, dD0, dD1, dDictP, dPar, dPar3, dRevT, dRevS, dRevL, dIvals, dSortSet, dLkL, dForM, dFzs, dSortSetT, List.map_cons, List.map_nil, List.replicate, List.append_nil, List.cons_append, List.nil_append, List.getElem?_cons_zero, List.getElem?_cons_succ, List.set_cons_zero, List.set_cons_succ, Option.some.injEq, exists_eq_left', exists_eq_left, exists_and_left, and_assoc, or_false, false_or, see_d, isiF, Va.dat.injEq, PyData.bool.injEq, PyData.int.injEq, PyData.str.injEq, PyData.tuple.injEq, PyData.list.injEq, seeL, Option.map_some, wipeD, List.cons.injEq, and_true, true_and, if_true, Bool.false_eq_true, if_false, reduceCtorEq, Int.reduceLT, Int.reduceLE, Int.reduceNeg, and_self, addF_i, subF_i, modF_i, fdivF_i, eqF_int, neF_int, ltF_i, leF_i, gtF_i, geF_i, lenF_t, lenF_l, List.length_map, List.length_cons, List.length_nil, itemsD_t, itemsD_l, decide_true, decide_false, Bool.not_true, Bool.not_false, ixV_dd, ixF_t, ixF_l, tupF_t, tupF_l, min2F_i, max2F_i, dmF_i, absF_i, setO_l, inDF_t, inDF_l, notInDF_t, notInDF_l, ite_true, ite_false, he, mulI_l s1, mulI_l (s2 _), mulI_l (show small 977 = true by decide), mulI_l (show small 7919 = true by decide), mulI_l (show small 48271 = true by decide)]
  exact ⟨by rw [sizeLine_eq]; decide, ret_ok (h _)⟩
theorem cell_ok {ns : List Int} {k : Nat} {G : Gp} {Q : VQ} (h : ∀ r : Int, Q (.dat (.int r)) G) : sp__law_cell [.dat (.list (ns.map PyData.int)), .dat (.int (k : Nat))] G Q := by
  refine ⟨rfl, ?_⟩
  simp only [rd__law_cell, dSeq, dSet, dAsg, dDrop, dRet, dRetN, dIf, dB, dAnd, dOr, dNot, dAndV, dOrV, dNotV, dIfE, dVar, dC, dO2, dChn, dC1, dC2, dIx, dSl, dP, dNoP, dCall, dCons, dNil, dPure, dMut, dDisp, dTup, dLRg, dTRg, dR1, dR2, gN, gTp, gsNil, gsCons, dNext, dNever, dIsi, dNeg, dL1, dFor, dIt, dIRg1, dIRg2, dEn, dLc0, dYes, dMt, dMt0, dFzE, gIx, dCat, dRep, dSlL, dD0, dD1, dDictP, dPar, dPar3, dRevT, dRevS, dRevL, dIvals, dSortSet, dLkL, dForM, dFzs, dSortSetT, List.map_cons, List.map_nil, List.replicate, List.append_nil, List.cons_append, List.nil_append, List.getElem?_cons_zero, List.getElem?_cons_succ, List.set_cons_zero, List.set_cons_succ, Option.some.injEq, exists_eq_left', exists_eq_left, exists_and_left, and_assoc, or_false, false_or, see_d, isiF, Va.dat.injEq, PyData.bool.injEq, PyData.int.injEq, PyData.str.injEq, PyData.tuple.injEq, PyData.list.injEq, seeL, Option.map_some, wipeD, List.cons.injEq, and_true, true_and, if_true, Bool.false_eq_true, if_false, reduceCtorEq, Int.reduceLT, Int.reduceLE, Int.reduceNeg, and_self, addF_i, subF_i, modF_i, fdivF_i, eqF_int, neF_int, ltF_i, leF_i, gtF_i, geF_i, lenF_t, lenF_l, List.length_map, List.length_cons, List.length_nil, itemsD_t, itemsD_l, decide_true, decide_false, Bool.not_true, Bool.not_false, ixV_dd, ixF_t, ixF_l, tupF_t, tupF_l, min2F_i, max2F_i, dmF_i, absF_i, setO_l, inDF_t, inDF_l, notInDF_t, notInDF_l, ite_true, ite_false]
  by_cases hk : (k : Int) < (ns.length : Int)
  · rw [if_pos (by simpa using hk)]
    obtain ⟨e, he, hm, _⟩ := atI_nat (xs := ns.map PyData.int) (i := (k : Int)) (by omega) (by simpa using hk)
    obtain ⟨m, _, rfl⟩ := List.mem_map.mp hm
    simp only [he, dSeq, dSet, dAsg, dDrop, dRet, dRetN, dIf, dB, dAnd, dOr, dNot, dAndV, dOrV, dNotV, dIfE, dVar, dC, dO2, dChn, dC1, dC2, dIx, dSl, dP, dNoP, dCall, dCons, dNil, dPure, dMut, dDisp, dTup, dLRg, dTRg, dR1, dR2, gN, gTp, gsNil, gsCons, dNext, dNever, dIsi, dNeg, dL1, dFor, dIt, dIRg1, dIRg2, dEn, dLc0, dYes, dMt, dMt0, dFzE, gIx, dCat, dRep, dSlL, dD0, dD1, dDictP, dPar, dPar3, dRevT, dRevS, dRevL, dIvals, dSortSet, dLkL, dForM, dFzs, dSortSetT, List.map_cons, List.map_nil, List.replicate, List.append_nil, List.cons_append, List.nil_append, List.getElem?_cons_zero, List.getElem?_cons_succ, List.set_cons_zero, List.set_cons_succ, Option.some.injEq, exists_eq_left', exists_eq_left, exists_and_left, and_assoc, or_false, false_or, see_d, isiF, Va.dat.injEq, PyData.bool.injEq, PyData.int.injEq, PyData.str.injEq, PyData.tuple.injEq, PyData.list.injEq, seeL, Option.map_some, wipeD, List.cons.injEq, and_true, true_and, if_true, Bool.false_eq_true, if_false, reduceCtorEq, Int.reduceLT, Int.reduceLE, Int.reduceNeg, and_self, addF_i, subF_i, modF_i, fdivF_i, eqF_int, neF_int, ltF_i, leF_i, gtF_i, geF_i, lenF_t, lenF_l, List.length_map, List.length_cons, List.length_nil, itemsD_t, itemsD_l, decide_true, decide_false, Bool.not_true, Bool.not_false, ixV_dd, ixF_t, ixF_l, tupF_t, tupF_l, min2F_i, max2F_i, dmF_i, absF_i, setO_l, inDF_t, inDF_l, notInDF_t, notInDF_l, ite_true, ite_false]
    exact ret_ok (h _)
  · rw [if_neg (by simpa using hk)]
    exact ret_ok (h _)
/-- a box of one number -/
def Box (G : Gp) (a : Addr) : Prop := ∃ z : Int, G a = some (.lst [.dat (.int z)])
/-- the box holds some number, all else told is as it was -/
structure BoxTo (G : Gp) (a : Addr) (G' : Gp) : Prop where
  box : Box G' a
  rest : ∀ b o, b ≠ a → G b = some o → G' b = some o
theorem BoxTo.trans {G G1 G2 : Gp} {a : Addr} (h : BoxTo G a G1) (h2 : BoxTo G1 a G2) : BoxTo G a G2 := ⟨h2.box, fun b o n e => h2.rest b o n (h.rest b o n e)⟩
theorem Box.refl {G : Gp} {a : Addr} (h : Box G a) : BoxTo G a G := ⟨h, fun _ _ _ e => e⟩
theorem BoxTo.put {G : Gp} {a : Addr} {z : Int} : BoxTo G a (gup G a (.lst [.dat (.int z)])) := ⟨⟨z, gup_same⟩, fun b o n e => by rw [gup_ne n]; exact e⟩
theorem Box.ne {G : Gp} {a p : Addr} (h : Box G a) (hp : G p = none) : p ≠ a := fun e => by
  obtain ⟨z, hz⟩ := h
  rw [← e, hp] at hz; cases hz
/-- an object of one's own is laid or written -/
theorem BoxTo.own {G G1 : Gp} {a p : Addr} {o : MO} (h : BoxTo G a G1) (hp : G p = none) (n : p ≠ a) : BoxTo G a (gup G1 p o) := by
  refine ⟨?_, fun b u nb e => ?_⟩
  · obtain ⟨z, hz⟩ := h.box
    exact ⟨z, by rw [gup_ne (Ne.symm n)]; exact hz⟩
  · have : b ≠ p := fun q => by rw [q, hp] at e; cases e
    rw [gup_ne this]
    exact h.rest b u nb e
theorem take_ok {a : Addr} {m : Int} {G : Gp} {Q : VQ} (hb : Box G a) (h0 : 0 < m) (h1 : m < 1073741824) (h : ∀ (r : Nat) G', (r : Int) < m → BoxTo G a G' → Q (.dat (.int (r : Nat))) G') : sp__law_take [.ref a, .dat (.int m)] G Q := by
  obtain ⟨z, hz⟩ := hb
  refine ⟨rfl, ?_⟩
  have e0 : ∀ (x : PyData), ixV G (.ref a) (.dat (.int 0)) = some (.dat (.int z)) := fun _ => by
    unfold ixV
    simp only [hz]
    rfl
  simp only [rd__law_take, dSeq, dSet, dAsg, dDrop, dRet, dRetN, dIf, dB, dAnd, dOr, dNot, dAndV, dOrV, dNotV, dIfE, dVar, dC, dO2, dChn, dC1, dC2, dIx, dSl, dP, dNoP, dCall, dCons, dNil, dPure, dMut, dDisp, dTup, dLRg, dTRg, dR1, dR2, gN, gTp, gsNil, gsCons, dNext, dNever, dIsi, dNeg, dL1, dFor, dIt, dIRg1, dIRg2, dEn, dLc0, dYes, dMt, dMt0, dFzE, gIx, dCat, dRep, dSlL, dD0, dD1, dDictP, dPar, dPar3, dRevT, dRevS, dRevL, dIvals, dSortSet, dLkL, dForM, dFzs, dSortSetT, List.map_cons, List.map_nil, List.replicate, List.append_nil, List.cons_append, List.nil_append, List.getElem?_cons_zero, List.getElem?_cons_succ, List.set_cons_zero, List.set_cons_succ, Option.some.injEq, exists_eq_left', exists_eq_left, exists_and_left, and_assoc, or_false, false_or, see_d, isiF, Va.dat.injEq, PyData.bool.injEq, PyData.int.injEq, PyData.str.injEq, PyData.tuple.injEq, PyData.list.injEq, seeL, Option.map_some, wipeD, List.cons.injEq, and_true, true_and, if_true, Bool.false_eq_true, if_false, reduceCtorEq, Int.reduceLT, Int.reduceLE, Int.reduceNeg, and_self, addF_i, subF_i, modF_i, fdivF_i, eqF_int, neF_int, ltF_i, leF_i, gtF_i, geF_i, lenF_t, lenF_l, List.length_map, List.length_cons, List.length_nil, itemsD_t, itemsD_l, decide_true, decide_false, Bool.not_true, Bool.not_false, ixV_dd, ixF_t, ixF_l, tupF_t, tupF_l, min2F_i, max2F_i, dmF_i, absF_i, setO_l, inDF_t, inDF_l, notInDF_t, notInDF_l, ite_true, ite_false, e0 .none]
  refine ⟨h0, h1, a, rfl, _, hz, _, ⟨0, 0, rfl, rfl, rfl⟩, ?_⟩
  have hr : ((z % m).toNat : Int) = z % m := Int.toNat_of_nonneg (Int.emod_nonneg z (by omega))
  have := h (z % m).toNat (gup G a (.lst [.dat (.int (z / m))])) (by rw [hr]; exact Int.emod_lt_of_pos z h0) .put
  rw [hr] at this
  exact ret_ok this
theorem box_ok {ns : List Int} {k : Nat} {G : Gp} {Q : VQ} (h : ∀ a G', G a = none → Box G' a → (∀ b o, G b = some o → G' b = some o) → Q (.ref a) G') : sp__law_box [.dat (.list (ns.map PyData.int)), .dat (.int (k : Nat))] G Q := by
  refine ⟨rfl, ?_⟩
  simp only [rd__law_box, dSeq, dSet, dAsg, dDrop, dRet, dRetN, dIf, dB, dAnd, dOr, dNot, dAndV, dOrV, dNotV, dIfE, dVar, dC, dO2, dChn, dC1, dC2, dIx, dSl, dP, dNoP, dCall, dCons, dNil, dPure, dMut, dDisp, dTup, dLRg, dTRg, dR1, dR2, gN, gTp, gsNil, gsCons, dNext, dNever, dIsi, dNeg, dL1, dFor, dIt, dIRg1, dIRg2, dEn, dLc0, dYes, dMt, dMt0, dFzE, gIx, dCat, dRep, dSlL, dD0, dD1, dDictP, dPar, dPar3, dRevT, dRevS, dRevL, dIvals, dSortSet, dLkL, dForM, dFzs, dSortSetT, List.map_cons, List.map_nil, List.replicate, List.append_nil, List.cons_append, List.nil_append, List.getElem?_cons_zero, List.getElem?_cons_succ, List.set_cons_zero, List.set_cons_succ, Option.some.injEq, exists_eq_left', exists_eq_left, exists_and_left, and_assoc, or_false, false_or, see_d, isiF, Va.dat.injEq, PyData.bool.injEq, PyData.int.injEq, PyData.str.injEq, PyData.tuple.injEq, PyData.list.injEq, seeL, Option.map_some, wipeD, List.cons.injEq, and_true, true_and, if_true, Bool.false_eq_true, if_false, reduceCtorEq, Int.reduceLT, Int.reduceLE, Int.reduceNeg, and_self, addF_i, subF_i, modF_i, fdivF_i, eqF_int, neF_int, ltF_i, leF_i, gtF_i, geF_i, lenF_t, lenF_l, List.length_map, List.length_cons, List.length_nil, itemsD_t, itemsD_l, decide_true, decide_false, Bool.not_true, Bool.not_false, ixV_dd, ixF_t, ixF_l, tupF_t, tupF_l, min2F_i, max2F_i, dmF_i, absF_i, setO_l, inDF_t, inDF_l, notInDF_t, notInDF_l, ite_true, ite_false]
  refine cell_ok fun r => ?_
  simp only [dSeq, dSet, dAsg, dDrop, dRet, dRetN, dIf, dB, dAnd, dOr, dNot, dAndV, dOrV, dNotV, dIfE, dVar, dC, dO2, dChn, dC1, dC2, dIx, dSl, dP, dNoP, dCall, dCons, dNil, dPure, dMut, dDisp, dTup, dLRg, dTRg, dR1, dR2, gN, gTp, gsNil, gsCons, dNext, dNever, dIsi, dNeg, dL1, dFor, dIt, dIRg1, dIRg2, dEn, dLc0, dYes, dMt, dMt0, dFzE, gIx, dCat, dRep, dSlL, dD0, dD1, dDictP, dPar, dPar3, dRevT, dRevS, dRevL, dIvals, dSortSet, dLkL, dForM, dFzs, dSortSetT, List.map_cons, List.map_nil, List.replicate, List.append_nil, List.cons_append, List.nil_append, List.getElem?_cons_zero, List.getElem?_cons_succ, List.set_cons_zero, List.set_cons_succ, Option.some.injEq, exists_eq_left', exists_eq_left, exists_and_left, and_assoc, or_false, false_or, see_d, isiF, Va.dat.injEq, PyData.bool.injEq, PyData.int.injEq, PyData.str.injEq, PyData.tuple.injEq, PyData.list.injEq, seeL, Option.map_some, wipeD, List.cons.injEq, and_true, true_and, if_true, Bool.false_eq_true, if_false, reduceCtorEq, Int.reduceLT, Int.reduceLE, Int.reduceNeg, and_self, addF_i, subF_i, modF_i, fdivF_i, eqF_int, neF_int, ltF_i, leF_i, gtF_i, geF_i, lenF_t, lenF_l, List.length_map, List.length_cons, List.length_nil, itemsD_t, itemsD_l, decide_true, decide_false, Bool.not_true, Bool.not_false, ixV_dd, ixF_t, ixF_l, tupF_t, tupF_l, min2F_i, max2F_i, dmF_i, absF_i, setO_l, inDF_t, inDF_l, notInDF_t, notInDF_l, ite_true, ite_false, absF_i]
  by_cases hr : r % 2 = 0
  · simp only [dSeq, dSet, dAsg, dDrop, dRet, dRetN, dIf, dB, dAnd, dOr, dNot, dAndV, dOrV, dNotV, dIfE, dVar, dC, dO2, dChn, dC1, dC2, dIx, dSl, dP, dNoP, dCall, dCons, dNil, dPure, dMut, dDisp, dTup, dLRg, dTRg, dR1, dR2, gN, gTp, gsNil, gsCons, dNext, dNever, dIsi, dNeg, dL1, dFor, dIt, dIRg1, dIRg2, dEn, dLc0, dYes, dMt, dMt0, dFzE, gIx, dCat, dRep, dSlL, dD0, dD1, dDictP, dPar, dPar3, dRevT, dRevS, dRevL, dIvals, dSortSet, dLkL, dForM, dFzs, dSortSetT, List.map_cons, List.map_nil, List.replicate, List.append_nil, List.cons_append, List.nil_append, List.getElem?_cons_zero, List.getElem?_cons_succ, List.set_cons_zero, List.set_cons_succ, Option.some.injEq, exists_eq_left', exists_eq_left, exists_and_left, and_assoc, or_false, false_or, see_d, isiF, Va.dat.injEq, PyData.bool.injEq, PyData.int.injEq, PyData.str.injEq, PyData.tuple.injEq, PyData.list.injEq, seeL, Option.map_some, wipeD, List.cons.injEq, and_true, true_and, if_true, Bool.false_eq_true, if_false, reduceCtorEq, Int.reduceLT, Int.reduceLE, Int.reduceNeg, and_self, addF_i, subF_i, modF_i, fdivF_i, eqF_int, neF_int, ltF_i, leF_i, gtF_i, geF_i, lenF_t, lenF_l, List.length_map, List.length_cons, List.length_nil, itemsD_t, itemsD_l, decide_true, decide_false, Bool.not_true, Bool.not_false, ixV_dd, ixF_t, ixF_l, tupF_t, tupF_l, min2F_i, max2F_i, dmF_i, absF_i, setO_l, inDF_t, inDF_l, notInDF_t, notInDF_l, ite_true, ite_false, hr]
    exact ⟨by rw [sizeLine_eq]; decide, fun p hp => ret_ok (h p _ hp ⟨_, gup_same⟩ fun b o e => by rw [gup_ne (fun q => by rw [q, hp] at e; cases e)]; exact e)⟩
  · simp only [dSeq, dSet, dAsg, dDrop, dRet, dRetN, dIf, dB, dAnd, dOr, dNot, dAndV, dOrV, dNotV, dIfE, dVar, dC, dO2, dChn, dC1, dC2, dIx, dSl, dP, dNoP, dCall, dCons, dNil, dPure, dMut, dDisp, dTup, dLRg, dTRg, dR1, dR2, gN, gTp, gsNil, gsCons, dNext, dNever, dIsi, dNeg, dL1, dFor, dIt, dIRg1, dIRg2, dEn, dLc0, dYes, dMt, dMt0, dFzE, gIx, dCat, dRep, dSlL, dD0, dD1, dDictP, dPar, dPar3, dRevT, dRevS, dRevL, dIvals, dSortSet, dLkL, dForM, dFzs, dSortSetT, List.map_cons, List.map_nil, List.replicate, List.append_nil, List.cons_append, List.nil_append, List.getElem?_cons_zero, List.getElem?_cons_succ, List.set_cons_zero, List.set_cons_succ, Option.some.injEq, exists_eq_left', exists_eq_left, exists_and_left, and_assoc, or_false, false_or, see_d, isiF, Va.dat.injEq, PyData.bool.injEq, PyData.int.injEq, PyData.str.injEq, PyData.tuple.injEq, PyData.list.injEq, seeL, Option.map_some, wipeD, List.cons.injEq, and_true, true_and, if_true, Bool.false_eq_true, if_false, reduceCtorEq, Int.reduceLT, Int.reduceLE, Int.reduceNeg, and_self, addF_i, subF_i, modF_i, fdivF_i, eqF_int, neF_int, ltF_i, leF_i, gtF_i, geF_i, lenF_t, lenF_l, List.length_map, List.length_cons, List.length_nil, itemsD_t, itemsD_l, decide_true, decide_false, Bool.not_true, Bool.not_false, ixV_dd, ixF_t, ixF_l, tupF_t, tupF_l, min2F_i, max2F_i, dmF_i, absF_i, setO_l, inDF_t, inDF_l, notInDF_t, notInDF_l, ite_true, ite_false, hr]
    refine ⟨by decide, by decide, by rw [sizeLine_eq]; decide, loop_rg (n := 40) rfl (fun i τ' G' => G' = G ∧ ∃ z v, τ' = [some (.dat (.list (ns.map PyData.int))), some (.dat (.int (k : Nat))), some (.dat (.int r)), some (.dat (.int z)), v]) ⟨rfl, 0, none, rfl⟩ ?_ ?_⟩
    · rintro i τ' G' hi ⟨rfl, z, v, rfl⟩ N hN
      simp only [dSeq, dSet, dAsg, dDrop, dRet, dRetN, dIf, dB, dAnd, dOr, dNot, dAndV, dOrV, dNotV, dIfE, dVar, dC, dO2, dChn, dC1, dC2, dIx, dSl, dP, dNoP, dCall, dCons, dNil, dPure, dMut, dDisp, dTup, dLRg, dTRg, dR1, dR2, gN, gTp, gsNil, gsCons, dNext, dNever, dIsi, dNeg, dL1, dFor, dIt, dIRg1, dIRg2, dEn, dLc0, dYes, dMt, dMt0, dFzE, gIx, dCat, dRep, dSlL, dD0, dD1, dDictP, dPar, dPar3, dRevT, dRevS, dRevL, dIvals, dSortSet, dLkL, dForM, dFzs, dSortSetT, List.map_cons, List.map_nil, List.replicate, List.append_nil, List.cons_append, List.nil_append, List.getElem?_cons_zero, List.getElem?_cons_succ, List.set_cons_zero, List.set_cons_succ, Option.some.injEq, exists_eq_left', exists_eq_left, exists_and_left, and_assoc, or_false, false_or, see_d, isiF, Va.dat.injEq, PyData.bool.injEq, PyData.int.injEq, PyData.str.injEq, PyData.tuple.injEq, PyData.list.injEq, seeL, Option.map_some, wipeD, List.cons.injEq, and_true, true_and, if_true, Bool.false_eq_true, if_false, reduceCtorEq, Int.reduceLT, Int.reduceLE, Int.reduceNeg, and_self, addF_i, subF_i, modF_i, fdivF_i, eqF_int, neF_int, ltF_i, leF_i, gtF_i, geF_i, lenF_t, lenF_l, List.length_map, List.length_cons, List.length_nil, itemsD_t, itemsD_l, decide_true, decide_false, Bool.not_true, Bool.not_false, ixV_dd, ixF_t, ixF_l, tupF_t, tupF_l, min2F_i, max2F_i, dmF_i, absF_i, setO_l, inDF_t, inDF_l, notInDF_t, notInDF_l, ite_true, ite_false, mulI_r (show small 142857143 = true by decide)]
      exact mix_ok (by omega) fun y => ⟨_, rfl, _, rfl, hN _ _ ⟨rfl, _, _, rfl⟩⟩
    · rintro τ' G' ⟨rfl, z, v, rfl⟩
      simp only [dSeq, dSet, dAsg, dDrop, dRet, dRetN, dIf, dB, dAnd, dOr, dNot, dAndV, dOrV, dNotV, dIfE, dVar, dC, dO2, dChn, dC1, dC2, dIx, dSl, dP, dNoP, dCall, dCons, dNil, dPure, dMut, dDisp, dTup, dLRg, dTRg, dR1, dR2, gN, gTp, gsNil, gsCons, dNext, dNever, dIsi, dNeg, dL1, dFor, dIt, dIRg1, dIRg2, dEn, dLc0, dYes, dMt, dMt0, dFzE, gIx, dCat, dRep, dSlL, dD0, dD1, dDictP, dPar, dPar3, dRevT, dRevS, dRevL, dIvals, dSortSet, dLkL, dForM, dFzs, dSortSetT, List.map_cons, List.map_nil, List.replicate, List.append_nil, List.cons_append, List.nil_append, List.getElem?_cons_zero, List.getElem?_cons_succ, List.set_cons_zero, List.set_cons_succ, Option.some.injEq, exists_eq_left', exists_eq_left, exists_and_left, and_assoc, or_false, false_or, see_d, isiF, Va.dat.injEq, PyData.bool.injEq, PyData.int.injEq, PyData.str.injEq, PyData.tuple.injEq, PyData.list.injEq, seeL, Option.map_some, wipeD, List.cons.injEq, and_true, true_and, if_true, Bool.false_eq_true, if_false, reduceCtorEq, Int.reduceLT, Int.reduceLE, Int.reduceNeg, and_self, addF_i, subF_i, modF_i, fdivF_i, eqF_int, neF_int, ltF_i, leF_i, gtF_i, geF_i, lenF_t, lenF_l, List.length_map, List.length_cons, List.length_nil, itemsD_t, itemsD_l, decide_true, decide_false, Bool.not_true, Bool.not_false, ixV_dd, ixF_t, ixF_l, tupF_t, tupF_l, min2F_i, max2F_i, dmF_i, absF_i, setO_l, inDF_t, inDF_l, notInDF_t, notInDF_l, ite_true, ite_false]
      exact ⟨by rw [sizeLine_eq]; decide, fun p hp => ret_ok (h p _ hp ⟨_, gup_same⟩ fun b o e => by rw [gup_ne (fun q => by rw [q, hp] at e; cases e)]; exact e)⟩
/-- pop out of a list at a place -/
theorem popAt_ok {xs : List Va} {a : Addr} {r : Nat} {G : Gp} {Q : VQ} (g : G a = some (.lst xs)) (hr : r < xs.length) (hz : xs.length ≤ 1000) (h : Q (xs[r]'hr) (gup G a (.lst (xs.eraseIdx r)))) : mLM mPopAt (.ref a) [.dat (.int (r : Nat))] G Q := by
  refine ⟨a, xs, xs[r]'hr, xs.eraseIdx r, rfl, g, ⟨(r : Nat), r, rfl, by omega, by omega, ?_, by simp, rfl⟩, h⟩
  exact seqIndex_of (by omega) (by simpa using hr)

end DL.R

namespace DL.R
open PySem PySem.Spec PyProof.Rows L2 DL

/-- numbers as values -/
abbrev vN (l : List Nat) : List Va := l.map fun n => Va.dat (.int (n : Nat))
theorem rgD_vN (n : Nat) : (rgD 0 (n : Nat)).map Va.dat = vN (List.range n) := by
  rw [rgD_nat, List.map_map]; rfl
theorem seeL_vN (l : List Nat) : seeL (vN l) = some (l.map fun n => PyData.int (n : Nat)) := seeL_map (fun n : Nat => PyData.int (n : Nat)) l
theorem atI_N {l : List Nat} {i : Nat} {x : Nat} (h : l[i]? = some x) : atI (l.map fun n => PyData.int (n : Nat)) (i : Nat) = some (.int (x : Nat)) := by
  have hl := (List.getElem?_eq_some_iff.mp h).1
  unfold atI ixN
  rw [if_pos (by omega), if_pos (by simp; omega)]
  simp [h]
theorem atI_vN {l : List Nat} {i : Nat} {x : Nat} (h : l[i]? = some x) : atI (vN l) (i : Nat) = some (.dat (.int (x : Nat))) := by
  have hl := (List.getElem?_eq_some_iff.mp h).1
  unfold atI ixN
  rw [if_pos (by omega), if_pos (by simp; omega)]
  simp [h]
theorem perm_pop {l : List Nat} {r : Nat} (h : r < l.length) : l.Perm (l[r] :: l.eraseIdx r) := by
  induction l generalizing r with
  | nil => simp at h
  | cons a l ih =>
    cases r with
    | zero => simp
    | succ r =>
      have := ih (r := r) (by simpa using h)
      simp only [List.getElem_cons_succ, List.eraseIdx_cons_succ]
      exact (this.cons a).trans (List.Perm.swap _ _ _)
theorem erase_map {α β : Type} (f : α → β) : ∀ (l : List α) (r : Nat), (l.map f).eraseIdx r = (l.eraseIdx r).map f
  | [], _ => rfl
  | _ :: _, 0 => rfl
  | a :: l, r + 1 => by
    show f a :: (l.map f).eraseIdx r = f a :: (l.eraseIdx r).map f
    rw [erase_map f l r]
theorem drawn_deed_ok {a : Addr} {n : Nat} {G : Gp} {Q : VQ} (hb : Box G a) (h1 : 1 ≤ n) (h5 : n ≤ 5) (h : ∀ d G', IsDeed n d → BoxTo G a G' → Q (.dat (tN d)) G') : sp__law_drawn_deed [.ref a, .dat (.int (n : Nat))] G Q := by
  refine ⟨rfl, ?_⟩
  simp only [rd__law_drawn_deed, dSeq, dSet, dAsg, dDrop, dRet, dRetN, dIf, dB, dAnd, dOr, dNot, dAndV, dOrV, dNotV, dIfE, dVar, dC, dO2, dChn, dC1, dC2, dIx, dSl, dP, dNoP, dCall, dCons, dNil, dPure, dMut, dDisp, dTup, dLRg, dTRg, dR1, dR2, gN, gTp, gsNil, gsCons, dNext, dNever, dIsi, dNeg, dL1, dFor, dIt, dIRg1, dIRg2, dEn, dLc0, dYes, dMt, dMt0, dFzE, gIx, dCat, dRep, dSlL, dD0, dD1, dDictP, dPar, dPar3, dRevT, dRevS, dRevL, dIvals, dSortSet, dLkL, dForM, dFzs, dSortSetT, List.map_cons, List.map_nil, List.replicate, List.append_nil, List.cons_append, List.nil_append, List.getElem?_cons_zero, List.getElem?_cons_succ, List.set_cons_zero, List.set_cons_succ, Option.some.injEq, exists_eq_left', exists_eq_left, exists_and_left, and_assoc, or_false, false_or, see_d, isiF, Va.dat.injEq, PyData.bool.injEq, PyData.int.injEq, PyData.str.injEq, PyData.tuple.injEq, PyData.list.injEq, seeL, Option.map_some, wipeD, List.cons.injEq, and_true, true_and, if_true, Bool.false_eq_true, if_false, reduceCtorEq, Int.reduceLT, Int.reduceLE, Int.reduceNeg, and_self, addF_i, subF_i, modF_i, fdivF_i, eqF_int, neF_int, ltF_i, leF_i, gtF_i, geF_i, lenF_t, lenF_l, List.length_map, List.length_cons, List.length_nil, itemsD_t, itemsD_l, decide_true, decide_false, Bool.not_true, Bool.not_false, ixV_dd, ixF_t, ixF_l, tupF_t, tupF_l, min2F_i, max2F_i, dmF_i, absF_i, setO_l, inDF_t, inDF_l, notInDF_t, notInDF_l, ite_true, ite_false]
  refine ⟨RgOk.of_le (by omega) (by omega) (by omega) (by omega), fun p hp => ?_⟩
  have npa := hb.ne hp
  refine take_ok (BoxTo.own hb.refl hp npa).box (by decide) (by decide) fun way G1 hw b1 => ?_
  have b01 : BoxTo G a G1 := (BoxTo.own hb.refl hp npa).trans b1
  have g1 : G1 p = some (.lst (vN (List.range n))) := by
    have := b1.rest p _ npa gup_same
    rw [rgD_vN] at this
    exact this
  refine ⟨by omega, by omega, by rw [sizeLine_eq]; omega, ?_⟩
  refine lc_rg (n := n) (acc := []) rfl (fun i acc G' => ∃ as ls, acc = vN as ∧ as.length = i ∧ (as ++ ls).Perm (List.range n) ∧ G' p = some (.lst (vN ls)) ∧ BoxTo G a G') ⟨[], List.range n, rfl, rfl, .refl _, g1, b01⟩ ?_ ?_
  · rintro i acc G' hi ⟨as, ls, rfl, rfl, hpm, gp, bb⟩ N hN
    have hlen : as.length + ls.length = n := by
      have := hpm.length_eq
      rw [List.length_append, List.length_range] at this
      exact this
    simp only [dSeq, dSet, dAsg, dDrop, dRet, dRetN, dIf, dB, dAnd, dOr, dNot, dAndV, dOrV, dNotV, dIfE, dVar, dC, dO2, dChn, dC1, dC2, dIx, dSl, dP, dNoP, dCall, dCons, dNil, dPure, dMut, dDisp, dTup, dLRg, dTRg, dR1, dR2, gN, gTp, gsNil, gsCons, dNext, dNever, dIsi, dNeg, dL1, dFor, dIt, dIRg1, dIRg2, dEn, dLc0, dYes, dMt, dMt0, dFzE, gIx, dCat, dRep, dSlL, dD0, dD1, dDictP, dPar, dPar3, dRevT, dRevS, dRevL, dIvals, dSortSet, dLkL, dForM, dFzs, dSortSetT, List.map_cons, List.map_nil, List.replicate, List.append_nil, List.cons_append, List.nil_append, List.getElem?_cons_zero, List.getElem?_cons_succ, List.set_cons_zero, List.set_cons_succ, Option.some.injEq, exists_eq_left', exists_eq_left, exists_and_left, and_assoc, or_false, false_or, see_d, isiF, Va.dat.injEq, PyData.bool.injEq, PyData.int.injEq, PyData.str.injEq, PyData.tuple.injEq, PyData.list.injEq, seeL, Option.map_some, wipeD, List.cons.injEq, and_true, true_and, if_true, Bool.false_eq_true, if_false, reduceCtorEq, Int.reduceLT, Int.reduceLE, Int.reduceNeg, and_self, addF_i, subF_i, modF_i, fdivF_i, eqF_int, neF_int, ltF_i, leF_i, gtF_i, geF_i, lenF_t, lenF_l, List.length_map, List.length_cons, List.length_nil, itemsD_t, itemsD_l, decide_true, decide_false, Bool.not_true, Bool.not_false, ixV_dd, ixF_t, ixF_l, tupF_t, tupF_l, min2F_i, max2F_i, dmF_i, absF_i, setO_l, inDF_t, inDF_l, notInDF_t, notInDF_l, ite_true, ite_false]
    refine ⟨.inr ⟨p, _, rfl, gp⟩, .list (ls.map fun n => .int (n : Nat)), ?_, ?_⟩
    · show (match G' p with | some (.lst xs) => (seeL xs).map PyData.list | some (.dct kvs) => (seeKV kvs).map PyData.dict | _ => none) = _
      rw [gp]
      dsimp only
      rw [seeL_vN]; rfl
    simp only [dSeq, dSet, dAsg, dDrop, dRet, dRetN, dIf, dB, dAnd, dOr, dNot, dAndV, dOrV, dNotV, dIfE, dVar, dC, dO2, dChn, dC1, dC2, dIx, dSl, dP, dNoP, dCall, dCons, dNil, dPure, dMut, dDisp, dTup, dLRg, dTRg, dR1, dR2, gN, gTp, gsNil, gsCons, dNext, dNever, dIsi, dNeg, dL1, dFor, dIt, dIRg1, dIRg2, dEn, dLc0, dYes, dMt, dMt0, dFzE, gIx, dCat, dRep, dSlL, dD0, dD1, dDictP, dPar, dPar3, dRevT, dRevS, dRevL, dIvals, dSortSet, dLkL, dForM, dFzs, dSortSetT, List.map_cons, List.map_nil, List.replicate, List.append_nil, List.cons_append, List.nil_append, List.getElem?_cons_zero, List.getElem?_cons_succ, List.set_cons_zero, List.set_cons_succ, Option.some.injEq, exists_eq_left', exists_eq_left, exists_and_left, and_assoc, or_false, false_or, see_d, isiF, Va.dat.injEq, PyData.bool.injEq, PyData.int.injEq, PyData.str.injEq, PyData.tuple.injEq, PyData.list.injEq, seeL, Option.map_some, wipeD, List.cons.injEq, and_true, true_and, if_true, Bool.false_eq_true, if_false, reduceCtorEq, Int.reduceLT, Int.reduceLE, Int.reduceNeg, and_self, addF_i, subF_i, modF_i, fdivF_i, eqF_int, neF_int, ltF_i, leF_i, gtF_i, geF_i, lenF_t, lenF_l, List.length_map, List.length_cons, List.length_nil, itemsD_t, itemsD_l, decide_true, decide_false, Bool.not_true, Bool.not_false, ixV_dd, ixF_t, ixF_l, tupF_t, tupF_l, min2F_i, max2F_i, dmF_i, absF_i, setO_l, inDF_t, inDF_l, notInDF_t, notInDF_l, ite_true, ite_false]
    refine take_ok bb.box (by omega) (by omega) fun r G2 hr b2 => ?_
    have hr' : r < ls.length := by omega
    have g2 : G2 p = some (.lst (vN ls)) := b2.rest p _ npa gp
    refine popAt_ok g2 (by simpa using hr') (by simp; omega) ?_
    have e1 : (vN ls)[r]'(by simpa using hr') = .dat (.int (ls[r] : Nat)) := by simp
    rw [e1]
    refine hN _ _ ⟨as ++ [ls[r]], ls.eraseIdx r, by simp, by simp, ?_, ?_, (bb.trans b2).own hp npa⟩
    · refine List.Perm.trans ?_ hpm
      rw [List.append_assoc]
      exact (perm_pop hr').symm.append_left as
    · rw [gup_same]
      congr 2
      exact erase_map _ ls r
  · rintro acc G' ⟨as, ls, rfl, hl, hpm, gp, bb⟩
    have hls : ls = [] := by
      have := hpm.length_eq
      rw [List.length_append, List.length_range] at this
      exact List.eq_nil_of_length_eq_zero (by omega)
    subst hls
    rw [List.append_nil] at hpm
    have hd : IsDeed n as := hpm
    refine ⟨_, seeL_vN as, RgOk.of_le (by omega) (by omega) (by omega) (by omega), fun q hq => ?_⟩
    have nqa := bb.box.ne hq
    have hGq : G q = none := by
      cases e : G q with
      | none => rfl
      | some o => exact absurd (bb.rest q o nqa e) (by rw [hq]; simp)
    have bq : BoxTo G a (gup G' q (MO.lst (List.map Va.dat (rgD 0 (n : Nat))))) := bb.own hGq nqa
    have done : (bodyEnds Q).rt (Va.dat (PyData.tuple (List.map (fun n : Nat => PyData.int (n : Nat)) as))) (gup G' q (MO.lst (List.map Va.dat (rgD 0 (n : Nat))))) := ret_ok (h as _ hd bq)
    simp only [dSeq, dSet, dAsg, dDrop, dRet, dRetN, dIf, dB, dAnd, dOr, dNot, dAndV, dOrV, dNotV, dIfE, dVar, dC, dO2, dChn, dC1, dC2, dIx, dSl, dP, dNoP, dCall, dCons, dNil, dPure, dMut, dDisp, dTup, dLRg, dTRg, dR1, dR2, gN, gTp, gsNil, gsCons, dNext, dNever, dIsi, dNeg, dL1, dFor, dIt, dIRg1, dIRg2, dEn, dLc0, dYes, dMt, dMt0, dFzE, gIx, dCat, dRep, dSlL, dD0, dD1, dDictP, dPar, dPar3, dRevT, dRevS, dRevL, dIvals, dSortSet, dLkL, dForM, dFzs, dSortSetT, List.map_cons, List.map_nil, List.replicate, List.append_nil, List.cons_append, List.nil_append, List.getElem?_cons_zero, List.getElem?_cons_succ, List.set_cons_zero, List.set_cons_succ, Option.some.injEq, exists_eq_left', exists_eq_left, exists_and_left, and_assoc, or_false, false_or, see_d, isiF, Va.dat.injEq, PyData.bool.injEq, PyData.int.injEq, PyData.str.injEq, PyData.tuple.injEq, PyData.list.injEq, seeL, Option.map_some, wipeD, List.cons.injEq, and_true, true_and, if_true, Bool.false_eq_true, if_false, reduceCtorEq, Int.reduceLT, Int.reduceLE, Int.reduceNeg, and_self, addF_i, subF_i, modF_i, fdivF_i, eqF_int, neF_int, ltF_i, leF_i, gtF_i, geF_i, lenF_t, lenF_l, List.length_map, List.length_cons, List.length_nil, itemsD_t, itemsD_l, decide_true, decide_false, Bool.not_true, Bool.not_false, ixV_dd, ixF_t, ixF_l, tupF_t, tupF_l, min2F_i, max2F_i, dmF_i, absF_i, setO_l, inDF_t, inDF_l, notInDF_t, notInDF_l, ite_true, ite_false]
    by_cases hw0 : (way : Int) = 0
    · rw [if_pos (by simpa using hw0)]; exact done
    rw [if_neg (by simpa using hw0)]
    by_cases hn1 : (n : Int) = 1
    · rw [if_pos (by simpa using hn1)]; exact done
    rw [if_neg (by simpa using hn1)]
    refine ⟨by rw [sizeLine_eq]; decide, ?_⟩
    obtain ⟨e, he, hm, _⟩ := atI_nat (xs := [PyData.int 2, PyData.int 3, PyData.int (n : Nat), PyData.int 2]) (i := (way : Int) - 1) (by omega) (by simp; omega)
    obtain ⟨v, rfl, hv1⟩ : ∃ v : Nat, e = .int (v : Nat) ∧ 1 ≤ v := by
      simp only [List.mem_cons, List.not_mem_nil, or_false] at hm
      rcases hm with rfl | rfl | rfl | rfl
      · exact ⟨2, rfl, by omega⟩
      · exact ⟨3, rfl, by omega⟩
      · exact ⟨n, rfl, h1⟩
      · exact ⟨2, rfl, by omega⟩
    simp only [he, dSeq, dSet, dAsg, dDrop, dRet, dRetN, dIf, dB, dAnd, dOr, dNot, dAndV, dOrV, dNotV, dIfE, dVar, dC, dO2, dChn, dC1, dC2, dIx, dSl, dP, dNoP, dCall, dCons, dNil, dPure, dMut, dDisp, dTup, dLRg, dTRg, dR1, dR2, gN, gTp, gsNil, gsCons, dNext, dNever, dIsi, dNeg, dL1, dFor, dIt, dIRg1, dIRg2, dEn, dLc0, dYes, dMt, dMt0, dFzE, gIx, dCat, dRep, dSlL, dD0, dD1, dDictP, dPar, dPar3, dRevT, dRevS, dRevL, dIvals, dSortSet, dLkL, dForM, dFzs, dSortSetT, List.map_cons, List.map_nil, List.replicate, List.append_nil, List.cons_append, List.nil_append, List.getElem?_cons_zero, List.getElem?_cons_succ, List.set_cons_zero, List.set_cons_succ, Option.some.injEq, exists_eq_left', exists_eq_left, exists_and_left, and_assoc, or_false, false_or, see_d, isiF, Va.dat.injEq, PyData.bool.injEq, PyData.int.injEq, PyData.str.injEq, PyData.tuple.injEq, PyData.list.injEq, seeL, Option.map_some, wipeD, List.cons.injEq, and_true, true_and, if_true, Bool.false_eq_true, if_false, reduceCtorEq, Int.reduceLT, Int.reduceLE, Int.reduceNeg, and_self, addF_i, subF_i, modF_i, fdivF_i, eqF_int, neF_int, ltF_i, leF_i, gtF_i, geF_i, lenF_t, lenF_l, List.length_map, List.length_cons, List.length_nil, itemsD_t, itemsD_l, decide_true, decide_false, Bool.not_true, Bool.not_false, ixV_dd, ixF_t, ixF_l, tupF_t, tupF_l, min2F_i, max2F_i, dmF_i, absF_i, setO_l, inDF_t, inDF_l, notInDF_t, notInDF_l, ite_true, ite_false]
    obtain ⟨m, hm, hm1, hmn⟩ : ∃ m : Nat, (if (v : Int) < (n : Int) then (v : Int) else (n : Int)) = (m : Nat) ∧ 1 ≤ m ∧ m ≤ n := by
      by_cases hv : (v : Int) < (n : Int)
      · exact ⟨v, if_pos hv, hv1, by omega⟩
      · exact ⟨n, if_neg hv, h1, Nat.le_refl _⟩
    rw [hm]
    refine ⟨by omega, by omega, by rw [sizeLine_eq]; omega, ?_⟩
    refine loop_rg (n := m) rfl (fun i τ' G2 => ∃ f v, τ' = [some (.ref a), some (.dat (.int (n : Nat))), some (.ref p), some (.dat (.int (way : Nat))), some (.dat (.list (as.map fun n => PyData.int (n : Nat)))), some (.ref q), some (.dat (.int (m : Nat))), v, none] ∧ f.length = n ∧ G2 q = some (.lst (vN f)) ∧ BoxTo G a G2 ∧
      (∀ j x y, j < i → as[j]? = some x → as[(j + 1) % m]? = some y → f[x]? = some y) ∧ ∀ j x, i ≤ j → as[j]? = some x → f[x]? = some x)
      ⟨List.range n, none, rfl, List.length_range, by rw [gup_same, rgD_vN], bq, fun j x y hj => absurd hj (by omega), fun j x _ e => ?_⟩ ?_ ?_
    · have := hd.lt (List.mem_of_getElem? e)
      exact List.getElem?_range this
    · rintro i τ' G2 hi ⟨f, v, rfl, hf, g2, b2, f1, f2⟩ N hN
      have hil : i < as.length := by omega
      have hkl : (i + 1) % m < as.length := Nat.lt_of_lt_of_le (Nat.mod_lt _ (by omega)) (by omega)
      have ex : as[i]? = some as[i] := List.getElem?_eq_getElem hil
      have ey : as[(i + 1) % m]? = some as[(i + 1) % m] := List.getElem?_eq_getElem hkl
      have e1 := atI_N ex
      have e2 := atI_N ey
      have e3 : ((i : Int) + 1) % (m : Int) = (((i + 1) % m : Nat) : Int) := by push_cast; rfl
      simp only [dSeq, dSet, dAsg, dDrop, dRet, dRetN, dIf, dB, dAnd, dOr, dNot, dAndV, dOrV, dNotV, dIfE, dVar, dC, dO2, dChn, dC1, dC2, dIx, dSl, dP, dNoP, dCall, dCons, dNil, dPure, dMut, dDisp, dTup, dLRg, dTRg, dR1, dR2, gN, gTp, gsNil, gsCons, dNext, dNever, dIsi, dNeg, dL1, dFor, dIt, dIRg1, dIRg2, dEn, dLc0, dYes, dMt, dMt0, dFzE, gIx, dCat, dRep, dSlL, dD0, dD1, dDictP, dPar, dPar3, dRevT, dRevS, dRevL, dIvals, dSortSet, dLkL, dForM, dFzs, dSortSetT, List.map_cons, List.map_nil, List.replicate, List.append_nil, List.cons_append, List.nil_append, List.getElem?_cons_zero, List.getElem?_cons_succ, List.set_cons_zero, List.set_cons_succ, Option.some.injEq, exists_eq_left', exists_eq_left, exists_and_left, and_assoc, or_false, false_or, see_d, isiF, Va.dat.injEq, PyData.bool.injEq, PyData.int.injEq, PyData.str.injEq, PyData.tuple.injEq, PyData.list.injEq, seeL, Option.map_some, wipeD, List.cons.injEq, and_true, true_and, if_true, Bool.false_eq_true, if_false, reduceCtorEq, Int.reduceLT, Int.reduceLE, Int.reduceNeg, and_self, addF_i, subF_i, modF_i, fdivF_i, eqF_int, neF_int, ltF_i, leF_i, gtF_i, geF_i, lenF_t, lenF_l, List.length_map, List.length_cons, List.length_nil, itemsD_t, itemsD_l, decide_true, decide_false, Bool.not_true, Bool.not_false, ixV_dd, ixF_t, ixF_l, tupF_t, tupF_l, min2F_i, max2F_i, dmF_i, absF_i, setO_l, inDF_t, inDF_l, notInDF_t, notInDF_l, ite_true, ite_false, e3, e1, e2, show (0 : Int) < (m : Int) from by omega]
      have hx : as[i] < n := hd.lt (List.getElem_mem hil)
      refine ⟨q, rfl, .lst (vN f), g2, .lst ((vN f).set as[i] (.dat (.int (as[(i + 1) % m] : Nat)))), ⟨(as[i] : Nat), as[i], rfl, ?_, rfl⟩, ?_⟩
      · unfold ixN
        rw [if_pos (by omega), if_pos (by simp; omega)]
        simp
      refine hN _ _ ⟨f.set as[i] as[(i + 1) % m], _, rfl, by simpa using hf, ?_, b2.own hGq nqa, fun j x y hj e4 e5 => ?_, fun j x hj e4 => ?_⟩
      · rw [gup_same]
        congr 2
        unfold vN
        rw [List.map_set]
      · by_cases hji : j = i
        · subst hji
          rw [ex] at e4
          rw [ey] at e5
          cases e4
          cases e5
          rw [List.getElem?_set_self (by omega)]
        · have hne : as[i] ≠ x := fun z => by
            subst z
            exact hji ((List.getElem?_inj (l := as) (i := i) (j := j) hil hd.nodup).mp (ex.trans e4.symm)).symm
          rw [List.getElem?_set_ne hne]
          exact f1 j x y (by omega) e4 e5
      · have hne : as[i] ≠ x := fun z => by
          subst z
          have := (List.getElem?_inj (l := as) (i := i) (j := j) hil hd.nodup).mp (ex.trans e4.symm)
          omega
        rw [List.getElem?_set_ne hne]
        exact f2 j x (by omega) e4
    · rintro τ' G2 ⟨f, v, rfl, hf, g2, b2, f1, f2⟩
      simp only [dSeq, dSet, dAsg, dDrop, dRet, dRetN, dIf, dB, dAnd, dOr, dNot, dAndV, dOrV, dNotV, dIfE, dVar, dC, dO2, dChn, dC1, dC2, dIx, dSl, dP, dNoP, dCall, dCons, dNil, dPure, dMut, dDisp, dTup, dLRg, dTRg, dR1, dR2, gN, gTp, gsNil, gsCons, dNext, dNever, dIsi, dNeg, dL1, dFor, dIt, dIRg1, dIRg2, dEn, dLc0, dYes, dMt, dMt0, dFzE, gIx, dCat, dRep, dSlL, dD0, dD1, dDictP, dPar, dPar3, dRevT, dRevS, dRevL, dIvals, dSortSet, dLkL, dForM, dFzs, dSortSetT, List.map_cons, List.map_nil, List.replicate, List.append_nil, List.cons_append, List.nil_append, List.getElem?_cons_zero, List.getElem?_cons_succ, List.set_cons_zero, List.set_cons_succ, Option.some.injEq, exists_eq_left', exists_eq_left, exists_and_left, and_assoc, or_false, false_or, see_d, isiF, Va.dat.injEq, PyData.bool.injEq, PyData.int.injEq, PyData.str.injEq, PyData.tuple.injEq, PyData.list.injEq, seeL, Option.map_some, wipeD, List.cons.injEq, and_true, true_and, if_true, Bool.false_eq_true, if_false, reduceCtorEq, Int.reduceLT, Int.reduceLE, Int.reduceNeg, and_self, addF_i, subF_i, modF_i, fdivF_i, eqF_int, neF_int, ltF_i, leF_i, gtF_i, geF_i, lenF_t, lenF_l, List.length_map, List.length_cons, List.length_nil, itemsD_t, itemsD_l, decide_true, decide_false, Bool.not_true, Bool.not_false, ixV_dd, ixF_t, ixF_l, tupF_t, tupF_l, min2F_i, max2F_i, dmF_i, absF_i, setO_l, inDF_t, inDF_l, notInDF_t, notInDF_l, ite_true, ite_false]
      refine ⟨.list (f.map fun n => .int (n : Nat)), ?_, ?_⟩
      · show (match G2 q with | some (.lst xs) => (seeL xs).map PyData.list | some (.dct kvs) => (seeKV kvs).map PyData.dict | _ => none) = _
        rw [g2]
        dsimp only
        rw [seeL_vN]; rfl
      simp only [dSeq, dSet, dAsg, dDrop, dRet, dRetN, dIf, dB, dAnd, dOr, dNot, dAndV, dOrV, dNotV, dIfE, dVar, dC, dO2, dChn, dC1, dC2, dIx, dSl, dP, dNoP, dCall, dCons, dNil, dPure, dMut, dDisp, dTup, dLRg, dTRg, dR1, dR2, gN, gTp, gsNil, gsCons, dNext, dNever, dIsi, dNeg, dL1, dFor, dIt, dIRg1, dIRg2, dEn, dLc0, dYes, dMt, dMt0, dFzE, gIx, dCat, dRep, dSlL, dD0, dD1, dDictP, dPar, dPar3, dRevT, dRevS, dRevL, dIvals, dSortSet, dLkL, dForM, dFzs, dSortSetT, List.map_cons, List.map_nil, List.replicate, List.append_nil, List.cons_append, List.nil_append, List.getElem?_cons_zero, List.getElem?_cons_succ, List.set_cons_zero, List.set_cons_succ, Option.some.injEq, exists_eq_left', exists_eq_left, exists_and_left, and_assoc, or_false, false_or, see_d, isiF, Va.dat.injEq, PyData.bool.injEq, PyData.int.injEq, PyData.str.injEq, PyData.tuple.injEq, PyData.list.injEq, seeL, Option.map_some, wipeD, List.cons.injEq, and_true, true_and, if_true, Bool.false_eq_true, if_false, reduceCtorEq, Int.reduceLT, Int.reduceLE, Int.reduceNeg, and_self, addF_i, subF_i, modF_i, fdivF_i, eqF_int, neF_int, ltF_i, leF_i, gtF_i, geF_i, lenF_t, lenF_l, List.length_map, List.length_cons, List.length_nil, itemsD_t, itemsD_l, decide_true, decide_false, Bool.not_true, Bool.not_false, ixV_dd, ixF_t, ixF_l, tupF_t, tupF_l, min2F_i, max2F_i, dmF_i, absF_i, setO_l, inDF_t, inDF_l, notInDF_t, notInDF_l, ite_true, ite_false]
      exact ret_ok (h f G2 (ring_perm hd hmn hf f1 f2) b2)

end DL.R

namespace DL.R
open PySem PySem.Spec PyProof.Rows L2 DL

theorem append_ok {xs : List Va} {a : Addr} {x : Va} {G : Gp} {Q : VQ} (g : G a = some (.lst xs)) (hz : xs.length ≤ 1000000) (h : Q (.dat .none) (gup G a (.lst (xs ++ [x])))) : mLM mAppend (.ref a) [x] G Q :=
  ⟨a, xs, .dat .none, xs ++ [x], rfl, g, ⟨x, rfl, by rw [sizeLine_eq]; omega, rfl, rfl⟩, h⟩
theorem seeR {G : Gp} {a : Addr} {xs : List Va} {ds : List PyData} (g : G a = some (.lst xs)) (h : seeL xs = some ds) : see G (.ref a) = some (.list ds) := by
  show (match G a with | some (.lst xs) => (seeL xs).map PyData.list | some (.dct kvs) => (seeKV kvs).map PyData.dict | _ => none) = _
  rw [g]
  dsimp only
  rw [h]; rfl
theorem drawn_puzzle_ok {a : Addr} {most : Nat} {G : Gp} {Q : VQ} (hb : Box G a) (h1 : 1 ≤ most) (h5 : most ≤ 5) (h : ∀ n p G', n ≤ most → IsPuz n p → BoxTo G a G' → Q (.dat (tP p)) G') : sp__law_drawn_puzzle [.ref a, .dat (.int (most : Nat))] G Q := by
  refine ⟨rfl, ?_⟩
  simp only [rd__law_drawn_puzzle, dSeq, dSet, dAsg, dDrop, dRet, dRetN, dIf, dB, dAnd, dOr, dNot, dAndV, dOrV, dNotV, dIfE, dVar, dC, dO2, dChn, dC1, dC2, dIx, dSl, dP, dNoP, dCall, dCons, dNil, dPure, dMut, dDisp, dTup, dLRg, dTRg, dR1, dR2, gN, gTp, gsNil, gsCons, dNext, dNever, dIsi, dNeg, dL1, dFor, dIt, dIRg1, dIRg2, dEn, dLc0, dYes, dMt, dMt0, dFzE, gIx, dCat, dRep, dSlL, dD0, dD1, dDictP, dPar, dPar3, dRevT, dRevS, dRevL, dIvals, dSortSet, dLkL, dForM, dFzs, dSortSetT, List.map_cons, List.map_nil, List.replicate, List.append_nil, List.cons_append, List.nil_append, List.getElem?_cons_zero, List.getElem?_cons_succ, List.set_cons_zero, List.set_cons_succ, Option.some.injEq, exists_eq_left', exists_eq_left, exists_and_left, and_assoc, or_false, false_or, see_d, isiF, Va.dat.injEq, PyData.bool.injEq, PyData.int.injEq, PyData.str.injEq, PyData.tuple.injEq, PyData.list.injEq, seeL, Option.map_some, wipeD, List.cons.injEq, and_true, true_and, if_true, Bool.false_eq_true, if_false, reduceCtorEq, Int.reduceLT, Int.reduceLE, Int.reduceNeg, and_self, addF_i, subF_i, modF_i, fdivF_i, eqF_int, neF_int, ltF_i, leF_i, gtF_i, geF_i, lenF_t, lenF_l, List.length_map, List.length_cons, List.length_nil, itemsD_t, itemsD_l, decide_true, decide_false, Bool.not_true, Bool.not_false, ixV_dd, ixF_t, ixF_l, tupF_t, tupF_l, min2F_i, max2F_i, dmF_i, absF_i, setO_l, inDF_t, inDF_l, notInDF_t, notInDF_l, ite_true, ite_false]
  refine take_ok hb (by omega) (by omega) fun r G1 hr b1 => ?_
  simp only [dSeq, dSet, dAsg, dDrop, dRet, dRetN, dIf, dB, dAnd, dOr, dNot, dAndV, dOrV, dNotV, dIfE, dVar, dC, dO2, dChn, dC1, dC2, dIx, dSl, dP, dNoP, dCall, dCons, dNil, dPure, dMut, dDisp, dTup, dLRg, dTRg, dR1, dR2, gN, gTp, gsNil, gsCons, dNext, dNever, dIsi, dNeg, dL1, dFor, dIt, dIRg1, dIRg2, dEn, dLc0, dYes, dMt, dMt0, dFzE, gIx, dCat, dRep, dSlL, dD0, dD1, dDictP, dPar, dPar3, dRevT, dRevS, dRevL, dIvals, dSortSet, dLkL, dForM, dFzs, dSortSetT, List.map_cons, List.map_nil, List.replicate, List.append_nil, List.cons_append, List.nil_append, List.getElem?_cons_zero, List.getElem?_cons_succ, List.set_cons_zero, List.set_cons_succ, Option.some.injEq, exists_eq_left', exists_eq_left, exists_and_left, and_assoc, or_false, false_or, see_d, isiF, Va.dat.injEq, PyData.bool.injEq, PyData.int.injEq, PyData.str.injEq, PyData.tuple.injEq, PyData.list.injEq, seeL, Option.map_some, wipeD, List.cons.injEq, and_true, true_and, if_true, Bool.false_eq_true, if_false, reduceCtorEq, Int.reduceLT, Int.reduceLE, Int.reduceNeg, and_self, addF_i, subF_i, modF_i, fdivF_i, eqF_int, neF_int, ltF_i, leF_i, gtF_i, geF_i, lenF_t, lenF_l, List.length_map, List.length_cons, List.length_nil, itemsD_t, itemsD_l, decide_true, decide_false, Bool.not_true, Bool.not_false, ixV_dd, ixF_t, ixF_l, tupF_t, tupF_l, min2F_i, max2F_i, dmF_i, absF_i, setO_l, inDF_t, inDF_l, notInDF_t, notInDF_l, ite_true, ite_false]
  refine ⟨Nat.zero_le _, fun p hp => ?_⟩
  have npa := b1.box.ne hp
  have hGp : G p = none := by
    cases e : G p with
    | none => rfl
    | some o => exact absurd (b1.rest p o npa e) (by rw [hp]; simp)
  refine take_ok (b1.own hGp npa).box (by omega) (by omega) fun m G2 hm b2 => ?_
  have b02 : BoxTo G a G2 := (b1.own hGp npa).trans b2
  simp only [dSeq, dSet, dAsg, dDrop, dRet, dRetN, dIf, dB, dAnd, dOr, dNot, dAndV, dOrV, dNotV, dIfE, dVar, dC, dO2, dChn, dC1, dC2, dIx, dSl, dP, dNoP, dCall, dCons, dNil, dPure, dMut, dDisp, dTup, dLRg, dTRg, dR1, dR2, gN, gTp, gsNil, gsCons, dNext, dNever, dIsi, dNeg, dL1, dFor, dIt, dIRg1, dIRg2, dEn, dLc0, dYes, dMt, dMt0, dFzE, gIx, dCat, dRep, dSlL, dD0, dD1, dDictP, dPar, dPar3, dRevT, dRevS, dRevL, dIvals, dSortSet, dLkL, dForM, dFzs, dSortSetT, List.map_cons, List.map_nil, List.replicate, List.append_nil, List.cons_append, List.nil_append, List.getElem?_cons_zero, List.getElem?_cons_succ, List.set_cons_zero, List.set_cons_succ, Option.some.injEq, exists_eq_left', exists_eq_left, exists_and_left, and_assoc, or_false, false_or, see_d, isiF, Va.dat.injEq, PyData.bool.injEq, PyData.int.injEq, PyData.str.injEq, PyData.tuple.injEq, PyData.list.injEq, seeL, Option.map_some, wipeD, List.cons.injEq, and_true, true_and, if_true, Bool.false_eq_true, if_false, reduceCtorEq, Int.reduceLT, Int.reduceLE, Int.reduceNeg, and_self, addF_i, subF_i, modF_i, fdivF_i, eqF_int, neF_int, ltF_i, leF_i, gtF_i, geF_i, lenF_t, lenF_l, List.length_map, List.length_cons, List.length_nil, itemsD_t, itemsD_l, decide_true, decide_false, Bool.not_true, Bool.not_false, ixV_dd, ixF_t, ixF_l, tupF_t, tupF_l, min2F_i, max2F_i, dmF_i, absF_i, setO_l, inDF_t, inDF_l, notInDF_t, notInDF_l, ite_true, ite_false]
  refine ⟨by omega, by omega, by rw [sizeLine_eq]; omega, ?_⟩
  have e1 : (1 : Int) + (r : Int) = ((r + 1 : Nat) : Int) := by omega
  have e2 : (1 : Int) + (m : Int) = ((m + 1 : Nat) : Int) := by omega
  rw [e1]
  refine loop_rg (n := m + 1) e2 (fun i τ' G' => ∃ v ps, τ' = [some (.ref a), some (.dat (.int (most : Nat))), some (.dat (.int ((r + 1 : Nat) : Int))), some (.ref p), v] ∧ List.length ps = i ∧ (∀ d ∈ ps, IsDeed (r + 1) d) ∧ G' p = some (.lst (ps.map fun d => .dat (tN d))) ∧ BoxTo G a G')
    ⟨none, [], rfl, rfl, fun d hd => (List.not_mem_nil hd).elim, ?_, b02⟩ ?_ ?_
  · exact b2.rest p _ npa gup_same
  · rintro i τ' G' hi ⟨v, ps, rfl, hl, hd, gp, bb⟩ N hN
    simp only [dSeq, dSet, dAsg, dDrop, dRet, dRetN, dIf, dB, dAnd, dOr, dNot, dAndV, dOrV, dNotV, dIfE, dVar, dC, dO2, dChn, dC1, dC2, dIx, dSl, dP, dNoP, dCall, dCons, dNil, dPure, dMut, dDisp, dTup, dLRg, dTRg, dR1, dR2, gN, gTp, gsNil, gsCons, dNext, dNever, dIsi, dNeg, dL1, dFor, dIt, dIRg1, dIRg2, dEn, dLc0, dYes, dMt, dMt0, dFzE, gIx, dCat, dRep, dSlL, dD0, dD1, dDictP, dPar, dPar3, dRevT, dRevS, dRevL, dIvals, dSortSet, dLkL, dForM, dFzs, dSortSetT, List.map_cons, List.map_nil, List.replicate, List.append_nil, List.cons_append, List.nil_append, List.getElem?_cons_zero, List.getElem?_cons_succ, List.set_cons_zero, List.set_cons_succ, Option.some.injEq, exists_eq_left', exists_eq_left, exists_and_left, and_assoc, or_false, false_or, see_d, isiF, Va.dat.injEq, PyData.bool.injEq, PyData.int.injEq, PyData.str.injEq, PyData.tuple.injEq, PyData.list.injEq, seeL, Option.map_some, wipeD, List.cons.injEq, and_true, true_and, if_true, Bool.false_eq_true, if_false, reduceCtorEq, Int.reduceLT, Int.reduceLE, Int.reduceNeg, and_self, addF_i, subF_i, modF_i, fdivF_i, eqF_int, neF_int, ltF_i, leF_i, gtF_i, geF_i, lenF_t, lenF_l, List.length_map, List.length_cons, List.length_nil, itemsD_t, itemsD_l, decide_true, decide_false, Bool.not_true, Bool.not_false, ixV_dd, ixF_t, ixF_l, tupF_t, tupF_l, min2F_i, max2F_i, dmF_i, absF_i, setO_l, inDF_t, inDF_l, notInDF_t, notInDF_l, ite_true, ite_false]
    refine ⟨.inr ⟨p, _, rfl, gp⟩, ?_⟩
    refine drawn_deed_ok bb.box (by omega) (by omega) fun d G3 hd3 b3 => ?_
    refine append_ok (b3.rest p _ npa gp) (by simp; omega) ?_
    refine hN _ _ ⟨_, ps ++ [d], rfl, by simp [hl], fun x hx => ?_, ?_, (bb.trans b3).own hGp npa⟩
    · rcases List.mem_append.mp hx with q | q
      · exact hd x q
      · rw [List.mem_singleton.mp q]; exact hd3
    · rw [gup_same]; simp
  · rintro τ' G' ⟨v, ps, rfl, hl, hd, gp, bb⟩
    simp only [dSeq, dSet, dAsg, dDrop, dRet, dRetN, dIf, dB, dAnd, dOr, dNot, dAndV, dOrV, dNotV, dIfE, dVar, dC, dO2, dChn, dC1, dC2, dIx, dSl, dP, dNoP, dCall, dCons, dNil, dPure, dMut, dDisp, dTup, dLRg, dTRg, dR1, dR2, gN, gTp, gsNil, gsCons, dNext, dNever, dIsi, dNeg, dL1, dFor, dIt, dIRg1, dIRg2, dEn, dLc0, dYes, dMt, dMt0, dFzE, gIx, dCat, dRep, dSlL, dD0, dD1, dDictP, dPar, dPar3, dRevT, dRevS, dRevL, dIvals, dSortSet, dLkL, dForM, dFzs, dSortSetT, List.map_cons, List.map_nil, List.replicate, List.append_nil, List.cons_append, List.nil_append, List.getElem?_cons_zero, List.getElem?_cons_succ, List.set_cons_zero, List.set_cons_succ, Option.some.injEq, exists_eq_left', exists_eq_left, exists_and_left, and_assoc, or_false, false_or, see_d, isiF, Va.dat.injEq, PyData.bool.injEq, PyData.int.injEq, PyData.str.injEq, PyData.tuple.injEq, PyData.list.injEq, seeL, Option.map_some, wipeD, List.cons.injEq, and_true, true_and, if_true, Bool.false_eq_true, if_false, reduceCtorEq, Int.reduceLT, Int.reduceLE, Int.reduceNeg, and_self, addF_i, subF_i, modF_i, fdivF_i, eqF_int, neF_int, ltF_i, leF_i, gtF_i, geF_i, lenF_t, lenF_l, List.length_map, List.length_cons, List.length_nil, itemsD_t, itemsD_l, decide_true, decide_false, Bool.not_true, Bool.not_false, ixV_dd, ixF_t, ixF_l, tupF_t, tupF_l, min2F_i, max2F_i, dmF_i, absF_i, setO_l, inDF_t, inDF_l, notInDF_t, notInDF_l, ite_true, ite_false]
    refine ⟨_, seeR gp (seeL_map tN ps), ?_⟩
    simp only [dSeq, dSet, dAsg, dDrop, dRet, dRetN, dIf, dB, dAnd, dOr, dNot, dAndV, dOrV, dNotV, dIfE, dVar, dC, dO2, dChn, dC1, dC2, dIx, dSl, dP, dNoP, dCall, dCons, dNil, dPure, dMut, dDisp, dTup, dLRg, dTRg, dR1, dR2, gN, gTp, gsNil, gsCons, dNext, dNever, dIsi, dNeg, dL1, dFor, dIt, dIRg1, dIRg2, dEn, dLc0, dYes, dMt, dMt0, dFzE, gIx, dCat, dRep, dSlL, dD0, dD1, dDictP, dPar, dPar3, dRevT, dRevS, dRevL, dIvals, dSortSet, dLkL, dForM, dFzs, dSortSetT, List.map_cons, List.map_nil, List.replicate, List.append_nil, List.cons_append, List.nil_append, List.getElem?_cons_zero, List.getElem?_cons_succ, List.set_cons_zero, List.set_cons_succ, Option.some.injEq, exists_eq_left', exists_eq_left, exists_and_left, and_assoc, or_false, false_or, see_d, isiF, Va.dat.injEq, PyData.bool.injEq, PyData.int.injEq, PyData.str.injEq, PyData.tuple.injEq, PyData.list.injEq, seeL, Option.map_some, wipeD, List.cons.injEq, and_true, true_and, if_true, Bool.false_eq_true, if_false, reduceCtorEq, Int.reduceLT, Int.reduceLE, Int.reduceNeg, and_self, addF_i, subF_i, modF_i, fdivF_i, eqF_int, neF_int, ltF_i, leF_i, gtF_i, geF_i, lenF_t, lenF_l, List.length_map, List.length_cons, List.length_nil, itemsD_t, itemsD_l, decide_true, decide_false, Bool.not_true, Bool.not_false, ixV_dd, ixF_t, ixF_l, tupF_t, tupF_l, min2F_i, max2F_i, dmF_i, absF_i, setO_l, inDF_t, inDF_l, notInDF_t, notInDF_l, ite_true, ite_false]
    exact ret_ok (h (r + 1) ps G' (by omega) ⟨by omega, by omega, by omega, by omega, hd⟩ bb)
theorem law_home_ok {n : Nat} {p : List (List Nat)} {G : Gp} {Q : VQ} (hp : IsPuz n p) (h : Q (.dat (tN (List.range n))) G) : sp__law_home [.dat (tP p)] G Q := by
  refine ⟨rfl, ?_⟩
  obtain ⟨d0, hd0, hl0⟩ := puz_first hp
  have h5 := hp.n5
  simp only [rd__law_home, dSeq, dSet, dAsg, dDrop, dRet, dRetN, dIf, dB, dAnd, dOr, dNot, dAndV, dOrV, dNotV, dIfE, dVar, dC, dO2, dChn, dC1, dC2, dIx, dSl, dP, dNoP, dCall, dCons, dNil, dPure, dMut, dDisp, dTup, dLRg, dTRg, dR1, dR2, gN, gTp, gsNil, gsCons, dNext, dNever, dIsi, dNeg, dL1, dFor, dIt, dIRg1, dIRg2, dEn, dLc0, dYes, dMt, dMt0, dFzE, gIx, dCat, dRep, dSlL, dD0, dD1, dDictP, dPar, dPar3, dRevT, dRevS, dRevL, dIvals, dSortSet, dLkL, dForM, dFzs, dSortSetT, List.map_cons, List.map_nil, List.replicate, List.append_nil, List.cons_append, List.nil_append, List.getElem?_cons_zero, List.getElem?_cons_succ, List.set_cons_zero, List.set_cons_succ, Option.some.injEq, exists_eq_left', exists_eq_left, exists_and_left, and_assoc, or_false, false_or, see_d, isiF, Va.dat.injEq, PyData.bool.injEq, PyData.int.injEq, PyData.str.injEq, PyData.tuple.injEq, PyData.list.injEq, seeL, Option.map_some, wipeD, List.cons.injEq, and_true, true_and, if_true, Bool.false_eq_true, if_false, reduceCtorEq, Int.reduceLT, Int.reduceLE, Int.reduceNeg, and_self, addF_i, subF_i, modF_i, fdivF_i, eqF_int, neF_int, ltF_i, leF_i, gtF_i, geF_i, lenF_t, lenF_l, List.length_map, List.length_cons, List.length_nil, itemsD_t, itemsD_l, decide_true, decide_false, Bool.not_true, Bool.not_false, ixV_dd, ixF_t, ixF_l, tupF_t, tupF_l, min2F_i, max2F_i, dmF_i, absF_i, setO_l, inDF_t, inDF_l, notInDF_t, notInDF_l, ite_true, ite_false, tP, hd0, tN, hl0]
  refine ⟨RgOk.of_le (by omega) (by omega) (by omega) (by omega), ret_ok ?_⟩
  rw [rgD_nat]
  exact h
theorem drawn_stand_ok {a : Addr} {n : Nat} {p : List (List Nat)} {G : Gp} {Q : VQ} (hb : Box G a) (hp : IsPuz n p) (h : ∀ d G', IsDeed n d → BoxTo G a G' → Q (.dat (tN d)) G') : sp__law_drawn_stand [.ref a, .dat (tP p)] G Q := by
  refine ⟨rfl, ?_⟩
  obtain ⟨d0, hd0, hl0⟩ := puz_first hp
  have h5 := hp.n5
  simp only [rd__law_drawn_stand, dSeq, dSet, dAsg, dDrop, dRet, dRetN, dIf, dB, dAnd, dOr, dNot, dAndV, dOrV, dNotV, dIfE, dVar, dC, dO2, dChn, dC1, dC2, dIx, dSl, dP, dNoP, dCall, dCons, dNil, dPure, dMut, dDisp, dTup, dLRg, dTRg, dR1, dR2, gN, gTp, gsNil, gsCons, dNext, dNever, dIsi, dNeg, dL1, dFor, dIt, dIRg1, dIRg2, dEn, dLc0, dYes, dMt, dMt0, dFzE, gIx, dCat, dRep, dSlL, dD0, dD1, dDictP, dPar, dPar3, dRevT, dRevS, dRevL, dIvals, dSortSet, dLkL, dForM, dFzs, dSortSetT, List.map_cons, List.map_nil, List.replicate, List.append_nil, List.cons_append, List.nil_append, List.getElem?_cons_zero, List.getElem?_cons_succ, List.set_cons_zero, List.set_cons_succ, Option.some.injEq, exists_eq_left', exists_eq_left, exists_and_left, and_assoc, or_false, false_or, see_d, isiF, Va.dat.injEq, PyData.bool.injEq, PyData.int.injEq, PyData.str.injEq, PyData.tuple.injEq, PyData.list.injEq, seeL, Option.map_some, wipeD, List.cons.injEq, and_true, true_and, if_true, Bool.false_eq_true, if_false, reduceCtorEq, Int.reduceLT, Int.reduceLE, Int.reduceNeg, and_self, addF_i, subF_i, modF_i, fdivF_i, eqF_int, neF_int, ltF_i, leF_i, gtF_i, geF_i, lenF_t, lenF_l, List.length_map, List.length_cons, List.length_nil, itemsD_t, itemsD_l, decide_true, decide_false, Bool.not_true, Bool.not_false, ixV_dd, ixF_t, ixF_l, tupF_t, tupF_l, min2F_i, max2F_i, dmF_i, absF_i, setO_l, inDF_t, inDF_l, notInDF_t, notInDF_l, ite_true, ite_false, tP, hd0, tN, hl0]
  refine ⟨RgOk.of_le (by omega) (by omega) (by omega) (by omega), fun q hq => ⟨Nat.zero_le _, fun r hr => ?_⟩⟩
  have nqa := hb.ne hq
  have nrq : r ≠ q := fun e => by rw [e, gup_same] at hr; cases hr
  have hGr : G r = none := by rw [gup_ne nrq] at hr; exact hr
  have nra := hb.ne hGr
  have b0 : BoxTo G a (gup (gup G q (.lst ((rgD 0 (n : Nat)).map Va.dat))) r (.lst [])) := (hb.refl.own hq nqa).own hGr nra
  refine ⟨fun τ' G' => ∃ fs ls, τ' = [some (.ref a), some (.dat (.tuple (p.map tN))), some (.ref q), some (.ref r)] ∧ (fs ++ ls).Perm (List.range n) ∧ G' q = some (.lst (vN ls)) ∧ G' r = some (.lst (vN fs)) ∧ BoxTo G a G',
    fun _ G' => match G' q with
      | some (.lst xs) => xs.length
      | _ => 0, ⟨[], List.range n, rfl, .refl _, ?_, gup_same, b0⟩, ?_⟩
  · rw [gup_ne (Ne.symm nrq), gup_same, rgD_vN]
  rintro τ' G' ⟨fs, ls, rfl, hpm, gq, gr, bb⟩
  have hlen : fs.length + ls.length = n := by
    have := hpm.length_eq
    rw [List.length_append, List.length_range] at this
    exact this
  simp only [dSeq, dSet, dAsg, dDrop, dRet, dRetN, dIf, dB, dAnd, dOr, dNot, dAndV, dOrV, dNotV, dIfE, dVar, dC, dO2, dChn, dC1, dC2, dIx, dSl, dP, dNoP, dCall, dCons, dNil, dPure, dMut, dDisp, dTup, dLRg, dTRg, dR1, dR2, gN, gTp, gsNil, gsCons, dNext, dNever, dIsi, dNeg, dL1, dFor, dIt, dIRg1, dIRg2, dEn, dLc0, dYes, dMt, dMt0, dFzE, gIx, dCat, dRep, dSlL, dD0, dD1, dDictP, dPar, dPar3, dRevT, dRevS, dRevL, dIvals, dSortSet, dLkL, dForM, dFzs, dSortSetT, List.map_cons, List.map_nil, List.replicate, List.append_nil, List.cons_append, List.nil_append, List.getElem?_cons_zero, List.getElem?_cons_succ, List.set_cons_zero, List.set_cons_succ, Option.some.injEq, exists_eq_left', exists_eq_left, exists_and_left, and_assoc, or_false, false_or, see_d, isiF, Va.dat.injEq, PyData.bool.injEq, PyData.int.injEq, PyData.str.injEq, PyData.tuple.injEq, PyData.list.injEq, seeL, Option.map_some, wipeD, List.cons.injEq, and_true, true_and, if_true, Bool.false_eq_true, if_false, reduceCtorEq, Int.reduceLT, Int.reduceLE, Int.reduceNeg, and_self, addF_i, subF_i, modF_i, fdivF_i, eqF_int, neF_int, ltF_i, leF_i, gtF_i, geF_i, lenF_t, lenF_l, List.length_map, List.length_cons, List.length_nil, itemsD_t, itemsD_l, decide_true, decide_false, Bool.not_true, Bool.not_false, ixV_dd, ixF_t, ixF_l, tupF_t, tupF_l, min2F_i, max2F_i, dmF_i, absF_i, setO_l, inDF_t, inDF_l, notInDF_t, notInDF_l, ite_true, ite_false]
  refine ⟨Nat.zero_le _, _, seeR gq (seeL_vN ls), ?_⟩
  have en : neF (.list (ls.map fun n => PyData.int (n : Nat))) (.list []) = some (.bool (!decide (ls = []))) := by
    unfold neF
    rw [show fine (PyData.list (ls.map fun n => PyData.int (n : Nat))) = true from fine_lN ls, show fine (PyData.list []) = true from rfl]
    have := eqv_ints ls []
    show some (PyData.bool (!PyData.eqvAll (ls.map fun n => PyData.int (n : Nat)) ([] : List PyData))) = _
    rw [show ([] : List PyData) = ([] : List Nat).map (fun n => PyData.int (n : Nat)) from rfl, this]
  simp only [en, dSeq, dSet, dAsg, dDrop, dRet, dRetN, dIf, dB, dAnd, dOr, dNot, dAndV, dOrV, dNotV, dIfE, dVar, dC, dO2, dChn, dC1, dC2, dIx, dSl, dP, dNoP, dCall, dCons, dNil, dPure, dMut, dDisp, dTup, dLRg, dTRg, dR1, dR2, gN, gTp, gsNil, gsCons, dNext, dNever, dIsi, dNeg, dL1, dFor, dIt, dIRg1, dIRg2, dEn, dLc0, dYes, dMt, dMt0, dFzE, gIx, dCat, dRep, dSlL, dD0, dD1, dDictP, dPar, dPar3, dRevT, dRevS, dRevL, dIvals, dSortSet, dLkL, dForM, dFzs, dSortSetT, List.map_cons, List.map_nil, List.replicate, List.append_nil, List.cons_append, List.nil_append, List.getElem?_cons_zero, List.getElem?_cons_succ, List.set_cons_zero, List.set_cons_succ, Option.some.injEq, exists_eq_left', exists_eq_left, exists_and_left, and_assoc, or_false, false_or, see_d, isiF, Va.dat.injEq, PyData.bool.injEq, PyData.int.injEq, PyData.str.injEq, PyData.tuple.injEq, PyData.list.injEq, seeL, Option.map_some, wipeD, List.cons.injEq, and_true, true_and, if_true, Bool.false_eq_true, if_false, reduceCtorEq, Int.reduceLT, Int.reduceLE, Int.reduceNeg, and_self, addF_i, subF_i, modF_i, fdivF_i, eqF_int, neF_int, ltF_i, leF_i, gtF_i, geF_i, lenF_t, lenF_l, List.length_map, List.length_cons, List.length_nil, itemsD_t, itemsD_l, decide_true, decide_false, Bool.not_true, Bool.not_false, ixV_dd, ixF_t, ixF_l, tupF_t, tupF_l, min2F_i, max2F_i, dmF_i, absF_i, setO_l, inDF_t, inDF_l, notInDF_t, notInDF_l, ite_true, ite_false]
  by_cases hls : ls = []
  · subst hls
    rw [List.append_nil] at hpm
    simp only [dSeq, dSet, dAsg, dDrop, dRet, dRetN, dIf, dB, dAnd, dOr, dNot, dAndV, dOrV, dNotV, dIfE, dVar, dC, dO2, dChn, dC1, dC2, dIx, dSl, dP, dNoP, dCall, dCons, dNil, dPure, dMut, dDisp, dTup, dLRg, dTRg, dR1, dR2, gN, gTp, gsNil, gsCons, dNext, dNever, dIsi, dNeg, dL1, dFor, dIt, dIRg1, dIRg2, dEn, dLc0, dYes, dMt, dMt0, dFzE, gIx, dCat, dRep, dSlL, dD0, dD1, dDictP, dPar, dPar3, dRevT, dRevS, dRevL, dIvals, dSortSet, dLkL, dForM, dFzs, dSortSetT, List.map_cons, List.map_nil, List.replicate, List.append_nil, List.cons_append, List.nil_append, List.getElem?_cons_zero, List.getElem?_cons_succ, List.set_cons_zero, List.set_cons_succ, Option.some.injEq, exists_eq_left', exists_eq_left, exists_and_left, and_assoc, or_false, false_or, see_d, isiF, Va.dat.injEq, PyData.bool.injEq, PyData.int.injEq, PyData.str.injEq, PyData.tuple.injEq, PyData.list.injEq, seeL, Option.map_some, wipeD, List.cons.injEq, and_true, true_and, if_true, Bool.false_eq_true, if_false, reduceCtorEq, Int.reduceLT, Int.reduceLE, Int.reduceNeg, and_self, addF_i, subF_i, modF_i, fdivF_i, eqF_int, neF_int, ltF_i, leF_i, gtF_i, geF_i, lenF_t, lenF_l, List.length_map, List.length_cons, List.length_nil, itemsD_t, itemsD_l, decide_true, decide_false, Bool.not_true, Bool.not_false, ixV_dd, ixF_t, ixF_l, tupF_t, tupF_l, min2F_i, max2F_i, dmF_i, absF_i, setO_l, inDF_t, inDF_l, notInDF_t, notInDF_l, ite_true, ite_false]
    refine ⟨_, seeR gr (seeL_vN fs), ?_⟩
    simp only [dSeq, dSet, dAsg, dDrop, dRet, dRetN, dIf, dB, dAnd, dOr, dNot, dAndV, dOrV, dNotV, dIfE, dVar, dC, dO2, dChn, dC1, dC2, dIx, dSl, dP, dNoP, dCall, dCons, dNil, dPure, dMut, dDisp, dTup, dLRg, dTRg, dR1, dR2, gN, gTp, gsNil, gsCons, dNext, dNever, dIsi, dNeg, dL1, dFor, dIt, dIRg1, dIRg2, dEn, dLc0, dYes, dMt, dMt0, dFzE, gIx, dCat, dRep, dSlL, dD0, dD1, dDictP, dPar, dPar3, dRevT, dRevS, dRevL, dIvals, dSortSet, dLkL, dForM, dFzs, dSortSetT, List.map_cons, List.map_nil, List.replicate, List.append_nil, List.cons_append, List.nil_append, List.getElem?_cons_zero, List.getElem?_cons_succ, List.set_cons_zero, List.set_cons_succ, Option.some.injEq, exists_eq_left', exists_eq_left, exists_and_left, and_assoc, or_false, false_or, see_d, isiF, Va.dat.injEq, PyData.bool.injEq, PyData.int.injEq, PyData.str.injEq, PyData.tuple.injEq, PyData.list.injEq, seeL, Option.map_some, wipeD, List.cons.injEq, and_true, true_and, if_true, Bool.false_eq_true, if_false, reduceCtorEq, Int.reduceLT, Int.reduceLE, Int.reduceNeg, and_self, addF_i, subF_i, modF_i, fdivF_i, eqF_int, neF_int, ltF_i, leF_i, gtF_i, geF_i, lenF_t, lenF_l, List.length_map, List.length_cons, List.length_nil, itemsD_t, itemsD_l, decide_true, decide_false, Bool.not_true, Bool.not_false, ixV_dd, ixF_t, ixF_l, tupF_t, tupF_l, min2F_i, max2F_i, dmF_i, absF_i, setO_l, inDF_t, inDF_l, notInDF_t, notInDF_l, ite_true, ite_false]
    exact ret_ok (h fs G' hpm bb)
  · have hpos : 0 < ls.length := List.length_pos_iff.mpr hls
    simp only [dSeq, dSet, dAsg, dDrop, dRet, dRetN, dIf, dB, dAnd, dOr, dNot, dAndV, dOrV, dNotV, dIfE, dVar, dC, dO2, dChn, dC1, dC2, dIx, dSl, dP, dNoP, dCall, dCons, dNil, dPure, dMut, dDisp, dTup, dLRg, dTRg, dR1, dR2, gN, gTp, gsNil, gsCons, dNext, dNever, dIsi, dNeg, dL1, dFor, dIt, dIRg1, dIRg2, dEn, dLc0, dYes, dMt, dMt0, dFzE, gIx, dCat, dRep, dSlL, dD0, dD1, dDictP, dPar, dPar3, dRevT, dRevS, dRevL, dIvals, dSortSet, dLkL, dForM, dFzs, dSortSetT, List.map_cons, List.map_nil, List.replicate, List.append_nil, List.cons_append, List.nil_append, List.getElem?_cons_zero, List.getElem?_cons_succ, List.set_cons_zero, List.set_cons_succ, Option.some.injEq, exists_eq_left', exists_eq_left, exists_and_left, and_assoc, or_false, false_or, see_d, isiF, Va.dat.injEq, PyData.bool.injEq, PyData.int.injEq, PyData.str.injEq, PyData.tuple.injEq, PyData.list.injEq, seeL, Option.map_some, wipeD, List.cons.injEq, and_true, true_and, if_true, Bool.false_eq_true, if_false, reduceCtorEq, Int.reduceLT, Int.reduceLE, Int.reduceNeg, and_self, addF_i, subF_i, modF_i, fdivF_i, eqF_int, neF_int, ltF_i, leF_i, gtF_i, geF_i, lenF_t, lenF_l, List.length_map, List.length_cons, List.length_nil, itemsD_t, itemsD_l, decide_true, decide_false, Bool.not_true, Bool.not_false, ixV_dd, ixF_t, ixF_l, tupF_t, tupF_l, min2F_i, max2F_i, dmF_i, absF_i, setO_l, inDF_t, inDF_l, notInDF_t, notInDF_l, ite_true, ite_false, hls]
    refine ⟨.inr ⟨r, _, rfl, gr⟩, .inr ⟨q, _, rfl, gq⟩, _, seeR gq (seeL_vN ls), ?_⟩
    simp only [dSeq, dSet, dAsg, dDrop, dRet, dRetN, dIf, dB, dAnd, dOr, dNot, dAndV, dOrV, dNotV, dIfE, dVar, dC, dO2, dChn, dC1, dC2, dIx, dSl, dP, dNoP, dCall, dCons, dNil, dPure, dMut, dDisp, dTup, dLRg, dTRg, dR1, dR2, gN, gTp, gsNil, gsCons, dNext, dNever, dIsi, dNeg, dL1, dFor, dIt, dIRg1, dIRg2, dEn, dLc0, dYes, dMt, dMt0, dFzE, gIx, dCat, dRep, dSlL, dD0, dD1, dDictP, dPar, dPar3, dRevT, dRevS, dRevL, dIvals, dSortSet, dLkL, dForM, dFzs, dSortSetT, List.map_cons, List.map_nil, List.replicate, List.append_nil, List.cons_append, List.nil_append, List.getElem?_cons_zero, List.getElem?_cons_succ, List.set_cons_zero, List.set_cons_succ, Option.some.injEq, exists_eq_left', exists_eq_left, exists_and_left, and_assoc, or_false, false_or, see_d, isiF, Va.dat.injEq, PyData.bool.injEq, PyData.int.injEq, PyData.str.injEq, PyData.tuple.injEq, PyData.list.injEq, seeL, Option.map_some, wipeD, List.cons.injEq, and_true, true_and, if_true, Bool.false_eq_true, if_false, reduceCtorEq, Int.reduceLT, Int.reduceLE, Int.reduceNeg, and_self, addF_i, subF_i, modF_i, fdivF_i, eqF_int, neF_int, ltF_i, leF_i, gtF_i, geF_i, lenF_t, lenF_l, List.length_map, List.length_cons, List.length_nil, itemsD_t, itemsD_l, decide_true, decide_false, Bool.not_true, Bool.not_false, ixV_dd, ixF_t, ixF_l, tupF_t, tupF_l, min2F_i, max2F_i, dmF_i, absF_i, setO_l, inDF_t, inDF_l, notInDF_t, notInDF_l, ite_true, ite_false]
    refine take_ok bb.box (by omega) (by omega) fun k G2 hk b2 => ?_
    have hk' : k < ls.length := by omega
    have g2 : G2 q = some (.lst (vN ls)) := b2.rest q _ nqa gq
    have g2r : G2 r = some (.lst (vN fs)) := b2.rest r _ nra gr
    refine popAt_ok g2 (by simpa using hk') (by simp; omega) ?_
    have e1 : (vN ls)[k]'(by simpa using hk') = .dat (.int (ls[k] : Nat)) := by simp
    rw [e1]
    refine append_ok (by rw [gup_ne nrq]; exact g2r) (by simp; omega) ?_
    refine ⟨⟨fs ++ [ls[k]], ls.eraseIdx k, ?_, ?_, ?_, ((bb.trans b2).own hq nqa).own hGr nra⟩, ?_⟩
    · refine List.Perm.trans ?_ hpm
      rw [List.append_assoc]
      exact (perm_pop hk').symm.append_left fs
    · rw [gup_ne (Ne.symm nrq), gup_same]
      congr 2
      exact erase_map _ ls k
    · rw [gup_same]; simp
    · rw [gup_ne (Ne.symm nrq), gup_same, gq]
      dsimp only
      rw [List.length_eraseIdx_of_lt (by simpa using hk')]
      simp
      omega

end DL.R

namespace DL.R
open PySem PySem.Spec PyProof.Rows L2 DL

theorem ixT {xs : List PyData} {i : Nat} {x : PyData} {G : Gp} (h : xs[i]? = some x) : atI xs (i : Nat) = some x := by
  have hi := (List.getElem?_eq_some_iff.mp h).1
  unfold atI ixN
  rw [if_pos (by omega), if_pos (by omega)]
  simpa using h
theorem lets_get {k i : Nat} (hk : k ≤ 3) (hi : i < 2 * k) : ∃ c, (lets k)[i]? = some c ∧ c ∈ lets k := by
  have hl := lets_len hk
  have : (lets k)[i]? = some ((lets k)[i]'(by omega)) := List.getElem?_eq_getElem _
  exact ⟨_, this, List.mem_of_getElem? this⟩
theorem tindex_N {d : List Nat} {x : Nat} {G : Gp} {Q : VQ} (hx : x ∈ d) (h : Q (.dat (.int (d.idxOf x : Nat))) G) : mTIndex (.dat (.tuple (d.map fun n => PyData.int (n : Nat)))) [.dat (.int (x : Nat))] G Q := by
  have inj : ∀ l : List Nat, (l.map fun n : Nat => (n : Int)).idxOf (x : Int) = l.idxOf x := by
    intro l
    induction l with
    | nil => rfl
    | cons a l ih =>
      rw [List.map_cons, List.idxOf_cons, List.idxOf_cons, ih]
      have : (((a : Nat) : Int) == (x : Int)) = (a == x) := by
        by_cases e : a = x
        · subst e; simp
        · have e' : ¬ (a : Int) = (x : Int) := by omega
          rw [beq_eq_false_iff_ne.mpr e, beq_eq_false_iff_ne.mpr e']
      rw [this]
  refine ⟨_, _, rfl, rfl, .inl ⟨d.map fun n : Nat => (n : Int), (x : Int), by rw [List.map_map]; rfl, rfl, List.mem_map.mpr ⟨x, hx, rfl⟩, ?_⟩⟩
  rw [inj]
  exact h
theorem tindex_S {L : List Nat} {c : Nat} {G : Gp} {Q : VQ} (hx : c ∈ L) (h : Q (.dat (.int (L.idxOf c : Nat))) G) : mTIndex (.dat (.tuple (L.map sC))) [.dat (sC c)] G Q := by
  have ne : ∀ a : Nat, ((⟨#[a]⟩ : Str) == ⟨#[c]⟩) = (a == c) := fun a => by
    by_cases e : a = c
    · subst e; simp
    · have e' : ¬ ((⟨#[a]⟩ : Str) = ⟨#[c]⟩) := fun q => e (by injection q with q; injection q with q; injection q)
      rw [beq_eq_false_iff_ne.mpr e, beq_eq_false_iff_ne.mpr e']
  have inj : ∀ l : List Nat, (l.map fun a => (⟨#[a]⟩ : Str)).idxOf ⟨#[c]⟩ = l.idxOf c := by
    intro l
    induction l with
    | nil => rfl
    | cons a l ih => rw [List.map_cons, List.idxOf_cons, List.idxOf_cons, ih, ne]
  refine ⟨_, _, rfl, rfl, .inr ⟨L.map fun a => (⟨#[a]⟩ : Str), ⟨#[c]⟩, by rw [List.map_map]; rfl, rfl, List.mem_map.mpr ⟨c, hx, rfl⟩, ?_⟩⟩
  rw [inj]
  exact h
theorem letters_of_ok {n : Nat} {p : List (List Nat)} {G : Gp} {Q : VQ} (hp : IsPuz n p) (h : Q (.dat (.tuple ((lets p.length).map sC))) G) : sp_letters_of [.dat (tP p)] G Q := by
  refine ⟨rfl, ?_⟩
  have e1 : slF c_GREAT none (some (p.length : Int)) = some (.tuple (([88, 89, 90].take p.length).map sC)) := by
    show some (PyData.tuple (cutD [sC 88, sC 89, sC 90] none (some (p.length : Int)))) = _
    rw [cut_to, List.map_take]; rfl
  have e2 : slF c_SMALL none (some (p.length : Int)) = some (.tuple (([120, 121, 122].take p.length).map sC)) := by
    show some (PyData.tuple (cutD [sC 120, sC 121, sC 122] none (some (p.length : Int)))) = _
    rw [cut_to, List.map_take]; rfl
  simp only [rd_letters_of, dSeq, dSet, dAsg, dDrop, dRet, dRetN, dIf, dB, dAnd, dOr, dNot, dAndV, dOrV, dNotV, dIfE, dVar, dC, dO2, dChn, dC1, dC2, dIx, dSl, dP, dNoP, dCall, dCons, dNil, dPure, dMut, dDisp, dTup, dLRg, dTRg, dR1, dR2, gN, gTp, gsNil, gsCons, dNext, dNever, dIsi, dNeg, dL1, dFor, dIt, dIRg1, dIRg2, dEn, dLc0, dYes, dMt, dMt0, dFzE, gIx, dCat, dRep, dSlL, dD0, dD1, dDictP, dPar, dPar3, dRevT, dRevS, dRevL, dIvals, dSortSet, dLkL, dForM, dFzs, dSortSetT, List.map_cons, List.map_nil, List.replicate, List.append_nil, List.cons_append, List.nil_append, List.getElem?_cons_zero, List.getElem?_cons_succ, List.set_cons_zero, List.set_cons_succ, Option.some.injEq, exists_eq_left', exists_eq_left, exists_and_left, and_assoc, or_false, false_or, see_d, isiF, Va.dat.injEq, PyData.bool.injEq, PyData.int.injEq, PyData.str.injEq, PyData.tuple.injEq, PyData.list.injEq, seeL, Option.map_some, wipeD, List.cons.injEq, and_true, true_and, if_true, Bool.false_eq_true, if_false, reduceCtorEq, Int.reduceLT, Int.reduceLE, Int.reduceNeg, and_self, addF_i, subF_i, modF_i, fdivF_i, eqF_int, neF_int, ltF_i, leF_i, gtF_i, geF_i, lenF_t, lenF_l, List.length_map, List.length_cons, List.length_nil, itemsD_t, itemsD_l, decide_true, decide_false, Bool.not_true, Bool.not_false, ixV_dd, ixF_t, ixF_l, tupF_t, tupF_l, min2F_i, max2F_i, dmF_i, absF_i, setO_l, inDF_t, inDF_l, notInDF_t, notInDF_l, ite_true, ite_false, tP, e1, e2]
  refine ⟨_, addF_t (by simp only [List.length_map, List.length_take]; rw [sizeLine_eq]; simp only [List.length_cons, List.length_nil]; omega), ret_ok ?_⟩
  rw [← List.map_append]
  exact h
theorem home_of_ok {n : Nat} {p : List (List Nat)} {G : Gp} {Q : VQ} (hp : IsPuz n p) (h : Q (.dat (tN (List.range n))) G) : sp_home_of [.dat (tP p)] G Q := by
  refine ⟨rfl, ?_⟩
  obtain ⟨d0, hd0, hl0⟩ := puz_first hp
  have h5 := hp.n5
  simp only [rd_home_of, dSeq, dSet, dAsg, dDrop, dRet, dRetN, dIf, dB, dAnd, dOr, dNot, dAndV, dOrV, dNotV, dIfE, dVar, dC, dO2, dChn, dC1, dC2, dIx, dSl, dP, dNoP, dCall, dCons, dNil, dPure, dMut, dDisp, dTup, dLRg, dTRg, dR1, dR2, gN, gTp, gsNil, gsCons, dNext, dNever, dIsi, dNeg, dL1, dFor, dIt, dIRg1, dIRg2, dEn, dLc0, dYes, dMt, dMt0, dFzE, gIx, dCat, dRep, dSlL, dD0, dD1, dDictP, dPar, dPar3, dRevT, dRevS, dRevL, dIvals, dSortSet, dLkL, dForM, dFzs, dSortSetT, List.map_cons, List.map_nil, List.replicate, List.append_nil, List.cons_append, List.nil_append, List.getElem?_cons_zero, List.getElem?_cons_succ, List.set_cons_zero, List.set_cons_succ, Option.some.injEq, exists_eq_left', exists_eq_left, exists_and_left, and_assoc, or_false, false_or, see_d, isiF, Va.dat.injEq, PyData.bool.injEq, PyData.int.injEq, PyData.str.injEq, PyData.tuple.injEq, PyData.list.injEq, seeL, Option.map_some, wipeD, List.cons.injEq, and_true, true_and, if_true, Bool.false_eq_true, if_false, reduceCtorEq, Int.reduceLT, Int.reduceLE, Int.reduceNeg, and_self, addF_i, subF_i, modF_i, fdivF_i, eqF_int, neF_int, ltF_i, leF_i, gtF_i, geF_i, lenF_t, lenF_l, List.length_map, List.length_cons, List.length_nil, itemsD_t, itemsD_l, decide_true, decide_false, Bool.not_true, Bool.not_false, ixV_dd, ixF_t, ixF_l, tupF_t, tupF_l, min2F_i, max2F_i, dmF_i, absF_i, setO_l, inDF_t, inDF_l, notInDF_t, notInDF_l, ite_true, ite_false, tP, hd0, tN, hl0]
  refine ⟨RgOk.of_le (by omega) (by omega) (by omega) (by omega), ret_ok ?_⟩
  rw [rgD_nat]
  exact h
theorem undone_ok {n : Nat} {d : List Nat} {G : Gp} {Q : VQ} (hd : IsDeed n d) (h5 : n ≤ 5) (h : Q (.dat (tN (inv d))) G) : sp_undone [.dat (tN d)] G Q := by
  refine ⟨rfl, ?_⟩
  have hl := hd.len
  simp only [rd_undone, dSeq, dSet, dAsg, dDrop, dRet, dRetN, dIf, dB, dAnd, dOr, dNot, dAndV, dOrV, dNotV, dIfE, dVar, dC, dO2, dChn, dC1, dC2, dIx, dSl, dP, dNoP, dCall, dCons, dNil, dPure, dMut, dDisp, dTup, dLRg, dTRg, dR1, dR2, gN, gTp, gsNil, gsCons, dNext, dNever, dIsi, dNeg, dL1, dFor, dIt, dIRg1, dIRg2, dEn, dLc0, dYes, dMt, dMt0, dFzE, gIx, dCat, dRep, dSlL, dD0, dD1, dDictP, dPar, dPar3, dRevT, dRevS, dRevL, dIvals, dSortSet, dLkL, dForM, dFzs, dSortSetT, List.map_cons, List.map_nil, List.replicate, List.append_nil, List.cons_append, List.nil_append, List.getElem?_cons_zero, List.getElem?_cons_succ, List.set_cons_zero, List.set_cons_succ, Option.some.injEq, exists_eq_left', exists_eq_left, exists_and_left, and_assoc, or_false, false_or, see_d, isiF, Va.dat.injEq, PyData.bool.injEq, PyData.int.injEq, PyData.str.injEq, PyData.tuple.injEq, PyData.list.injEq, seeL, Option.map_some, wipeD, List.cons.injEq, and_true, true_and, if_true, Bool.false_eq_true, if_false, reduceCtorEq, Int.reduceLT, Int.reduceLE, Int.reduceNeg, and_self, addF_i, subF_i, modF_i, fdivF_i, eqF_int, neF_int, ltF_i, leF_i, gtF_i, geF_i, lenF_t, lenF_l, List.length_map, List.length_cons, List.length_nil, itemsD_t, itemsD_l, decide_true, decide_false, Bool.not_true, Bool.not_false, ixV_dd, ixF_t, ixF_l, tupF_t, tupF_l, min2F_i, max2F_i, dmF_i, absF_i, setO_l, inDF_t, inDF_l, notInDF_t, notInDF_l, ite_true, ite_false, tN]
  refine ⟨by omega, by omega, by rw [sizeLine_eq]; omega, ?_⟩
  refine lc_rg (n := d.length) (acc := []) rfl (fun i acc G' => G' = G ∧ acc = vN ((List.range i).map fun x => d.idxOf x)) ⟨rfl, rfl⟩ ?_ ?_
  · rintro i acc G' hi ⟨rfl, rfl⟩ N hN
    simp only [dSeq, dSet, dAsg, dDrop, dRet, dRetN, dIf, dB, dAnd, dOr, dNot, dAndV, dOrV, dNotV, dIfE, dVar, dC, dO2, dChn, dC1, dC2, dIx, dSl, dP, dNoP, dCall, dCons, dNil, dPure, dMut, dDisp, dTup, dLRg, dTRg, dR1, dR2, gN, gTp, gsNil, gsCons, dNext, dNever, dIsi, dNeg, dL1, dFor, dIt, dIRg1, dIRg2, dEn, dLc0, dYes, dMt, dMt0, dFzE, gIx, dCat, dRep, dSlL, dD0, dD1, dDictP, dPar, dPar3, dRevT, dRevS, dRevL, dIvals, dSortSet, dLkL, dForM, dFzs, dSortSetT, List.map_cons, List.map_nil, List.replicate, List.append_nil, List.cons_append, List.nil_append, List.getElem?_cons_zero, List.getElem?_cons_succ, List.set_cons_zero, List.set_cons_succ, Option.some.injEq, exists_eq_left', exists_eq_left, exists_and_left, and_assoc, or_false, false_or, see_d, isiF, Va.dat.injEq, PyData.bool.injEq, PyData.int.injEq, PyData.str.injEq, PyData.tuple.injEq, PyData.list.injEq, seeL, Option.map_some, wipeD, List.cons.injEq, and_true, true_and, if_true, Bool.false_eq_true, if_false, reduceCtorEq, Int.reduceLT, Int.reduceLE, Int.reduceNeg, and_self, addF_i, subF_i, modF_i, fdivF_i, eqF_int, neF_int, ltF_i, leF_i, gtF_i, geF_i, lenF_t, lenF_l, List.length_map, List.length_cons, List.length_nil, itemsD_t, itemsD_l, decide_true, decide_false, Bool.not_true, Bool.not_false, ixV_dd, ixF_t, ixF_l, tupF_t, tupF_l, min2F_i, max2F_i, dmF_i, absF_i, setO_l, inDF_t, inDF_l, notInDF_t, notInDF_l, ite_true, ite_false]
    refine ⟨⟨_, rfl⟩, tindex_N (hd.mem (by omega)) (hN _ _ ⟨rfl, ?_⟩)⟩
    rw [List.range_succ, List.map_append]
    simp
  · rintro acc G' ⟨rfl, rfl⟩
    exact ⟨_, seeL_vN _, ret_ok h⟩
theorem letter_deed_ok {n c : Nat} {p : List (List Nat)} {G : Gp} {Q : VQ} (hp : IsPuz n p) (hc : c ∈ lets p.length) (h : Q (.dat (tN (ld p c))) G) : sp_letter_deed [.dat (tP p), .dat (sC c)] G Q := by
  refine ⟨rfl, ?_⟩
  have e1 : inDF (sC c) c_SMALL = some (.bool (decide (c ∈ [120, 121, 122]))) := in_sC c [120, 121, 122]
  have es : (c_SMALL : PyData) = .tuple ([120, 121, 122].map sC) := rfl
  have eg : (c_GREAT : PyData) = .tuple ([88, 89, 90].map sC) := rfl
  simp only [rd_letter_deed, dSeq, dSet, dAsg, dDrop, dRet, dRetN, dIf, dB, dAnd, dOr, dNot, dAndV, dOrV, dNotV, dIfE, dVar, dC, dO2, dChn, dC1, dC2, dIx, dSl, dP, dNoP, dCall, dCons, dNil, dPure, dMut, dDisp, dTup, dLRg, dTRg, dR1, dR2, gN, gTp, gsNil, gsCons, dNext, dNever, dIsi, dNeg, dL1, dFor, dIt, dIRg1, dIRg2, dEn, dLc0, dYes, dMt, dMt0, dFzE, gIx, dCat, dRep, dSlL, dD0, dD1, dDictP, dPar, dPar3, dRevT, dRevS, dRevL, dIvals, dSortSet, dLkL, dForM, dFzs, dSortSetT, List.map_cons, List.map_nil, List.replicate, List.append_nil, List.cons_append, List.nil_append, List.getElem?_cons_zero, List.getElem?_cons_succ, List.set_cons_zero, List.set_cons_succ, Option.some.injEq, exists_eq_left', exists_eq_left, exists_and_left, and_assoc, or_false, false_or, see_d, isiF, Va.dat.injEq, PyData.bool.injEq, PyData.int.injEq, PyData.str.injEq, PyData.tuple.injEq, PyData.list.injEq, seeL, Option.map_some, wipeD, List.cons.injEq, and_true, true_and, if_true, Bool.false_eq_true, if_false, reduceCtorEq, Int.reduceLT, Int.reduceLE, Int.reduceNeg, and_self, addF_i, subF_i, modF_i, fdivF_i, eqF_int, neF_int, ltF_i, leF_i, gtF_i, geF_i, lenF_t, lenF_l, List.length_map, List.length_cons, List.length_nil, itemsD_t, itemsD_l, decide_true, decide_false, Bool.not_true, Bool.not_false, ixV_dd, ixF_t, ixF_l, tupF_t, tupF_l, min2F_i, max2F_i, dmF_i, absF_i, setO_l, inDF_t, inDF_l, notInDF_t, notInDF_l, ite_true, ite_false, e1]
  unfold ld at h
  rcases lets_cases hp.p3 hc with ⟨i, hi, hm, hn, e⟩ | ⟨i, hi, hm0, hm, e⟩
  · rw [if_neg hn, e] at h
    rw [if_neg (by simpa using hn)]
    refine ⟨⟨_, rfl⟩, ?_⟩
    rw [eg]
    refine tindex_S (List.mem_of_getElem? hm) ?_
    rw [e]
    have ex : atI (p.map tN) (i : Nat) = some (tN (p.getD i [])) := ixT (G := G) (by rw [List.getElem?_map, (puz_get hp hi).2]; rfl)
    simp only [dSeq, dSet, dAsg, dDrop, dRet, dRetN, dIf, dB, dAnd, dOr, dNot, dAndV, dOrV, dNotV, dIfE, dVar, dC, dO2, dChn, dC1, dC2, dIx, dSl, dP, dNoP, dCall, dCons, dNil, dPure, dMut, dDisp, dTup, dLRg, dTRg, dR1, dR2, gN, gTp, gsNil, gsCons, dNext, dNever, dIsi, dNeg, dL1, dFor, dIt, dIRg1, dIRg2, dEn, dLc0, dYes, dMt, dMt0, dFzE, gIx, dCat, dRep, dSlL, dD0, dD1, dDictP, dPar, dPar3, dRevT, dRevS, dRevL, dIvals, dSortSet, dLkL, dForM, dFzs, dSortSetT, List.map_cons, List.map_nil, List.replicate, List.append_nil, List.cons_append, List.nil_append, List.getElem?_cons_zero, List.getElem?_cons_succ, List.set_cons_zero, List.set_cons_succ, Option.some.injEq, exists_eq_left', exists_eq_left, exists_and_left, and_assoc, or_false, false_or, see_d, isiF, Va.dat.injEq, PyData.bool.injEq, PyData.int.injEq, PyData.str.injEq, PyData.tuple.injEq, PyData.list.injEq, seeL, Option.map_some, wipeD, List.cons.injEq, and_true, true_and, if_true, Bool.false_eq_true, if_false, reduceCtorEq, Int.reduceLT, Int.reduceLE, Int.reduceNeg, and_self, addF_i, subF_i, modF_i, fdivF_i, eqF_int, neF_int, ltF_i, leF_i, gtF_i, geF_i, lenF_t, lenF_l, List.length_map, List.length_cons, List.length_nil, itemsD_t, itemsD_l, decide_true, decide_false, Bool.not_true, Bool.not_false, ixV_dd, ixF_t, ixF_l, tupF_t, tupF_l, min2F_i, max2F_i, dmF_i, absF_i, setO_l, inDF_t, inDF_l, notInDF_t, notInDF_l, ite_true, ite_false, tP, ex]
    exact undone_ok (puz_get hp hi).1 hp.n5 (ret_ok h)
  · rw [if_pos hm, e] at h
    rw [if_pos (by simpa using hm)]
    refine ⟨⟨_, rfl⟩, ?_⟩
    rw [es]
    refine tindex_S (List.mem_of_getElem? hm0) ?_
    rw [e]
    have ex : atI (p.map tN) (i : Nat) = some (tN (p.getD i [])) := ixT (G := G) (by rw [List.getElem?_map, (puz_get hp hi).2]; rfl)
    simp only [dSeq, dSet, dAsg, dDrop, dRet, dRetN, dIf, dB, dAnd, dOr, dNot, dAndV, dOrV, dNotV, dIfE, dVar, dC, dO2, dChn, dC1, dC2, dIx, dSl, dP, dNoP, dCall, dCons, dNil, dPure, dMut, dDisp, dTup, dLRg, dTRg, dR1, dR2, gN, gTp, gsNil, gsCons, dNext, dNever, dIsi, dNeg, dL1, dFor, dIt, dIRg1, dIRg2, dEn, dLc0, dYes, dMt, dMt0, dFzE, gIx, dCat, dRep, dSlL, dD0, dD1, dDictP, dPar, dPar3, dRevT, dRevS, dRevL, dIvals, dSortSet, dLkL, dForM, dFzs, dSortSetT, List.map_cons, List.map_nil, List.replicate, List.append_nil, List.cons_append, List.nil_append, List.getElem?_cons_zero, List.getElem?_cons_succ, List.set_cons_zero, List.set_cons_succ, Option.some.injEq, exists_eq_left', exists_eq_left, exists_and_left, and_assoc, or_false, false_or, see_d, isiF, Va.dat.injEq, PyData.bool.injEq, PyData.int.injEq, PyData.str.injEq, PyData.tuple.injEq, PyData.list.injEq, seeL, Option.map_some, wipeD, List.cons.injEq, and_true, true_and, if_true, Bool.false_eq_true, if_false, reduceCtorEq, Int.reduceLT, Int.reduceLE, Int.reduceNeg, and_self, addF_i, subF_i, modF_i, fdivF_i, eqF_int, neF_int, ltF_i, leF_i, gtF_i, geF_i, lenF_t, lenF_l, List.length_map, List.length_cons, List.length_nil, itemsD_t, itemsD_l, decide_true, decide_false, Bool.not_true, Bool.not_false, ixV_dd, ixF_t, ixF_l, tupF_t, tupF_l, min2F_i, max2F_i, dmF_i, absF_i, setO_l, inDF_t, inDF_l, notInDF_t, notInDF_l, ite_true, ite_false, tP, ex]
    exact ret_ok h
theorem moved_by_ok {n : Nat} {s d : List Nat} {G : Gp} {Q : VQ} (hs : IsDeed n s) (hd : IsDeed n d) (h5 : n ≤ 5) (h : Q (.dat (tN (mv s d))) G) : sp_moved_by [.dat (tN s), .dat (tN d)] G Q := by
  refine ⟨rfl, ?_⟩
  have hl := hd.len
  simp only [rd_moved_by, dSeq, dSet, dAsg, dDrop, dRet, dRetN, dIf, dB, dAnd, dOr, dNot, dAndV, dOrV, dNotV, dIfE, dVar, dC, dO2, dChn, dC1, dC2, dIx, dSl, dP, dNoP, dCall, dCons, dNil, dPure, dMut, dDisp, dTup, dLRg, dTRg, dR1, dR2, gN, gTp, gsNil, gsCons, dNext, dNever, dIsi, dNeg, dL1, dFor, dIt, dIRg1, dIRg2, dEn, dLc0, dYes, dMt, dMt0, dFzE, gIx, dCat, dRep, dSlL, dD0, dD1, dDictP, dPar, dPar3, dRevT, dRevS, dRevL, dIvals, dSortSet, dLkL, dForM, dFzs, dSortSetT, List.map_cons, List.map_nil, List.replicate, List.append_nil, List.cons_append, List.nil_append, List.getElem?_cons_zero, List.getElem?_cons_succ, List.set_cons_zero, List.set_cons_succ, Option.some.injEq, exists_eq_left', exists_eq_left, exists_and_left, and_assoc, or_false, false_or, see_d, isiF, Va.dat.injEq, PyData.bool.injEq, PyData.int.injEq, PyData.str.injEq, PyData.tuple.injEq, PyData.list.injEq, seeL, Option.map_some, wipeD, List.cons.injEq, and_true, true_and, if_true, Bool.false_eq_true, if_false, reduceCtorEq, Int.reduceLT, Int.reduceLE, Int.reduceNeg, and_self, addF_i, subF_i, modF_i, fdivF_i, eqF_int, neF_int, ltF_i, leF_i, gtF_i, geF_i, lenF_t, lenF_l, List.length_map, List.length_cons, List.length_nil, itemsD_t, itemsD_l, decide_true, decide_false, Bool.not_true, Bool.not_false, ixV_dd, ixF_t, ixF_l, tupF_t, tupF_l, min2F_i, max2F_i, dmF_i, absF_i, setO_l, inDF_t, inDF_l, notInDF_t, notInDF_l, ite_true, ite_false, tN]
  refine ⟨by rw [sizeLine_eq]; omega, ?_⟩
  refine lc_ix _ (fun i acc G' => G' = G ∧ acc = vN (mv s (d.take i))) ⟨rfl, rfl⟩ ?_ ?_
  · rintro i x acc G' hx ⟨rfl, rfl⟩ N hN
    rw [List.map_map, List.getElem?_map] at hx
    obtain ⟨y, hy, rfl⟩ := Option.map_eq_some_iff.mp hx
    have hys := hd.lt (List.mem_of_getElem? hy)
    have ea := atI_N (getD_get (s := s) (x := y) (by rw [hs.len]; exact hys))
    simp only [Function.comp, dSeq, dSet, dAsg, dDrop, dRet, dRetN, dIf, dB, dAnd, dOr, dNot, dAndV, dOrV, dNotV, dIfE, dVar, dC, dO2, dChn, dC1, dC2, dIx, dSl, dP, dNoP, dCall, dCons, dNil, dPure, dMut, dDisp, dTup, dLRg, dTRg, dR1, dR2, gN, gTp, gsNil, gsCons, dNext, dNever, dIsi, dNeg, dL1, dFor, dIt, dIRg1, dIRg2, dEn, dLc0, dYes, dMt, dMt0, dFzE, gIx, dCat, dRep, dSlL, dD0, dD1, dDictP, dPar, dPar3, dRevT, dRevS, dRevL, dIvals, dSortSet, dLkL, dForM, dFzs, dSortSetT, List.map_cons, List.map_nil, List.replicate, List.append_nil, List.cons_append, List.nil_append, List.getElem?_cons_zero, List.getElem?_cons_succ, List.set_cons_zero, List.set_cons_succ, Option.some.injEq, exists_eq_left', exists_eq_left, exists_and_left, and_assoc, or_false, false_or, see_d, isiF, Va.dat.injEq, PyData.bool.injEq, PyData.int.injEq, PyData.str.injEq, PyData.tuple.injEq, PyData.list.injEq, seeL, Option.map_some, wipeD, List.cons.injEq, and_true, true_and, if_true, Bool.false_eq_true, if_false, reduceCtorEq, Int.reduceLT, Int.reduceLE, Int.reduceNeg, and_self, addF_i, subF_i, modF_i, fdivF_i, eqF_int, neF_int, ltF_i, leF_i, gtF_i, geF_i, lenF_t, lenF_l, List.length_map, List.length_cons, List.length_nil, itemsD_t, itemsD_l, decide_true, decide_false, Bool.not_true, Bool.not_false, ixV_dd, ixF_t, ixF_l, tupF_t, tupF_l, min2F_i, max2F_i, dmF_i, absF_i, setO_l, inDF_t, inDF_l, notInDF_t, notInDF_l, ite_true, ite_false, ea]
    refine hN _ _ ⟨rfl, ?_⟩
    rw [List.take_add_one, hy]
    unfold mv
    simp
  · rintro acc G' ⟨rfl, rfl⟩
    rw [show d.take (List.map Va.dat (d.map fun n => PyData.int (n : Nat))).length = d from List.take_of_length_le (by simp)]
    exact ⟨_, seeL_vN _, ret_ok h⟩
theorem law_moved_ok {n : Nat} {s d : List Nat} {G : Gp} {Q : VQ} (hs : IsDeed n s) (hd : IsDeed n d) (h5 : n ≤ 5) (h : Q (.dat (tN (mv s d))) G) : sp__law_moved [.dat (tN s), .dat (tN d)] G Q := by
  refine ⟨rfl, ?_⟩
  have hl := hd.len
  simp only [rd__law_moved, dSeq, dSet, dAsg, dDrop, dRet, dRetN, dIf, dB, dAnd, dOr, dNot, dAndV, dOrV, dNotV, dIfE, dVar, dC, dO2, dChn, dC1, dC2, dIx, dSl, dP, dNoP, dCall, dCons, dNil, dPure, dMut, dDisp, dTup, dLRg, dTRg, dR1, dR2, gN, gTp, gsNil, gsCons, dNext, dNever, dIsi, dNeg, dL1, dFor, dIt, dIRg1, dIRg2, dEn, dLc0, dYes, dMt, dMt0, dFzE, gIx, dCat, dRep, dSlL, dD0, dD1, dDictP, dPar, dPar3, dRevT, dRevS, dRevL, dIvals, dSortSet, dLkL, dForM, dFzs, dSortSetT, List.map_cons, List.map_nil, List.replicate, List.append_nil, List.cons_append, List.nil_append, List.getElem?_cons_zero, List.getElem?_cons_succ, List.set_cons_zero, List.set_cons_succ, Option.some.injEq, exists_eq_left', exists_eq_left, exists_and_left, and_assoc, or_false, false_or, see_d, isiF, Va.dat.injEq, PyData.bool.injEq, PyData.int.injEq, PyData.str.injEq, PyData.tuple.injEq, PyData.list.injEq, seeL, Option.map_some, wipeD, List.cons.injEq, and_true, true_and, if_true, Bool.false_eq_true, if_false, reduceCtorEq, Int.reduceLT, Int.reduceLE, Int.reduceNeg, and_self, addF_i, subF_i, modF_i, fdivF_i, eqF_int, neF_int, ltF_i, leF_i, gtF_i, geF_i, lenF_t, lenF_l, List.length_map, List.length_cons, List.length_nil, itemsD_t, itemsD_l, decide_true, decide_false, Bool.not_true, Bool.not_false, ixV_dd, ixF_t, ixF_l, tupF_t, tupF_l, min2F_i, max2F_i, dmF_i, absF_i, setO_l, inDF_t, inDF_l, notInDF_t, notInDF_l, ite_true, ite_false, tN]
  refine ⟨by rw [sizeLine_eq]; omega, ?_⟩
  refine lc_ix _ (fun i acc G' => G' = G ∧ acc = vN (mv s (d.take i))) ⟨rfl, rfl⟩ ?_ ?_
  · rintro i x acc G' hx ⟨rfl, rfl⟩ N hN
    rw [List.map_map, List.getElem?_map] at hx
    obtain ⟨y, hy, rfl⟩ := Option.map_eq_some_iff.mp hx
    have hys := hd.lt (List.mem_of_getElem? hy)
    have ea := atI_N (getD_get (s := s) (x := y) (by rw [hs.len]; exact hys))
    simp only [Function.comp, dSeq, dSet, dAsg, dDrop, dRet, dRetN, dIf, dB, dAnd, dOr, dNot, dAndV, dOrV, dNotV, dIfE, dVar, dC, dO2, dChn, dC1, dC2, dIx, dSl, dP, dNoP, dCall, dCons, dNil, dPure, dMut, dDisp, dTup, dLRg, dTRg, dR1, dR2, gN, gTp, gsNil, gsCons, dNext, dNever, dIsi, dNeg, dL1, dFor, dIt, dIRg1, dIRg2, dEn, dLc0, dYes, dMt, dMt0, dFzE, gIx, dCat, dRep, dSlL, dD0, dD1, dDictP, dPar, dPar3, dRevT, dRevS, dRevL, dIvals, dSortSet, dLkL, dForM, dFzs, dSortSetT, List.map_cons, List.map_nil, List.replicate, List.append_nil, List.cons_append, List.nil_append, List.getElem?_cons_zero, List.getElem?_cons_succ, List.set_cons_zero, List.set_cons_succ, Option.some.injEq, exists_eq_left', exists_eq_left, exists_and_left, and_assoc, or_false, false_or, see_d, isiF, Va.dat.injEq, PyData.bool.injEq, PyData.int.injEq, PyData.str.injEq, PyData.tuple.injEq, PyData.list.injEq, seeL, Option.map_some, wipeD, List.cons.injEq, and_true, true_and, if_true, Bool.false_eq_true, if_false, reduceCtorEq, Int.reduceLT, Int.reduceLE, Int.reduceNeg, and_self, addF_i, subF_i, modF_i, fdivF_i, eqF_int, neF_int, ltF_i, leF_i, gtF_i, geF_i, lenF_t, lenF_l, List.length_map, List.length_cons, List.length_nil, itemsD_t, itemsD_l, decide_true, decide_false, Bool.not_true, Bool.not_false, ixV_dd, ixF_t, ixF_l, tupF_t, tupF_l, min2F_i, max2F_i, dmF_i, absF_i, setO_l, inDF_t, inDF_l, notInDF_t, notInDF_l, ite_true, ite_false, ea]
    refine hN _ _ ⟨rfl, ?_⟩
    rw [List.take_add_one, hy]
    unfold mv
    simp
  · rintro acc G' ⟨rfl, rfl⟩
    rw [show d.take (List.map Va.dat (d.map fun n => PyData.int (n : Nat))).length = d from List.take_of_length_le (by simp)]
    exact ⟨_, seeL_vN _, ret_ok h⟩

end DL.R

namespace DL.R
open PySem PySem.Spec PyProof.Rows L2 DL

theorem law_letters_ok {n : Nat} {p : List (List Nat)} {G : Gp} {Q : VQ} (hp : IsPuz n p) (h : Q (.dat (.list ((lets p.length).map sC))) G) : sp__law_letters [.dat (tP p)] G Q := by
  refine ⟨rfl, ?_⟩
  have p3 := hp.p3
  simp only [rd__law_letters, dSeq, dSet, dAsg, dDrop, dRet, dRetN, dIf, dB, dAnd, dOr, dNot, dAndV, dOrV, dNotV, dIfE, dVar, dC, dO2, dChn, dC1, dC2, dIx, dSl, dP, dNoP, dCall, dCons, dNil, dPure, dMut, dDisp, dTup, dLRg, dTRg, dR1, dR2, gN, gTp, gsNil, gsCons, dNext, dNever, dIsi, dNeg, dL1, dFor, dIt, dIRg1, dIRg2, dEn, dLc0, dYes, dMt, dMt0, dFzE, gIx, dCat, dRep, dSlL, dD0, dD1, dDictP, dPar, dPar3, dRevT, dRevS, dRevL, dIvals, dSortSet, dLkL, dForM, dFzs, dSortSetT, List.map_cons, List.map_nil, List.replicate, List.append_nil, List.cons_append, List.nil_append, List.getElem?_cons_zero, List.getElem?_cons_succ, List.set_cons_zero, List.set_cons_succ, Option.some.injEq, exists_eq_left', exists_eq_left, exists_and_left, and_assoc, or_false, false_or, see_d, isiF, Va.dat.injEq, PyData.bool.injEq, PyData.int.injEq, PyData.str.injEq, PyData.tuple.injEq, PyData.list.injEq, seeL, Option.map_some, wipeD, List.cons.injEq, and_true, true_and, if_true, Bool.false_eq_true, if_false, reduceCtorEq, Int.reduceLT, Int.reduceLE, Int.reduceNeg, and_self, addF_i, subF_i, modF_i, fdivF_i, eqF_int, neF_int, ltF_i, leF_i, gtF_i, geF_i, lenF_t, lenF_l, List.length_map, List.length_cons, List.length_nil, itemsD_t, itemsD_l, decide_true, decide_false, Bool.not_true, Bool.not_false, ixV_dd, ixF_t, ixF_l, tupF_t, tupF_l, min2F_i, max2F_i, dmF_i, absF_i, setO_l, inDF_t, inDF_l, notInDF_t, notInDF_l, ite_true, ite_false, tP]
  have hz : 0 + 1 + 1 + 1 ≤ sizeLine := by rw [sizeLine_eq]; decide
  refine ⟨hz, hz, _, seeL_dats _, hz, hz, _, seeL_dats _, ?_⟩
  rw [cut_to, cut_to]
  refine ⟨by simp only [List.length_take, List.length_cons, List.length_nil]; rw [sizeLine_eq]; omega, _, seeL_dats _, ret_ok ?_⟩
  have e : (lets p.length).map sC = ([sC 88, sC 89, sC 90].take p.length) ++ ([sC 120, sC 121, sC 122].take p.length) := by
    unfold lets
    rw [List.map_append, List.map_take, List.map_take]; rfl
  rw [e] at h
  exact h
theorem drawn_word_ok {a : Addr} {n m : Nat} {p : List (List Nat)} {G : Gp} {Q : VQ} (hb : Box G a) (hp : IsPuz n p) (hm : m ≤ 1000) (h : ∀ w G', IsWord p.length w → w.length ≤ m → BoxTo G a G' → Q (.dat (tW w)) G') : sp__law_drawn_word [.ref a, .dat (tP p), .dat (.int (m : Nat))] G Q := by
  refine ⟨rfl, ?_⟩
  have p1 := hp.p1
  have p3 := hp.p3
  simp only [rd__law_drawn_word, dSeq, dSet, dAsg, dDrop, dRet, dRetN, dIf, dB, dAnd, dOr, dNot, dAndV, dOrV, dNotV, dIfE, dVar, dC, dO2, dChn, dC1, dC2, dIx, dSl, dP, dNoP, dCall, dCons, dNil, dPure, dMut, dDisp, dTup, dLRg, dTRg, dR1, dR2, gN, gTp, gsNil, gsCons, dNext, dNever, dIsi, dNeg, dL1, dFor, dIt, dIRg1, dIRg2, dEn, dLc0, dYes, dMt, dMt0, dFzE, gIx, dCat, dRep, dSlL, dD0, dD1, dDictP, dPar, dPar3, dRevT, dRevS, dRevL, dIvals, dSortSet, dLkL, dForM, dFzs, dSortSetT, List.map_cons, List.map_nil, List.replicate, List.append_nil, List.cons_append, List.nil_append, List.getElem?_cons_zero, List.getElem?_cons_succ, List.set_cons_zero, List.set_cons_succ, Option.some.injEq, exists_eq_left', exists_eq_left, exists_and_left, and_assoc, or_false, false_or, see_d, isiF, Va.dat.injEq, PyData.bool.injEq, PyData.int.injEq, PyData.str.injEq, PyData.tuple.injEq, PyData.list.injEq, seeL, Option.map_some, wipeD, List.cons.injEq, and_true, true_and, if_true, Bool.false_eq_true, if_false, reduceCtorEq, Int.reduceLT, Int.reduceLE, Int.reduceNeg, and_self, addF_i, subF_i, modF_i, fdivF_i, eqF_int, neF_int, ltF_i, leF_i, gtF_i, geF_i, lenF_t, lenF_l, List.length_map, List.length_cons, List.length_nil, itemsD_t, itemsD_l, decide_true, decide_false, Bool.not_true, Bool.not_false, ixV_dd, ixF_t, ixF_l, tupF_t, tupF_l, min2F_i, max2F_i, dmF_i, absF_i, setO_l, inDF_t, inDF_l, notInDF_t, notInDF_l, ite_true, ite_false]
  refine take_ok hb (by omega) (by omega) fun r G1 hr b1 => ?_
  simp only [dSeq, dSet, dAsg, dDrop, dRet, dRetN, dIf, dB, dAnd, dOr, dNot, dAndV, dOrV, dNotV, dIfE, dVar, dC, dO2, dChn, dC1, dC2, dIx, dSl, dP, dNoP, dCall, dCons, dNil, dPure, dMut, dDisp, dTup, dLRg, dTRg, dR1, dR2, gN, gTp, gsNil, gsCons, dNext, dNever, dIsi, dNeg, dL1, dFor, dIt, dIRg1, dIRg2, dEn, dLc0, dYes, dMt, dMt0, dFzE, gIx, dCat, dRep, dSlL, dD0, dD1, dDictP, dPar, dPar3, dRevT, dRevS, dRevL, dIvals, dSortSet, dLkL, dForM, dFzs, dSortSetT, List.map_cons, List.map_nil, List.replicate, List.append_nil, List.cons_append, List.nil_append, List.getElem?_cons_zero, List.getElem?_cons_succ, List.set_cons_zero, List.set_cons_succ, Option.some.injEq, exists_eq_left', exists_eq_left, exists_and_left, and_assoc, or_false, false_or, see_d, isiF, Va.dat.injEq, PyData.bool.injEq, PyData.int.injEq, PyData.str.injEq, PyData.tuple.injEq, PyData.list.injEq, seeL, Option.map_some, wipeD, List.cons.injEq, and_true, true_and, if_true, Bool.false_eq_true, if_false, reduceCtorEq, Int.reduceLT, Int.reduceLE, Int.reduceNeg, and_self, addF_i, subF_i, modF_i, fdivF_i, eqF_int, neF_int, ltF_i, leF_i, gtF_i, geF_i, lenF_t, lenF_l, List.length_map, List.length_cons, List.length_nil, itemsD_t, itemsD_l, decide_true, decide_false, Bool.not_true, Bool.not_false, ixV_dd, ixF_t, ixF_l, tupF_t, tupF_l, min2F_i, max2F_i, dmF_i, absF_i, setO_l, inDF_t, inDF_l, notInDF_t, notInDF_l, ite_true, ite_false]
  refine ⟨by omega, by omega, by rw [sizeLine_eq]; omega, ?_⟩
  refine loop_rg (n := r) rfl (fun i τ' G' => ∃ v w, τ' = [some (.ref a), some (.dat (tP p)), some (.dat (.int (m : Nat))), some (.dat (tW w)), v] ∧ w.length = i ∧ (∀ c ∈ w, c ∈ lets p.length) ∧ BoxTo G a G')
    ⟨none, [], rfl, rfl, fun d hd => (List.not_mem_nil hd).elim, b1⟩ ?_ ?_
  · rintro i τ' G' hi ⟨v, w, rfl, hl, hw, bb⟩ N hN
    simp only [dSeq, dSet, dAsg, dDrop, dRet, dRetN, dIf, dB, dAnd, dOr, dNot, dAndV, dOrV, dNotV, dIfE, dVar, dC, dO2, dChn, dC1, dC2, dIx, dSl, dP, dNoP, dCall, dCons, dNil, dPure, dMut, dDisp, dTup, dLRg, dTRg, dR1, dR2, gN, gTp, gsNil, gsCons, dNext, dNever, dIsi, dNeg, dL1, dFor, dIt, dIRg1, dIRg2, dEn, dLc0, dYes, dMt, dMt0, dFzE, gIx, dCat, dRep, dSlL, dD0, dD1, dDictP, dPar, dPar3, dRevT, dRevS, dRevL, dIvals, dSortSet, dLkL, dForM, dFzs, dSortSetT, List.map_cons, List.map_nil, List.replicate, List.append_nil, List.cons_append, List.nil_append, List.getElem?_cons_zero, List.getElem?_cons_succ, List.set_cons_zero, List.set_cons_succ, Option.some.injEq, exists_eq_left', exists_eq_left, exists_and_left, and_assoc, or_false, false_or, see_d, isiF, Va.dat.injEq, PyData.bool.injEq, PyData.int.injEq, PyData.str.injEq, PyData.tuple.injEq, PyData.list.injEq, seeL, Option.map_some, wipeD, List.cons.injEq, and_true, true_and, if_true, Bool.false_eq_true, if_false, reduceCtorEq, Int.reduceLT, Int.reduceLE, Int.reduceNeg, and_self, addF_i, subF_i, modF_i, fdivF_i, eqF_int, neF_int, ltF_i, leF_i, gtF_i, geF_i, lenF_t, lenF_l, List.length_map, List.length_cons, List.length_nil, itemsD_t, itemsD_l, decide_true, decide_false, Bool.not_true, Bool.not_false, ixV_dd, ixF_t, ixF_l, tupF_t, tupF_l, min2F_i, max2F_i, dmF_i, absF_i, setO_l, inDF_t, inDF_l, notInDF_t, notInDF_l, ite_true, ite_false]
    refine law_letters_ok hp ?_
    simp only [tP, dSeq, dSet, dAsg, dDrop, dRet, dRetN, dIf, dB, dAnd, dOr, dNot, dAndV, dOrV, dNotV, dIfE, dVar, dC, dO2, dChn, dC1, dC2, dIx, dSl, dP, dNoP, dCall, dCons, dNil, dPure, dMut, dDisp, dTup, dLRg, dTRg, dR1, dR2, gN, gTp, gsNil, gsCons, dNext, dNever, dIsi, dNeg, dL1, dFor, dIt, dIRg1, dIRg2, dEn, dLc0, dYes, dMt, dMt0, dFzE, gIx, dCat, dRep, dSlL, dD0, dD1, dDictP, dPar, dPar3, dRevT, dRevS, dRevL, dIvals, dSortSet, dLkL, dForM, dFzs, dSortSetT, List.map_cons, List.map_nil, List.replicate, List.append_nil, List.cons_append, List.nil_append, List.getElem?_cons_zero, List.getElem?_cons_succ, List.set_cons_zero, List.set_cons_succ, Option.some.injEq, exists_eq_left', exists_eq_left, exists_and_left, and_assoc, or_false, false_or, see_d, isiF, Va.dat.injEq, PyData.bool.injEq, PyData.int.injEq, PyData.str.injEq, PyData.tuple.injEq, PyData.list.injEq, seeL, Option.map_some, wipeD, List.cons.injEq, and_true, true_and, if_true, Bool.false_eq_true, if_false, reduceCtorEq, Int.reduceLT, Int.reduceLE, Int.reduceNeg, and_self, addF_i, subF_i, modF_i, fdivF_i, eqF_int, neF_int, ltF_i, leF_i, gtF_i, geF_i, lenF_t, lenF_l, List.length_map, List.length_cons, List.length_nil, itemsD_t, itemsD_l, decide_true, decide_false, Bool.not_true, Bool.not_false, ixV_dd, ixF_t, ixF_l, tupF_t, tupF_l, min2F_i, max2F_i, dmF_i, absF_i, setO_l, inDF_t, inDF_l, notInDF_t, notInDF_l, ite_true, ite_false, mulI_l (show small 2 = true by decide)]
    refine take_ok bb.box (by omega) (by omega) fun k G2 hk b2 => ?_
    obtain ⟨c, hc, hcm⟩ := lets_get p3 (show k < 2 * p.length by omega)
    have ex : atI ((lets p.length).map sC) (k : Nat) = some (sC c) := ixT (G := G) (by rw [List.getElem?_map, hc]; rfl)
    have ea : addF (tW w) (sC c) = some (tW (w ++ [c])) := by
      show (if w.length + 1 ≤ sizeLine then some (PyData.str ((⟨w.toArray⟩ : Str) ++ (⟨#[c]⟩ : Str))) else none) = _
      rw [if_pos (by rw [sizeLine_eq]; omega)]
      show some (PyData.str ⟨w.toArray ++ #[c]⟩) = _
      simp [tW]
    simp only [dSeq, dSet, dAsg, dDrop, dRet, dRetN, dIf, dB, dAnd, dOr, dNot, dAndV, dOrV, dNotV, dIfE, dVar, dC, dO2, dChn, dC1, dC2, dIx, dSl, dP, dNoP, dCall, dCons, dNil, dPure, dMut, dDisp, dTup, dLRg, dTRg, dR1, dR2, gN, gTp, gsNil, gsCons, dNext, dNever, dIsi, dNeg, dL1, dFor, dIt, dIRg1, dIRg2, dEn, dLc0, dYes, dMt, dMt0, dFzE, gIx, dCat, dRep, dSlL, dD0, dD1, dDictP, dPar, dPar3, dRevT, dRevS, dRevL, dIvals, dSortSet, dLkL, dForM, dFzs, dSortSetT, List.map_cons, List.map_nil, List.replicate, List.append_nil, List.cons_append, List.nil_append, List.getElem?_cons_zero, List.getElem?_cons_succ, List.set_cons_zero, List.set_cons_succ, Option.some.injEq, exists_eq_left', exists_eq_left, exists_and_left, and_assoc, or_false, false_or, see_d, isiF, Va.dat.injEq, PyData.bool.injEq, PyData.int.injEq, PyData.str.injEq, PyData.tuple.injEq, PyData.list.injEq, seeL, Option.map_some, wipeD, List.cons.injEq, and_true, true_and, if_true, Bool.false_eq_true, if_false, reduceCtorEq, Int.reduceLT, Int.reduceLE, Int.reduceNeg, and_self, addF_i, subF_i, modF_i, fdivF_i, eqF_int, neF_int, ltF_i, leF_i, gtF_i, geF_i, lenF_t, lenF_l, List.length_map, List.length_cons, List.length_nil, itemsD_t, itemsD_l, decide_true, decide_false, Bool.not_true, Bool.not_false, ixV_dd, ixF_t, ixF_l, tupF_t, tupF_l, min2F_i, max2F_i, dmF_i, absF_i, setO_l, inDF_t, inDF_l, notInDF_t, notInDF_l, ite_true, ite_false, ex, ea]
    refine hN _ _ ⟨_, w ++ [c], rfl, by simp [hl], fun x hx => ?_, bb.trans b2⟩
    rcases List.mem_append.mp hx with q | q
    · exact hw x q
    · rw [List.mem_singleton.mp q]; exact hcm
  · rintro τ' G' ⟨v, w, rfl, hl, hw, bb⟩
    simp only [dSeq, dSet, dAsg, dDrop, dRet, dRetN, dIf, dB, dAnd, dOr, dNot, dAndV, dOrV, dNotV, dIfE, dVar, dC, dO2, dChn, dC1, dC2, dIx, dSl, dP, dNoP, dCall, dCons, dNil, dPure, dMut, dDisp, dTup, dLRg, dTRg, dR1, dR2, gN, gTp, gsNil, gsCons, dNext, dNever, dIsi, dNeg, dL1, dFor, dIt, dIRg1, dIRg2, dEn, dLc0, dYes, dMt, dMt0, dFzE, gIx, dCat, dRep, dSlL, dD0, dD1, dDictP, dPar, dPar3, dRevT, dRevS, dRevL, dIvals, dSortSet, dLkL, dForM, dFzs, dSortSetT, List.map_cons, List.map_nil, List.replicate, List.append_nil, List.cons_append, List.nil_append, List.getElem?_cons_zero, List.getElem?_cons_succ, List.set_cons_zero, List.set_cons_succ, Option.some.injEq, exists_eq_left', exists_eq_left, exists_and_left, and_assoc, or_false, false_or, see_d, isiF, Va.dat.injEq, PyData.bool.injEq, PyData.int.injEq, PyData.str.injEq, PyData.tuple.injEq, PyData.list.injEq, seeL, Option.map_some, wipeD, List.cons.injEq, and_true, true_and, if_true, Bool.false_eq_true, if_false, reduceCtorEq, Int.reduceLT, Int.reduceLE, Int.reduceNeg, and_self, addF_i, subF_i, modF_i, fdivF_i, eqF_int, neF_int, ltF_i, leF_i, gtF_i, geF_i, lenF_t, lenF_l, List.length_map, List.length_cons, List.length_nil, itemsD_t, itemsD_l, decide_true, decide_false, Bool.not_true, Bool.not_false, ixV_dd, ixF_t, ixF_l, tupF_t, tupF_l, min2F_i, max2F_i, dmF_i, absF_i, setO_l, inDF_t, inDF_l, notInDF_t, notInDF_l, ite_true, ite_false]
    exact ret_ok (h w G' ⟨hw, by omega⟩ (by omega) bb)
theorem law_undone_ok {n : Nat} {d : List Nat} {G : Gp} {Q : VQ} (hd : IsDeed n d) (h5 : n ≤ 5) (h : ∀ G', (∀ a o, G a = some o → G' a = some o) → Q (.dat (tN (inv d))) G') : sp__law_undone [.dat (tN d)] G Q := by
  refine ⟨rfl, ?_⟩
  have hl := hd.len
  simp only [rd__law_undone, dSeq, dSet, dAsg, dDrop, dRet, dRetN, dIf, dB, dAnd, dOr, dNot, dAndV, dOrV, dNotV, dIfE, dVar, dC, dO2, dChn, dC1, dC2, dIx, dSl, dP, dNoP, dCall, dCons, dNil, dPure, dMut, dDisp, dTup, dLRg, dTRg, dR1, dR2, gN, gTp, gsNil, gsCons, dNext, dNever, dIsi, dNeg, dL1, dFor, dIt, dIRg1, dIRg2, dEn, dLc0, dYes, dMt, dMt0, dFzE, gIx, dCat, dRep, dSlL, dD0, dD1, dDictP, dPar, dPar3, dRevT, dRevS, dRevL, dIvals, dSortSet, dLkL, dForM, dFzs, dSortSetT, List.map_cons, List.map_nil, List.replicate, List.append_nil, List.cons_append, List.nil_append, List.getElem?_cons_zero, List.getElem?_cons_succ, List.set_cons_zero, List.set_cons_succ, Option.some.injEq, exists_eq_left', exists_eq_left, exists_and_left, and_assoc, or_false, false_or, see_d, isiF, Va.dat.injEq, PyData.bool.injEq, PyData.int.injEq, PyData.str.injEq, PyData.tuple.injEq, PyData.list.injEq, seeL, Option.map_some, wipeD, List.cons.injEq, and_true, true_and, if_true, Bool.false_eq_true, if_false, reduceCtorEq, Int.reduceLT, Int.reduceLE, Int.reduceNeg, and_self, addF_i, subF_i, modF_i, fdivF_i, eqF_int, neF_int, ltF_i, leF_i, gtF_i, geF_i, lenF_t, lenF_l, List.length_map, List.length_cons, List.length_nil, itemsD_t, itemsD_l, decide_true, decide_false, Bool.not_true, Bool.not_false, ixV_dd, ixF_t, ixF_l, tupF_t, tupF_l, min2F_i, max2F_i, dmF_i, absF_i, setO_l, inDF_t, inDF_l, notInDF_t, notInDF_l, ite_true, ite_false, tN]
  refine ⟨by rw [sizeLine_eq]; decide, fun q hq => ?_⟩
  refine ⟨q, rfl, _, gup_same, by omega, by omega, ?_⟩
  have er : (List.replicate d.length [Va.dat (.int 0)]).flatten = vN (List.replicate d.length 0) := by
    generalize d.length = k
    induction k with
    | zero => rfl
    | succ k ih => rw [List.replicate_succ, List.flatten_cons, ih, List.replicate_succ]; rfl
  rw [show ((d.length : Int)).toNat = d.length from by omega, er]
  refine ⟨by rw [sizeLine_eq, List.length_singleton]; omega, fun r hr => ?_⟩
  have nrq : r ≠ q := fun e => by rw [e, gup_same] at hr; cases hr
  have hGr : G r = none := by rw [gup_ne nrq] at hr; exact hr
  refine ⟨by omega, by omega, by rw [sizeLine_eq]; omega, ?_⟩
  refine loop_rg (n := d.length) rfl (fun i τ' G' => ∃ v f, τ' = [some (.dat (.tuple (d.map fun n => PyData.int (n : Nat)))), some (.ref r), v] ∧ List.length f = n ∧ (∀ j x, j < i → d[j]? = some x → f[x]? = some j) ∧ G' r = some (.lst (vN f)) ∧ ∀ b o, G b = some o → G' b = some o)
    ⟨none, List.replicate d.length 0, rfl, by rw [List.length_replicate, hl], fun j x hj => absurd hj (by omega), gup_same, fun b o e => ?_⟩ ?_ ?_
  · rw [gup_ne (fun z => by rw [z, hGr] at e; cases e), gup_ne (fun z => by rw [z, hq] at e; cases e)]; exact e
  · rintro i τ' G' hi ⟨v, f, rfl, hf, h1, gr, kp⟩ N hN
    have ex : d[i]? = some d[i] := List.getElem?_eq_getElem hi
    have e1 := atI_N ex
    have hx : d[i] < n := hd.lt (List.getElem_mem hi)
    simp only [dSeq, dSet, dAsg, dDrop, dRet, dRetN, dIf, dB, dAnd, dOr, dNot, dAndV, dOrV, dNotV, dIfE, dVar, dC, dO2, dChn, dC1, dC2, dIx, dSl, dP, dNoP, dCall, dCons, dNil, dPure, dMut, dDisp, dTup, dLRg, dTRg, dR1, dR2, gN, gTp, gsNil, gsCons, dNext, dNever, dIsi, dNeg, dL1, dFor, dIt, dIRg1, dIRg2, dEn, dLc0, dYes, dMt, dMt0, dFzE, gIx, dCat, dRep, dSlL, dD0, dD1, dDictP, dPar, dPar3, dRevT, dRevS, dRevL, dIvals, dSortSet, dLkL, dForM, dFzs, dSortSetT, List.map_cons, List.map_nil, List.replicate, List.append_nil, List.cons_append, List.nil_append, List.getElem?_cons_zero, List.getElem?_cons_succ, List.set_cons_zero, List.set_cons_succ, Option.some.injEq, exists_eq_left', exists_eq_left, exists_and_left, and_assoc, or_false, false_or, see_d, isiF, Va.dat.injEq, PyData.bool.injEq, PyData.int.injEq, PyData.str.injEq, PyData.tuple.injEq, PyData.list.injEq, seeL, Option.map_some, wipeD, List.cons.injEq, and_true, true_and, if_true, Bool.false_eq_true, if_false, reduceCtorEq, Int.reduceLT, Int.reduceLE, Int.reduceNeg, and_self, addF_i, subF_i, modF_i, fdivF_i, eqF_int, neF_int, ltF_i, leF_i, gtF_i, geF_i, lenF_t, lenF_l, List.length_map, List.length_cons, List.length_nil, itemsD_t, itemsD_l, decide_true, decide_false, Bool.not_true, Bool.not_false, ixV_dd, ixF_t, ixF_l, tupF_t, tupF_l, min2F_i, max2F_i, dmF_i, absF_i, setO_l, inDF_t, inDF_l, notInDF_t, notInDF_l, ite_true, ite_false, e1]
    refine ⟨r, rfl, .lst (vN f), gr, .lst ((vN f).set d[i] (.dat (.int (i : Nat)))), ⟨(d[i] : Nat), d[i], rfl, ?_, rfl⟩, ?_⟩
    · unfold ixN
      rw [if_pos (by omega), if_pos (by simp; omega)]
      simp
    refine hN _ _ ⟨_, f.set d[i] i, rfl, by simpa using hf, fun j x hj e => ?_, ?_, fun b o e => ?_⟩
    · by_cases hji : j = i
      · subst hji
        rw [ex] at e
        cases e
        rw [List.getElem?_set_self (by omega)]
      · have hne : d[i] ≠ x := fun z => by
          subst z
          exact hji ((List.getElem?_inj (l := d) (i := i) (j := j) hi hd.nodup).mp (ex.trans e.symm)).symm
        rw [List.getElem?_set_ne hne]
        exact h1 j x (by omega) e
    · rw [gup_same]
      congr 2
      unfold vN
      rw [List.map_set]
    · rw [gup_ne (fun z => by rw [z, hGr] at e; cases e)]
      exact kp b o e
  · rintro τ' G' ⟨v, f, rfl, hf, h1, gr, kp⟩
    simp only [dSeq, dSet, dAsg, dDrop, dRet, dRetN, dIf, dB, dAnd, dOr, dNot, dAndV, dOrV, dNotV, dIfE, dVar, dC, dO2, dChn, dC1, dC2, dIx, dSl, dP, dNoP, dCall, dCons, dNil, dPure, dMut, dDisp, dTup, dLRg, dTRg, dR1, dR2, gN, gTp, gsNil, gsCons, dNext, dNever, dIsi, dNeg, dL1, dFor, dIt, dIRg1, dIRg2, dEn, dLc0, dYes, dMt, dMt0, dFzE, gIx, dCat, dRep, dSlL, dD0, dD1, dDictP, dPar, dPar3, dRevT, dRevS, dRevL, dIvals, dSortSet, dLkL, dForM, dFzs, dSortSetT, List.map_cons, List.map_nil, List.replicate, List.append_nil, List.cons_append, List.nil_append, List.getElem?_cons_zero, List.getElem?_cons_succ, List.set_cons_zero, List.set_cons_succ, Option.some.injEq, exists_eq_left', exists_eq_left, exists_and_left, and_assoc, or_false, false_or, see_d, isiF, Va.dat.injEq, PyData.bool.injEq, PyData.int.injEq, PyData.str.injEq, PyData.tuple.injEq, PyData.list.injEq, seeL, Option.map_some, wipeD, List.cons.injEq, and_true, true_and, if_true, Bool.false_eq_true, if_false, reduceCtorEq, Int.reduceLT, Int.reduceLE, Int.reduceNeg, and_self, addF_i, subF_i, modF_i, fdivF_i, eqF_int, neF_int, ltF_i, leF_i, gtF_i, geF_i, lenF_t, lenF_l, List.length_map, List.length_cons, List.length_nil, itemsD_t, itemsD_l, decide_true, decide_false, Bool.not_true, Bool.not_false, ixV_dd, ixF_t, ixF_l, tupF_t, tupF_l, min2F_i, max2F_i, dmF_i, absF_i, setO_l, inDF_t, inDF_l, notInDF_t, notInDF_l, ite_true, ite_false]
    refine ⟨_, seeR gr (seeL_vN f), ?_⟩
    simp only [dSeq, dSet, dAsg, dDrop, dRet, dRetN, dIf, dB, dAnd, dOr, dNot, dAndV, dOrV, dNotV, dIfE, dVar, dC, dO2, dChn, dC1, dC2, dIx, dSl, dP, dNoP, dCall, dCons, dNil, dPure, dMut, dDisp, dTup, dLRg, dTRg, dR1, dR2, gN, gTp, gsNil, gsCons, dNext, dNever, dIsi, dNeg, dL1, dFor, dIt, dIRg1, dIRg2, dEn, dLc0, dYes, dMt, dMt0, dFzE, gIx, dCat, dRep, dSlL, dD0, dD1, dDictP, dPar, dPar3, dRevT, dRevS, dRevL, dIvals, dSortSet, dLkL, dForM, dFzs, dSortSetT, List.map_cons, List.map_nil, List.replicate, List.append_nil, List.cons_append, List.nil_append, List.getElem?_cons_zero, List.getElem?_cons_succ, List.set_cons_zero, List.set_cons_succ, Option.some.injEq, exists_eq_left', exists_eq_left, exists_and_left, and_assoc, or_false, false_or, see_d, isiF, Va.dat.injEq, PyData.bool.injEq, PyData.int.injEq, PyData.str.injEq, PyData.tuple.injEq, PyData.list.injEq, seeL, Option.map_some, wipeD, List.cons.injEq, and_true, true_and, if_true, Bool.false_eq_true, if_false, reduceCtorEq, Int.reduceLT, Int.reduceLE, Int.reduceNeg, and_self, addF_i, subF_i, modF_i, fdivF_i, eqF_int, neF_int, ltF_i, leF_i, gtF_i, geF_i, lenF_t, lenF_l, List.length_map, List.length_cons, List.length_nil, itemsD_t, itemsD_l, decide_true, decide_false, Bool.not_true, Bool.not_false, ixV_dd, ixF_t, ixF_l, tupF_t, tupF_l, min2F_i, max2F_i, dmF_i, absF_i, setO_l, inDF_t, inDF_l, notInDF_t, notInDF_l, ite_true, ite_false]
    have ef : f = inv d := by
      apply List.ext_getElem?
      intro x
      unfold inv
      rw [List.getElem?_map]
      by_cases hx : x < n
      · have hm := hd.mem hx
        have hi := List.idxOf_lt_length_iff.mpr hm
        rw [List.getElem?_range (by omega), h1 _ x hi (by rw [List.getElem?_eq_getElem hi, List.getElem_idxOf hi])]; rfl
      · rw [List.getElem?_eq_none (by omega), List.getElem?_eq_none (by simp; omega)]; rfl
    rw [ef]
    exact ret_ok (h G' kp)
def pairs (p : List (List Nat)) : List (PyData × PyData) := (lets p.length).map fun c => (sC c, tN (ld p c))
theorem pairs_eq {n : Nat} {p : List (List Nat)} (hp : IsPuz n p) : pairs p = ((List.range p.length).map fun i => (sC ([88, 89, 90].getD i 0), tN (inv (p.getD i [])))) ++ (List.range p.length).map fun i => (sC ([120, 121, 122].getD i 0), tN (p.getD i [])) := by
  have p3 := hp.p3
  unfold pairs lets
  rw [List.map_append]
  congr 1
  · apply List.ext_getElem?
    intro i
    rw [List.getElem?_map, List.getElem?_map, List.getElem?_take]
    by_cases hi : i < p.length
    · rw [if_pos hi, List.getElem?_range hi]
      unfold ld
      match i, hi with
      | 0, hi => rfl
      | 1, hi => rfl
      | 2, hi => rfl
      | i + 3, hi => omega
    · rw [if_neg hi, List.getElem?_eq_none (by simpa using hi)]; rfl
  · apply List.ext_getElem?
    intro i
    rw [List.getElem?_map, List.getElem?_map, List.getElem?_take]
    by_cases hi : i < p.length
    · rw [if_pos hi, List.getElem?_range hi]
      unfold ld
      match i, hi with
      | 0, hi => rfl
      | 1, hi => rfl
      | 2, hi => rfl
      | i + 3, hi => omega
    · rw [if_neg hi, List.getElem?_eq_none (by simpa using hi)]; rfl
theorem law_deeds_ok {n : Nat} {p : List (List Nat)} {G : Gp} {Q : VQ} (hp : IsPuz n p) (h : ∀ G', (∀ a o, G a = some o → G' a = some o) → Q (.dat (.list ((pairs p).map fun q => PyData.tuple [q.1, q.2]))) G') : sp__law_deeds [.dat (tP p)] G Q := by
  refine ⟨rfl, ?_⟩
  have p3 := hp.p3
  have hz : 3 ≤ sizeLine := by rw [sizeLine_eq]; decide
  have cs : ∀ {a b c : Nat} {i : Nat}, i < 3 → atI [sC a, sC b, sC c] (i : Nat) = some (sC ([a, b, c].getD i 0)) := fun {a b c i} hi => by
    match i, hi with
    | 0, _ => rfl
    | 1, _ => rfl
    | 2, _ => rfl
  have seeV : ∀ l : List (PyData × PyData), seeL (l.map fun q => Va.dat (.tuple [q.1, q.2])) = some (l.map fun q => .tuple [q.1, q.2]) := fun l => seeL_map (fun q : PyData × PyData => PyData.tuple [q.1, q.2]) l
  simp only [rd__law_deeds, dSeq, dSet, dAsg, dDrop, dRet, dRetN, dIf, dB, dAnd, dOr, dNot, dAndV, dOrV, dNotV, dIfE, dVar, dC, dO2, dChn, dC1, dC2, dIx, dSl, dP, dNoP, dCall, dCons, dNil, dPure, dMut, dDisp, dTup, dLRg, dTRg, dR1, dR2, gN, gTp, gsNil, gsCons, dNext, dNever, dIsi, dNeg, dL1, dFor, dIt, dIRg1, dIRg2, dEn, dLc0, dYes, dMt, dMt0, dFzE, gIx, dCat, dRep, dSlL, dD0, dD1, dDictP, dPar, dPar3, dRevT, dRevS, dRevL, dIvals, dSortSet, dLkL, dForM, dFzs, dSortSetT, List.map_cons, List.map_nil, List.replicate, List.append_nil, List.cons_append, List.nil_append, List.getElem?_cons_zero, List.getElem?_cons_succ, List.set_cons_zero, List.set_cons_succ, Option.some.injEq, exists_eq_left', exists_eq_left, exists_and_left, and_assoc, or_false, false_or, see_d, isiF, Va.dat.injEq, PyData.bool.injEq, PyData.int.injEq, PyData.str.injEq, PyData.tuple.injEq, PyData.list.injEq, seeL, Option.map_some, wipeD, List.cons.injEq, and_true, true_and, if_true, Bool.false_eq_true, if_false, reduceCtorEq, Int.reduceLT, Int.reduceLE, Int.reduceNeg, and_self, addF_i, subF_i, modF_i, fdivF_i, eqF_int, neF_int, ltF_i, leF_i, gtF_i, geF_i, lenF_t, lenF_l, List.length_map, List.length_cons, List.length_nil, itemsD_t, itemsD_l, decide_true, decide_false, Bool.not_true, Bool.not_false, ixV_dd, ixF_t, ixF_l, tupF_t, tupF_l, min2F_i, max2F_i, dmF_i, absF_i, setO_l, inDF_t, inDF_l, notInDF_t, notInDF_l, ite_true, ite_false, tP]
  refine ⟨by omega, by omega, by rw [sizeLine_eq]; omega, ?_⟩
  refine lc_rg (n := p.length) (acc := []) rfl (fun i acc G' => acc = ((List.range i).map fun i => (sC ([88, 89, 90].getD i 0), tN (inv (p.getD i [])))).map (fun q => Va.dat (.tuple [q.1, q.2])) ∧ ∀ a o, G a = some o → G' a = some o) ⟨rfl, fun _ _ e => e⟩ ?_ ?_
  · rintro i acc G' hi ⟨rfl, kp⟩ N hN
    have e1 : atI [PyData.str (("X" : Str)), PyData.str (("Y" : Str)), PyData.str (("Z" : Str))] (i : Nat) = some (sC ([88, 89, 90].getD i 0)) := cs (by omega)
    have e2 : atI (p.map tN) (i : Nat) = some (tN (p.getD i [])) := ixT (G := G) (by rw [List.getElem?_map, (puz_get hp hi).2]; rfl)
    simp only [dSeq, dSet, dAsg, dDrop, dRet, dRetN, dIf, dB, dAnd, dOr, dNot, dAndV, dOrV, dNotV, dIfE, dVar, dC, dO2, dChn, dC1, dC2, dIx, dSl, dP, dNoP, dCall, dCons, dNil, dPure, dMut, dDisp, dTup, dLRg, dTRg, dR1, dR2, gN, gTp, gsNil, gsCons, dNext, dNever, dIsi, dNeg, dL1, dFor, dIt, dIRg1, dIRg2, dEn, dLc0, dYes, dMt, dMt0, dFzE, gIx, dCat, dRep, dSlL, dD0, dD1, dDictP, dPar, dPar3, dRevT, dRevS, dRevL, dIvals, dSortSet, dLkL, dForM, dFzs, dSortSetT, List.map_cons, List.map_nil, List.replicate, List.append_nil, List.cons_append, List.nil_append, List.getElem?_cons_zero, List.getElem?_cons_succ, List.set_cons_zero, List.set_cons_succ, Option.some.injEq, exists_eq_left', exists_eq_left, exists_and_left, and_assoc, or_false, false_or, see_d, isiF, Va.dat.injEq, PyData.bool.injEq, PyData.int.injEq, PyData.str.injEq, PyData.tuple.injEq, PyData.list.injEq, seeL, Option.map_some, wipeD, List.cons.injEq, and_true, true_and, if_true, Bool.false_eq_true, if_false, reduceCtorEq, Int.reduceLT, Int.reduceLE, Int.reduceNeg, and_self, addF_i, subF_i, modF_i, fdivF_i, eqF_int, neF_int, ltF_i, leF_i, gtF_i, geF_i, lenF_t, lenF_l, List.length_map, List.length_cons, List.length_nil, itemsD_t, itemsD_l, decide_true, decide_false, Bool.not_true, Bool.not_false, ixV_dd, ixF_t, ixF_l, tupF_t, tupF_l, min2F_i, max2F_i, dmF_i, absF_i, setO_l, inDF_t, inDF_l, notInDF_t, notInDF_l, ite_true, ite_false, e1, e2]
    refine ⟨hz, law_undone_ok (puz_get hp hi).1 hp.n5 fun G2 k2 => ?_⟩
    simp only [dSeq, dSet, dAsg, dDrop, dRet, dRetN, dIf, dB, dAnd, dOr, dNot, dAndV, dOrV, dNotV, dIfE, dVar, dC, dO2, dChn, dC1, dC2, dIx, dSl, dP, dNoP, dCall, dCons, dNil, dPure, dMut, dDisp, dTup, dLRg, dTRg, dR1, dR2, gN, gTp, gsNil, gsCons, dNext, dNever, dIsi, dNeg, dL1, dFor, dIt, dIRg1, dIRg2, dEn, dLc0, dYes, dMt, dMt0, dFzE, gIx, dCat, dRep, dSlL, dD0, dD1, dDictP, dPar, dPar3, dRevT, dRevS, dRevL, dIvals, dSortSet, dLkL, dForM, dFzs, dSortSetT, List.map_cons, List.map_nil, List.replicate, List.append_nil, List.cons_append, List.nil_append, List.getElem?_cons_zero, List.getElem?_cons_succ, List.set_cons_zero, List.set_cons_succ, Option.some.injEq, exists_eq_left', exists_eq_left, exists_and_left, and_assoc, or_false, false_or, see_d, isiF, Va.dat.injEq, PyData.bool.injEq, PyData.int.injEq, PyData.str.injEq, PyData.tuple.injEq, PyData.list.injEq, seeL, Option.map_some, wipeD, List.cons.injEq, and_true, true_and, if_true, Bool.false_eq_true, if_false, reduceCtorEq, Int.reduceLT, Int.reduceLE, Int.reduceNeg, and_self, addF_i, subF_i, modF_i, fdivF_i, eqF_int, neF_int, ltF_i, leF_i, gtF_i, geF_i, lenF_t, lenF_l, List.length_map, List.length_cons, List.length_nil, itemsD_t, itemsD_l, decide_true, decide_false, Bool.not_true, Bool.not_false, ixV_dd, ixF_t, ixF_l, tupF_t, tupF_l, min2F_i, max2F_i, dmF_i, absF_i, setO_l, inDF_t, inDF_l, notInDF_t, notInDF_l, ite_true, ite_false]
    refine ⟨by rw [sizeLine_eq]; decide, hN _ _ ⟨?_, fun a o e => k2 a o (kp a o e)⟩⟩
    rw [List.range_succ, List.map_append, List.map_append]; rfl
  rintro acc G' ⟨rfl, kp⟩
  refine ⟨_, seeV _, ?_⟩
  refine ⟨by omega, by omega, by rw [sizeLine_eq]; omega, ?_⟩
  refine lc_rg (n := p.length) (acc := []) rfl (fun i acc G2 => acc = ((List.range i).map fun i => (sC ([120, 121, 122].getD i 0), tN (p.getD i []))).map (fun q => Va.dat (.tuple [q.1, q.2])) ∧ G2 = G') ⟨rfl, rfl⟩ ?_ ?_
  · rintro i acc G2 hi ⟨rfl, rfl⟩ N hN
    have e1 : atI [PyData.str (("x" : Str)), PyData.str (("y" : Str)), PyData.str (("z" : Str))] (i : Nat) = some (sC ([120, 121, 122].getD i 0)) := cs (by omega)
    have e2 : atI (p.map tN) (i : Nat) = some (tN (p.getD i [])) := ixT (G := G) (by rw [List.getElem?_map, (puz_get hp hi).2]; rfl)
    simp only [dSeq, dSet, dAsg, dDrop, dRet, dRetN, dIf, dB, dAnd, dOr, dNot, dAndV, dOrV, dNotV, dIfE, dVar, dC, dO2, dChn, dC1, dC2, dIx, dSl, dP, dNoP, dCall, dCons, dNil, dPure, dMut, dDisp, dTup, dLRg, dTRg, dR1, dR2, gN, gTp, gsNil, gsCons, dNext, dNever, dIsi, dNeg, dL1, dFor, dIt, dIRg1, dIRg2, dEn, dLc0, dYes, dMt, dMt0, dFzE, gIx, dCat, dRep, dSlL, dD0, dD1, dDictP, dPar, dPar3, dRevT, dRevS, dRevL, dIvals, dSortSet, dLkL, dForM, dFzs, dSortSetT, List.map_cons, List.map_nil, List.replicate, List.append_nil, List.cons_append, List.nil_append, List.getElem?_cons_zero, List.getElem?_cons_succ, List.set_cons_zero, List.set_cons_succ, Option.some.injEq, exists_eq_left', exists_eq_left, exists_and_left, and_assoc, or_false, false_or, see_d, isiF, Va.dat.injEq, PyData.bool.injEq, PyData.int.injEq, PyData.str.injEq, PyData.tuple.injEq, PyData.list.injEq, seeL, Option.map_some, wipeD, List.cons.injEq, and_true, true_and, if_true, Bool.false_eq_true, if_false, reduceCtorEq, Int.reduceLT, Int.reduceLE, Int.reduceNeg, and_self, addF_i, subF_i, modF_i, fdivF_i, eqF_int, neF_int, ltF_i, leF_i, gtF_i, geF_i, lenF_t, lenF_l, List.length_map, List.length_cons, List.length_nil, itemsD_t, itemsD_l, decide_true, decide_false, Bool.not_true, Bool.not_false, ixV_dd, ixF_t, ixF_l, tupF_t, tupF_l, min2F_i, max2F_i, dmF_i, absF_i, setO_l, inDF_t, inDF_l, notInDF_t, notInDF_l, ite_true, ite_false, e1, e2]
    refine ⟨hz, by rw [sizeLine_eq]; decide, hN _ _ ⟨?_, rfl⟩⟩
    rw [List.range_succ, List.map_append, List.map_append]; rfl
  rintro acc G2 ⟨rfl, rfl⟩
  refine ⟨_, seeV _, by rw [sizeLine_eq]; simp; omega, _, seeL_dats _, ret_ok ?_⟩
  rw [← List.map_append, ← pairs_eq hp]
  exact h G2 kp
theorem law_done_ok {n : Nat} {p : List (List Nat)} {s w : List Nat} {G : Gp} {Q : VQ} (hp : IsPuz n p) (hs : IsDeed n s) (hw : IsWord p.length w) (h : ∀ G', (∀ a o, G a = some o → G' a = some o) → Q (.dat (tN (bh p s w))) G') : sp__law_done [.dat (tP p), .dat (tN s), .dat (tW w)] G Q := by
  refine ⟨rfl, ?_⟩
  have hz := hw.len
  simp only [rd__law_done, dSeq, dSet, dAsg, dDrop, dRet, dRetN, dIf, dB, dAnd, dOr, dNot, dAndV, dOrV, dNotV, dIfE, dVar, dC, dO2, dChn, dC1, dC2, dIx, dSl, dP, dNoP, dCall, dCons, dNil, dPure, dMut, dDisp, dTup, dLRg, dTRg, dR1, dR2, gN, gTp, gsNil, gsCons, dNext, dNever, dIsi, dNeg, dL1, dFor, dIt, dIRg1, dIRg2, dEn, dLc0, dYes, dMt, dMt0, dFzE, gIx, dCat, dRep, dSlL, dD0, dD1, dDictP, dPar, dPar3, dRevT, dRevS, dRevL, dIvals, dSortSet, dLkL, dForM, dFzs, dSortSetT, List.map_cons, List.map_nil, List.replicate, List.append_nil, List.cons_append, List.nil_append, List.getElem?_cons_zero, List.getElem?_cons_succ, List.set_cons_zero, List.set_cons_succ, Option.some.injEq, exists_eq_left', exists_eq_left, exists_and_left, and_assoc, or_false, false_or, see_d, isiF, Va.dat.injEq, PyData.bool.injEq, PyData.int.injEq, PyData.str.injEq, PyData.tuple.injEq, PyData.list.injEq, seeL, Option.map_some, wipeD, List.cons.injEq, and_true, true_and, if_true, Bool.false_eq_true, if_false, reduceCtorEq, Int.reduceLT, Int.reduceLE, Int.reduceNeg, and_self, addF_i, subF_i, modF_i, fdivF_i, eqF_int, neF_int, ltF_i, leF_i, gtF_i, geF_i, lenF_t, lenF_l, List.length_map, List.length_cons, List.length_nil, itemsD_t, itemsD_l, decide_true, decide_false, Bool.not_true, Bool.not_false, ixV_dd, ixF_t, ixF_l, tupF_t, tupF_l, min2F_i, max2F_i, dmF_i, absF_i, setO_l, inDF_t, inDF_l, notInDF_t, notInDF_l, ite_true, ite_false, itemsD_w]
  refine law_deeds_ok hp fun G1 k1 => ?_
  refine ⟨pairs p, rfl, homAll_sC _, fun q hq => ?_⟩
  have em : dmerge [] (pairs p) = pairs p := dmerge_sC (M := []) (by rw [List.nil_append]; exact lets_nodup _)
  refine ⟨q, rfl, .dict (pairs p), ?_, ?_⟩
  · show (match gup G1 q (MO.dct (dats (dmerge [] (pairs p)))) q with | some (.lst xs) => (seeL xs).map PyData.list | some (.dct kvs) => (seeKV kvs).map PyData.dict | _ => none) = _
    rw [gup_same, em]
    dsimp only
    rw [show dats (pairs p) = (pairs p).map fun p => (p.1, Va.dat p.2) from rfl, seeKV_dats]; rfl
  have kp : ∀ a o, G a = some o → gdel (gup G1 q (MO.dct (dats (dmerge [] (pairs p))))) q a = some o := fun a o e => by
    have e1 := k1 a o e
    have ne : a ≠ q := fun z => by rw [z, hq] at e1; cases e1
    unfold gdel
    rw [if_neg ne, gup_ne ne]
    exact e1
  refine ⟨by rw [sizeLine_eq]; omega, ?_⟩
  refine loop_ix _ (fun i τ' G' => (∀ a o, G a = some o → G' a = some o) ∧ ∃ v, τ' = [some (.dat (tP p)), some (.dat (tN (bh p s (w.take i)))), some (.dat (tW w)), some (.dat (.dict (pairs p))), v]) ⟨kp, none, rfl⟩ ?_ ?_
  · rintro i x τ' G' hx ⟨kp, v, rfl⟩ N hN
    rw [List.map_map, List.getElem?_map] at hx
    obtain ⟨c, hc, rfl⟩ := Option.map_eq_some_iff.mp hx
    have hm := hw.ok c (List.mem_of_getElem? hc)
    have el : ixDF (.dict (pairs p)) (sC c) = some (tN (ld p c)) := by
      show (if homB (pairs p) (sC c) then dlook (pairs p) (sC c) else none) = _
      unfold pairs
      rw [hom_sC, dlook_sC hm]; rfl
    simp only [Function.comp, dSeq, dSet, dAsg, dDrop, dRet, dRetN, dIf, dB, dAnd, dOr, dNot, dAndV, dOrV, dNotV, dIfE, dVar, dC, dO2, dChn, dC1, dC2, dIx, dSl, dP, dNoP, dCall, dCons, dNil, dPure, dMut, dDisp, dTup, dLRg, dTRg, dR1, dR2, gN, gTp, gsNil, gsCons, dNext, dNever, dIsi, dNeg, dL1, dFor, dIt, dIRg1, dIRg2, dEn, dLc0, dYes, dMt, dMt0, dFzE, gIx, dCat, dRep, dSlL, dD0, dD1, dDictP, dPar, dPar3, dRevT, dRevS, dRevL, dIvals, dSortSet, dLkL, dForM, dFzs, dSortSetT, List.map_cons, List.map_nil, List.replicate, List.append_nil, List.cons_append, List.nil_append, List.getElem?_cons_zero, List.getElem?_cons_succ, List.set_cons_zero, List.set_cons_succ, Option.some.injEq, exists_eq_left', exists_eq_left, exists_and_left, and_assoc, or_false, false_or, see_d, isiF, Va.dat.injEq, PyData.bool.injEq, PyData.int.injEq, PyData.str.injEq, PyData.tuple.injEq, PyData.list.injEq, seeL, Option.map_some, wipeD, List.cons.injEq, and_true, true_and, if_true, Bool.false_eq_true, if_false, reduceCtorEq, Int.reduceLT, Int.reduceLE, Int.reduceNeg, and_self, addF_i, subF_i, modF_i, fdivF_i, eqF_int, neF_int, ltF_i, leF_i, gtF_i, geF_i, lenF_t, lenF_l, List.length_map, List.length_cons, List.length_nil, itemsD_t, itemsD_l, decide_true, decide_false, Bool.not_true, Bool.not_false, ixV_dd, ixF_t, ixF_l, tupF_t, tupF_l, min2F_i, max2F_i, dmF_i, absF_i, setO_l, inDF_t, inDF_l, notInDF_t, notInDF_l, ite_true, ite_false, el]
    refine law_moved_ok (bh_deed hp (fun x hx => hw.ok x (List.mem_of_mem_take hx)) hs) (ld_deed hp hm) hp.n5 ?_
    rw [← bh_take hc]
    exact hN _ _ ⟨kp, _, rfl⟩
  · rintro τ' G' ⟨kp, v, rfl⟩
    rw [show w.take (List.map Va.dat (w.map sC)).length = w from List.take_of_length_le (by simp)]
    simp only [dSeq, dSet, dAsg, dDrop, dRet, dRetN, dIf, dB, dAnd, dOr, dNot, dAndV, dOrV, dNotV, dIfE, dVar, dC, dO2, dChn, dC1, dC2, dIx, dSl, dP, dNoP, dCall, dCons, dNil, dPure, dMut, dDisp, dTup, dLRg, dTRg, dR1, dR2, gN, gTp, gsNil, gsCons, dNext, dNever, dIsi, dNeg, dL1, dFor, dIt, dIRg1, dIRg2, dEn, dLc0, dYes, dMt, dMt0, dFzE, gIx, dCat, dRep, dSlL, dD0, dD1, dDictP, dPar, dPar3, dRevT, dRevS, dRevL, dIvals, dSortSet, dLkL, dForM, dFzs, dSortSetT, List.map_cons, List.map_nil, List.replicate, List.append_nil, List.cons_append, List.nil_append, List.getElem?_cons_zero, List.getElem?_cons_succ, List.set_cons_zero, List.set_cons_succ, Option.some.injEq, exists_eq_left', exists_eq_left, exists_and_left, and_assoc, or_false, false_or, see_d, isiF, Va.dat.injEq, PyData.bool.injEq, PyData.int.injEq, PyData.str.injEq, PyData.tuple.injEq, PyData.list.injEq, seeL, Option.map_some, wipeD, List.cons.injEq, and_true, true_and, if_true, Bool.false_eq_true, if_false, reduceCtorEq, Int.reduceLT, Int.reduceLE, Int.reduceNeg, and_self, addF_i, subF_i, modF_i, fdivF_i, eqF_int, neF_int, ltF_i, leF_i, gtF_i, geF_i, lenF_t, lenF_l, List.length_map, List.length_cons, List.length_nil, itemsD_t, itemsD_l, decide_true, decide_false, Bool.not_true, Bool.not_false, ixV_dd, ixF_t, ixF_l, tupF_t, tupF_l, min2F_i, max2F_i, dmF_i, absF_i, setO_l, inDF_t, inDF_l, notInDF_t, notInDF_l, ite_true, ite_false]
    exact ret_ok (h G' kp)

end DL.R

namespace DL.R
open PySem PySem.Spec PyProof.Rows L2 DL

theorem rounds (ns : List Int) (top : Nat) (ht : 1 ≤ top) : ∃ m : Nat, (if (if ((top : Nat) : Int) < (ns.length : Int) then ((top : Nat) : Int) else (ns.length : Int)) > 1 then (if ((top : Nat) : Int) < (ns.length : Int) then ((top : Nat) : Int) else (ns.length : Int)) else 1) = (m : Nat) ∧ m ≤ top := by
  by_cases h6 : ((top : Nat) : Int) < (ns.length : Int)
  · by_cases h1 : ((top : Nat) : Int) > 1
    · exact ⟨top, by simp [h6, h1], Nat.le_refl _⟩
    · exact ⟨1, by rw [if_pos h6, if_neg h1]; rfl, ht⟩
  · by_cases h1 : (ns.length : Int) > 1
    · exact ⟨ns.length, by simp [h6, h1], by omega⟩
    · exact ⟨1, by simp [h6, h1], by omega⟩

end DL.R

namespace DL.R
open PySem PySem.Spec PyProof.Rows L2 DL

theorem keys_at {F : Fs} {k : Nat} {q : List Nat × List Nat} (h : F[k]? = some q) : ∀ {a : Addr} {G : Gp}, G a = some (.lst ((keysF F).map fun d => Va.dat (tN d))) → ixV G (.ref a) (.dat (.int (k : Nat))) = some (.dat (tN q.1)) := by
  intro a G g
  unfold ixV
  simp only [g]
  have hk := (List.getElem?_eq_some_iff.mp h).1
  unfold atI ixN
  rw [if_pos (by omega), if_pos (by unfold keysF; rw [List.length_map, List.length_map]; omega)]
  show ((keysF F).map fun d => Va.dat (tN d))[((k : Nat) : Int).toNat]? = _
  unfold keysF
  rw [List.map_map, List.getElem?_map, show ((k : Nat) : Int).toNat = k by omega, h]; rfl
theorem words_go {n : Nat} {p : List (List Nat)} {G : Gp} {Q : VQ} (hp : IsPuz n p) {t : DS} (h : ∀ G', (∀ b o, G b = some o → G' b = some o) → ∀ a v2 v3 v4 v5, G a = none → G' a = some (.dct (aF (fin p n))) → t (bodyEnds Q) [some (.dat (tP p)), some (.ref a), v2, v3, v4, v5] G') :
    (dSeq (dSet 1 (dD1 tk (dCall sp_home_of (dCons (dVar 0) dNil)) (dC (.str (("" : Str))))))
    (dSeq (dSet 2 (dMut (dDisp (dCons (dCall sp_home_of (dCons (dVar 0) dNil)) dNil))))
    (dSeq (dSet 3 (dC (.int 0)))
    (dSeq (dWhile (dB (dO2 ltF (dVar 3) (dC1 lenDF (dVar 2)))) (dSeq (dFor (dIt (dCall sp_letters_of (dCons (dVar 0) dNil))) (gN 4)
    (dSeq (dSet 5 (dCall sp_moved_by (dCons (dIx (dVar 2) (dVar 3)) (dCons (dCall sp_letter_deed (dCons (dVar 0) (dCons (dVar 4) dNil))) dNil))))
    (dIf (dB (dO2 notInDF (dVar 5) (dVar 1))) (dSeq (dAsg (dO2 addF (dIx (dVar 1) (dIx (dVar 2) (dVar 3))) (dVar 4)) (gIx (dVar 1) (dVar 5)))
    (dDrop (dMt tyL (mLM mAppend) (dVar 2) (dCons (dVar 5) dNil)))) dNext)))
    (dSet 3 (dO2 addF (dVar 3) (dC (.int 1))))))
    t)))) (bodyEnds Q) [some (.dat (tP p)), none, none, none, none, none] G := by
  have hz : 1000000 ≤ sizeLine := by rw [sizeLine_eq]; decide
  have p3 := hp.p3
  simp only [dSeq, dSet, dAsg, dDrop, dRet, dRetN, dIf, dB, dAnd, dOr, dNot, dAndV, dOrV, dNotV, dIfE, dVar, dC, dO2, dChn, dC1, dC2, dIx, dSl, dP, dNoP, dCall, dCons, dNil, dPure, dMut, dDisp, dTup, dLRg, dTRg, dR1, dR2, gN, gTp, gsNil, gsCons, dNext, dNever, dIsi, dNeg, dL1, dFor, dIt, dIRg1, dIRg2, dEn, dLc0, dYes, dMt, dMt0, dFzE, gIx, dCat, dRep, dSlL, dD0, dD1, dDictP, dPar, dPar3, dRevT, dRevS, dRevL, dIvals, dSortSet, dLkL, dForM, dFzs, dSortSetT, List.map_cons, List.map_nil, List.replicate, List.append_nil, List.cons_append, List.nil_append, List.getElem?_cons_zero, List.getElem?_cons_succ, List.set_cons_zero, List.set_cons_succ, Option.some.injEq, exists_eq_left', exists_eq_left, exists_and_left, and_assoc, or_false, false_or, see_d, isiF, Va.dat.injEq, PyData.bool.injEq, PyData.int.injEq, PyData.str.injEq, PyData.tuple.injEq, PyData.list.injEq, seeL, Option.map_some, wipeD, List.cons.injEq, and_true, true_and, if_true, Bool.false_eq_true, if_false, reduceCtorEq, Int.reduceLT, Int.reduceLE, Int.reduceNeg, and_self, addF_i, subF_i, modF_i, fdivF_i, eqF_int, neF_int, ltF_i, leF_i, gtF_i, geF_i, lenF_t, lenF_l, List.length_map, List.length_cons, List.length_nil, itemsD_t, itemsD_l, decide_true, decide_false, Bool.not_true, Bool.not_false, ixV_dd, ixF_t, ixF_l, tupF_t, tupF_l, min2F_i, max2F_i, dmF_i, absF_i, setO_l, inDF_t, inDF_l, notInDF_t, notInDF_l, ite_true, ite_false]
  refine home_of_ok hp ?_
  refine ⟨_, rfl, tk_tN _, fun a ha => ?_⟩
  refine home_of_ok hp ?_
  refine ⟨by omega, fun b hb => ?_⟩
  have nab : b ≠ a := fun e => by rw [e, gup_same] at hb; cases hb
  have hGb : G b = none := by rw [gup_ne nab] at hb; exact hb
  refine ⟨fun τ' G' => ∃ k v4 v5, τ' = [some (.dat (tP p)), some (.ref a), some (.ref b), some (.dat (.int (k : Nat))), v4, v5] ∧ k ≤ (goF p n k).length ∧ G' a = some (.dct (aF (goF p n k))) ∧ G' b = some (.lst ((keysF (goF p n k)).map fun d => Va.dat (tN d))) ∧ ∀ c o, G c = some o → G' c = some o,
    fun (τ' : Ts) _ => match τ'[3]? with
      | some (some (Va.dat (PyData.int i))) => 121 - i.toNat
      | _ => 0, ⟨0, none, none, rfl, Nat.zero_le _, ?_, gup_same, fun c o e => ?_⟩, ?_⟩
  · rw [gup_ne (Ne.symm nab), gup_same]; rfl
  · rw [gup_ne (fun z => by rw [z, hGb] at e; cases e), gup_ne (fun z => by rw [z, ha] at e; cases e)]; exact e
  rintro τ' G' ⟨k, v4, v5, rfl, hk, ga, gb, kp⟩
  have wf := wf_go hp (n := n) k
  have hF := wf.le hp
  have sb : see G' (.ref b) = some (.list ((keysF (goF p n k)).map tN)) := seeR gb (seeL_map tN _)
  have lk : (keysF (goF p n k)).length = (goF p n k).length := by unfold keysF; rw [List.length_map]
  simp only [dSeq, dSet, dAsg, dDrop, dRet, dRetN, dIf, dB, dAnd, dOr, dNot, dAndV, dOrV, dNotV, dIfE, dVar, dC, dO2, dChn, dC1, dC2, dIx, dSl, dP, dNoP, dCall, dCons, dNil, dPure, dMut, dDisp, dTup, dLRg, dTRg, dR1, dR2, gN, gTp, gsNil, gsCons, dNext, dNever, dIsi, dNeg, dL1, dFor, dIt, dIRg1, dIRg2, dEn, dLc0, dYes, dMt, dMt0, dFzE, gIx, dCat, dRep, dSlL, dD0, dD1, dDictP, dPar, dPar3, dRevT, dRevS, dRevL, dIvals, dSortSet, dLkL, dForM, dFzs, dSortSetT, List.map_cons, List.map_nil, List.replicate, List.append_nil, List.cons_append, List.nil_append, List.getElem?_cons_zero, List.getElem?_cons_succ, List.set_cons_zero, List.set_cons_succ, Option.some.injEq, exists_eq_left', exists_eq_left, exists_and_left, and_assoc, or_false, false_or, see_d, isiF, Va.dat.injEq, PyData.bool.injEq, PyData.int.injEq, PyData.str.injEq, PyData.tuple.injEq, PyData.list.injEq, seeL, Option.map_some, wipeD, List.cons.injEq, and_true, true_and, if_true, Bool.false_eq_true, if_false, reduceCtorEq, Int.reduceLT, Int.reduceLE, Int.reduceNeg, and_self, addF_i, subF_i, modF_i, fdivF_i, eqF_int, neF_int, ltF_i, leF_i, gtF_i, geF_i, lenF_t, lenF_l, List.length_map, List.length_cons, List.length_nil, itemsD_t, itemsD_l, decide_true, decide_false, Bool.not_true, Bool.not_false, ixV_dd, ixF_t, ixF_l, tupF_t, tupF_l, min2F_i, max2F_i, dmF_i, absF_i, setO_l, inDF_t, inDF_l, notInDF_t, notInDF_l, ite_true, ite_false, sb, lk]
  by_cases hlt : (k : Int) < ((goF p n k).length : Int)
  · have hk' : k < (goF p n k).length := by omega
    simp only [dSeq, dSet, dAsg, dDrop, dRet, dRetN, dIf, dB, dAnd, dOr, dNot, dAndV, dOrV, dNotV, dIfE, dVar, dC, dO2, dChn, dC1, dC2, dIx, dSl, dP, dNoP, dCall, dCons, dNil, dPure, dMut, dDisp, dTup, dLRg, dTRg, dR1, dR2, gN, gTp, gsNil, gsCons, dNext, dNever, dIsi, dNeg, dL1, dFor, dIt, dIRg1, dIRg2, dEn, dLc0, dYes, dMt, dMt0, dFzE, gIx, dCat, dRep, dSlL, dD0, dD1, dDictP, dPar, dPar3, dRevT, dRevS, dRevL, dIvals, dSortSet, dLkL, dForM, dFzs, dSortSetT, List.map_cons, List.map_nil, List.replicate, List.append_nil, List.cons_append, List.nil_append, List.getElem?_cons_zero, List.getElem?_cons_succ, List.set_cons_zero, List.set_cons_succ, Option.some.injEq, exists_eq_left', exists_eq_left, exists_and_left, and_assoc, or_false, false_or, see_d, isiF, Va.dat.injEq, PyData.bool.injEq, PyData.int.injEq, PyData.str.injEq, PyData.tuple.injEq, PyData.list.injEq, seeL, Option.map_some, wipeD, List.cons.injEq, and_true, true_and, if_true, Bool.false_eq_true, if_false, reduceCtorEq, Int.reduceLT, Int.reduceLE, Int.reduceNeg, and_self, addF_i, subF_i, modF_i, fdivF_i, eqF_int, neF_int, ltF_i, leF_i, gtF_i, geF_i, lenF_t, lenF_l, List.length_map, List.length_cons, List.length_nil, itemsD_t, itemsD_l, decide_true, decide_false, Bool.not_true, Bool.not_false, ixV_dd, ixF_t, ixF_l, tupF_t, tupF_l, min2F_i, max2F_i, dmF_i, absF_i, setO_l, inDF_t, inDF_l, notInDF_t, notInDF_l, ite_true, ite_false, hlt]
    obtain ⟨q, hq⟩ : ∃ q, (goF p n k)[k]? = some q := ⟨_, List.getElem?_eq_getElem hk'⟩
    refine letters_of_ok hp ?_
    have hl := lets_len p3
    simp only [dSeq, dSet, dAsg, dDrop, dRet, dRetN, dIf, dB, dAnd, dOr, dNot, dAndV, dOrV, dNotV, dIfE, dVar, dC, dO2, dChn, dC1, dC2, dIx, dSl, dP, dNoP, dCall, dCons, dNil, dPure, dMut, dDisp, dTup, dLRg, dTRg, dR1, dR2, gN, gTp, gsNil, gsCons, dNext, dNever, dIsi, dNeg, dL1, dFor, dIt, dIRg1, dIRg2, dEn, dLc0, dYes, dMt, dMt0, dFzE, gIx, dCat, dRep, dSlL, dD0, dD1, dDictP, dPar, dPar3, dRevT, dRevS, dRevL, dIvals, dSortSet, dLkL, dForM, dFzs, dSortSetT, List.map_cons, List.map_nil, List.replicate, List.append_nil, List.cons_append, List.nil_append, List.getElem?_cons_zero, List.getElem?_cons_succ, List.set_cons_zero, List.set_cons_succ, Option.some.injEq, exists_eq_left', exists_eq_left, exists_and_left, and_assoc, or_false, false_or, see_d, isiF, Va.dat.injEq, PyData.bool.injEq, PyData.int.injEq, PyData.str.injEq, PyData.tuple.injEq, PyData.list.injEq, seeL, Option.map_some, wipeD, List.cons.injEq, and_true, true_and, if_true, Bool.false_eq_true, if_false, reduceCtorEq, Int.reduceLT, Int.reduceLE, Int.reduceNeg, and_self, addF_i, subF_i, modF_i, fdivF_i, eqF_int, neF_int, ltF_i, leF_i, gtF_i, geF_i, lenF_t, lenF_l, List.length_map, List.length_cons, List.length_nil, itemsD_t, itemsD_l, decide_true, decide_false, Bool.not_true, Bool.not_false, ixV_dd, ixF_t, ixF_l, tupF_t, tupF_l, min2F_i, max2F_i, dmF_i, absF_i, setO_l, inDF_t, inDF_l, notInDF_t, notInDF_l, ite_true, ite_false]
    refine ⟨by omega, ?_⟩
    have hqk : q.1 ∈ keysF (goF p n k) := List.mem_map.mpr ⟨q, List.mem_of_getElem? hq, rfl⟩
    refine loop_ix _ (fun i τ2 G2 => ∃ v4 v5, τ2 = [some (.dat (tP p)), some (.ref a), some (.ref b), some (.dat (.int (k : Nat))), v4, v5] ∧ G2 a = some (.dct (aF (((lets p.length).take i).foldl (tryL p q.1) (goF p n k)))) ∧ G2 b = some (.lst ((keysF (((lets p.length).take i).foldl (tryL p q.1) (goF p n k))).map fun d => Va.dat (tN d))) ∧ ∀ c o, G c = some o → G2 c = some o)
      ⟨v4, v5, rfl, ga, gb, kp⟩ ?_ ?_
    · rintro i x τ2 G2 hx ⟨w4, w5, rfl, g2a, g2b, k2⟩ N hN
      rw [List.map_map, List.getElem?_map] at hx
      obtain ⟨c, hc, rfl⟩ := Option.map_eq_some_iff.mp hx
      have hcm := List.mem_of_getElem? hc
      have wf2 : Wf n p (((lets p.length).take i).foldl (tryL p q.1) (goF p n k)) := wf_fold hp wf hqk fun x hx => List.mem_of_mem_take hx
      obtain ⟨M, hM⟩ := fold_pre p q.1 ((lets p.length).take i) (goF p n k)
      have es : ((lets p.length).take (i + 1)).foldl (tryL p q.1) (goF p n k) = tryL p q.1 (((lets p.length).take i).foldl (tryL p q.1) (goF p n k)) c := by
        rw [List.take_add_one, hc, List.foldl_append]; rfl
      rw [es] at hN
      generalize hF2 : ((lets p.length).take i).foldl (tryL p q.1) (goF p n k) = F2 at *
      have hq2 : F2[k]? = some q := by rw [hM, List.getElem?_append_left hk']; exact hq
      have hq2k : q.1 ∈ keysF F2 := List.mem_map.mpr ⟨q, List.mem_of_getElem? hq2, rfl⟩
      have hF2l := wf2.le hp
      have e1 := keys_at hq2 g2b
      simp only [Function.comp, dSeq, dSet, dAsg, dDrop, dRet, dRetN, dIf, dB, dAnd, dOr, dNot, dAndV, dOrV, dNotV, dIfE, dVar, dC, dO2, dChn, dC1, dC2, dIx, dSl, dP, dNoP, dCall, dCons, dNil, dPure, dMut, dDisp, dTup, dLRg, dTRg, dR1, dR2, gN, gTp, gsNil, gsCons, dNext, dNever, dIsi, dNeg, dL1, dFor, dIt, dIRg1, dIRg2, dEn, dLc0, dYes, dMt, dMt0, dFzE, gIx, dCat, dRep, dSlL, dD0, dD1, dDictP, dPar, dPar3, dRevT, dRevS, dRevL, dIvals, dSortSet, dLkL, dForM, dFzs, dSortSetT, List.map_cons, List.map_nil, List.replicate, List.append_nil, List.cons_append, List.nil_append, List.getElem?_cons_zero, List.getElem?_cons_succ, List.set_cons_zero, List.set_cons_succ, Option.some.injEq, exists_eq_left', exists_eq_left, exists_and_left, and_assoc, or_false, false_or, see_d, isiF, Va.dat.injEq, PyData.bool.injEq, PyData.int.injEq, PyData.str.injEq, PyData.tuple.injEq, PyData.list.injEq, seeL, Option.map_some, wipeD, List.cons.injEq, and_true, true_and, if_true, Bool.false_eq_true, if_false, reduceCtorEq, Int.reduceLT, Int.reduceLE, Int.reduceNeg, and_self, addF_i, subF_i, modF_i, fdivF_i, eqF_int, neF_int, ltF_i, leF_i, gtF_i, geF_i, lenF_t, lenF_l, List.length_map, List.length_cons, List.length_nil, itemsD_t, itemsD_l, decide_true, decide_false, Bool.not_true, Bool.not_false, ixV_dd, ixF_t, ixF_l, tupF_t, tupF_l, min2F_i, max2F_i, dmF_i, absF_i, setO_l, inDF_t, inDF_l, notInDF_t, notInDF_l, ite_true, ite_false, e1]
      refine letter_deed_ok hp hcm ?_
      refine moved_by_ok (wf2.key hq2k) (ld_deed hp hcm) hp.n5 ?_
      have sa := see_aF g2a
      simp only [dSeq, dSet, dAsg, dDrop, dRet, dRetN, dIf, dB, dAnd, dOr, dNot, dAndV, dOrV, dNotV, dIfE, dVar, dC, dO2, dChn, dC1, dC2, dIx, dSl, dP, dNoP, dCall, dCons, dNil, dPure, dMut, dDisp, dTup, dLRg, dTRg, dR1, dR2, gN, gTp, gsNil, gsCons, dNext, dNever, dIsi, dNeg, dL1, dFor, dIt, dIRg1, dIRg2, dEn, dLc0, dYes, dMt, dMt0, dFzE, gIx, dCat, dRep, dSlL, dD0, dD1, dDictP, dPar, dPar3, dRevT, dRevS, dRevL, dIvals, dSortSet, dLkL, dForM, dFzs, dSortSetT, List.map_cons, List.map_nil, List.replicate, List.append_nil, List.cons_append, List.nil_append, List.getElem?_cons_zero, List.getElem?_cons_succ, List.set_cons_zero, List.set_cons_succ, Option.some.injEq, exists_eq_left', exists_eq_left, exists_and_left, and_assoc, or_false, false_or, see_d, isiF, Va.dat.injEq, PyData.bool.injEq, PyData.int.injEq, PyData.str.injEq, PyData.tuple.injEq, PyData.list.injEq, seeL, Option.map_some, wipeD, List.cons.injEq, and_true, true_and, if_true, Bool.false_eq_true, if_false, reduceCtorEq, Int.reduceLT, Int.reduceLE, Int.reduceNeg, and_self, addF_i, subF_i, modF_i, fdivF_i, eqF_int, neF_int, ltF_i, leF_i, gtF_i, geF_i, lenF_t, lenF_l, List.length_map, List.length_cons, List.length_nil, itemsD_t, itemsD_l, decide_true, decide_false, Bool.not_true, Bool.not_false, ixV_dd, ixF_t, ixF_l, tupF_t, tupF_l, min2F_i, max2F_i, dmF_i, absF_i, setO_l, inDF_t, inDF_l, notInDF_t, notInDF_l, ite_true, ite_false, sa, notIn_dF]
      by_cases hin : mv q.1 (ld p c) ∈ keysF F2
      · simp only [dSeq, dSet, dAsg, dDrop, dRet, dRetN, dIf, dB, dAnd, dOr, dNot, dAndV, dOrV, dNotV, dIfE, dVar, dC, dO2, dChn, dC1, dC2, dIx, dSl, dP, dNoP, dCall, dCons, dNil, dPure, dMut, dDisp, dTup, dLRg, dTRg, dR1, dR2, gN, gTp, gsNil, gsCons, dNext, dNever, dIsi, dNeg, dL1, dFor, dIt, dIRg1, dIRg2, dEn, dLc0, dYes, dMt, dMt0, dFzE, gIx, dCat, dRep, dSlL, dD0, dD1, dDictP, dPar, dPar3, dRevT, dRevS, dRevL, dIvals, dSortSet, dLkL, dForM, dFzs, dSortSetT, List.map_cons, List.map_nil, List.replicate, List.append_nil, List.cons_append, List.nil_append, List.getElem?_cons_zero, List.getElem?_cons_succ, List.set_cons_zero, List.set_cons_succ, Option.some.injEq, exists_eq_left', exists_eq_left, exists_and_left, and_assoc, or_false, false_or, see_d, isiF, Va.dat.injEq, PyData.bool.injEq, PyData.int.injEq, PyData.str.injEq, PyData.tuple.injEq, PyData.list.injEq, seeL, Option.map_some, wipeD, List.cons.injEq, and_true, true_and, if_true, Bool.false_eq_true, if_false, reduceCtorEq, Int.reduceLT, Int.reduceLE, Int.reduceNeg, and_self, addF_i, subF_i, modF_i, fdivF_i, eqF_int, neF_int, ltF_i, leF_i, gtF_i, geF_i, lenF_t, lenF_l, List.length_map, List.length_cons, List.length_nil, itemsD_t, itemsD_l, decide_true, decide_false, Bool.not_true, Bool.not_false, ixV_dd, ixF_t, ixF_l, tupF_t, tupF_l, min2F_i, max2F_i, dmF_i, absF_i, setO_l, inDF_t, inDF_l, notInDF_t, notInDF_l, ite_true, ite_false, hin]
        refine hN _ _ ⟨_, _, rfl, ?_, ?_, k2⟩
        · unfold tryL; rw [if_pos hin]; exact g2a
        · unfold tryL; rw [if_pos hin]; exact g2b
      · have e2 := ix_aF g2a hq2k
        have e3 := addF_w (w := wordAt F2 q.1) (c := c) (by have := word_short wf2 hp q.1; omega)
        simp only [dSeq, dSet, dAsg, dDrop, dRet, dRetN, dIf, dB, dAnd, dOr, dNot, dAndV, dOrV, dNotV, dIfE, dVar, dC, dO2, dChn, dC1, dC2, dIx, dSl, dP, dNoP, dCall, dCons, dNil, dPure, dMut, dDisp, dTup, dLRg, dTRg, dR1, dR2, gN, gTp, gsNil, gsCons, dNext, dNever, dIsi, dNeg, dL1, dFor, dIt, dIRg1, dIRg2, dEn, dLc0, dYes, dMt, dMt0, dFzE, gIx, dCat, dRep, dSlL, dD0, dD1, dDictP, dPar, dPar3, dRevT, dRevS, dRevL, dIvals, dSortSet, dLkL, dForM, dFzs, dSortSetT, List.map_cons, List.map_nil, List.replicate, List.append_nil, List.cons_append, List.nil_append, List.getElem?_cons_zero, List.getElem?_cons_succ, List.set_cons_zero, List.set_cons_succ, Option.some.injEq, exists_eq_left', exists_eq_left, exists_and_left, and_assoc, or_false, false_or, see_d, isiF, Va.dat.injEq, PyData.bool.injEq, PyData.int.injEq, PyData.str.injEq, PyData.tuple.injEq, PyData.list.injEq, seeL, Option.map_some, wipeD, List.cons.injEq, and_true, true_and, if_true, Bool.false_eq_true, if_false, reduceCtorEq, Int.reduceLT, Int.reduceLE, Int.reduceNeg, and_self, addF_i, subF_i, modF_i, fdivF_i, eqF_int, neF_int, ltF_i, leF_i, gtF_i, geF_i, lenF_t, lenF_l, List.length_map, List.length_cons, List.length_nil, itemsD_t, itemsD_l, decide_true, decide_false, Bool.not_true, Bool.not_false, ixV_dd, ixF_t, ixF_l, tupF_t, tupF_l, min2F_i, max2F_i, dmF_i, absF_i, setO_l, inDF_t, inDF_l, notInDF_t, notInDF_l, ite_true, ite_false, hin, e1, e2, e3]
        refine ⟨a, rfl, _, g2a, _, ⟨_, rfl, hom_tN (f := fun q => Va.dat (tW q.2)) F2 _, ?_, rfl⟩, ?_⟩
        · show (aF F2).length < sizeLine
          unfold aF
          rw [List.length_map]; omega
        have g3b : gup G2 a (.dct (dstore (aF F2) (tN (mv q.1 (ld p c))) (Va.dat (tW (wordAt F2 q.1 ++ [c]))))) b = some (.lst ((keysF F2).map fun d => Va.dat (tN d))) := by rw [gup_ne nab]; exact g2b
        refine ⟨.inr ⟨b, _, rfl, g3b⟩, append_ok g3b ?_ ?_⟩
        · rw [List.length_map]; unfold keysF; rw [List.length_map]; omega
        · refine hN _ _ ⟨_, _, rfl, ?_, ?_, fun c o e => ?_⟩
          · rw [gup_ne (Ne.symm nab), gup_same, dstore_new hin]
            unfold tryL; rw [if_neg hin]
          · rw [gup_same]
            unfold tryL; rw [if_neg hin]
            unfold keysF
            rw [List.map_append, List.map_append]; rfl
          · rw [gup_ne (fun z => by rw [z, hGb] at e; cases e), gup_ne (fun z => by rw [z, ha] at e; cases e)]; exact k2 c o e
    · rintro τ2 G2 ⟨w4, w5, rfl, g2a, g2b, k2⟩
      have el : (lets p.length).take (((lets p.length).map sC).map Va.dat).length = lets p.length := List.take_of_length_le (by simp)
      rw [el] at g2a g2b
      have eg : goF p n (k + 1) = (lets p.length).foldl (tryL p q.1) (goF p n k) := go_succ hq
      rw [← eg] at g2a g2b
      simp only [dSeq, dSet, dAsg, dDrop, dRet, dRetN, dIf, dB, dAnd, dOr, dNot, dAndV, dOrV, dNotV, dIfE, dVar, dC, dO2, dChn, dC1, dC2, dIx, dSl, dP, dNoP, dCall, dCons, dNil, dPure, dMut, dDisp, dTup, dLRg, dTRg, dR1, dR2, gN, gTp, gsNil, gsCons, dNext, dNever, dIsi, dNeg, dL1, dFor, dIt, dIRg1, dIRg2, dEn, dLc0, dYes, dMt, dMt0, dFzE, gIx, dCat, dRep, dSlL, dD0, dD1, dDictP, dPar, dPar3, dRevT, dRevS, dRevL, dIvals, dSortSet, dLkL, dForM, dFzs, dSortSetT, List.map_cons, List.map_nil, List.replicate, List.append_nil, List.cons_append, List.nil_append, List.getElem?_cons_zero, List.getElem?_cons_succ, List.set_cons_zero, List.set_cons_succ, Option.some.injEq, exists_eq_left', exists_eq_left, exists_and_left, and_assoc, or_false, false_or, see_d, isiF, Va.dat.injEq, PyData.bool.injEq, PyData.int.injEq, PyData.str.injEq, PyData.tuple.injEq, PyData.list.injEq, seeL, Option.map_some, wipeD, List.cons.injEq, and_true, true_and, if_true, Bool.false_eq_true, if_false, reduceCtorEq, Int.reduceLT, Int.reduceLE, Int.reduceNeg, and_self, addF_i, subF_i, modF_i, fdivF_i, eqF_int, neF_int, ltF_i, leF_i, gtF_i, geF_i, lenF_t, lenF_l, List.length_map, List.length_cons, List.length_nil, itemsD_t, itemsD_l, decide_true, decide_false, Bool.not_true, Bool.not_false, ixV_dd, ixF_t, ixF_l, tupF_t, tupF_l, min2F_i, max2F_i, dmF_i, absF_i, setO_l, inDF_t, inDF_l, notInDF_t, notInDF_l, ite_true, ite_false]
      refine ⟨⟨k + 1, by omega, ?_, g2a, g2b, k2⟩, ?_⟩
      · obtain ⟨M, e⟩ := go_pre p n k
        rw [e, List.length_append]
        omega
      · show 121 - ((k : Int) + 1).toNat < 121 - ((k : Nat) : Int).toNat
        omega
  · simp only [dSeq, dSet, dAsg, dDrop, dRet, dRetN, dIf, dB, dAnd, dOr, dNot, dAndV, dOrV, dNotV, dIfE, dVar, dC, dO2, dChn, dC1, dC2, dIx, dSl, dP, dNoP, dCall, dCons, dNil, dPure, dMut, dDisp, dTup, dLRg, dTRg, dR1, dR2, gN, gTp, gsNil, gsCons, dNext, dNever, dIsi, dNeg, dL1, dFor, dIt, dIRg1, dIRg2, dEn, dLc0, dYes, dMt, dMt0, dFzE, gIx, dCat, dRep, dSlL, dD0, dD1, dDictP, dPar, dPar3, dRevT, dRevS, dRevL, dIvals, dSortSet, dLkL, dForM, dFzs, dSortSetT, List.map_cons, List.map_nil, List.replicate, List.append_nil, List.cons_append, List.nil_append, List.getElem?_cons_zero, List.getElem?_cons_succ, List.set_cons_zero, List.set_cons_succ, Option.some.injEq, exists_eq_left', exists_eq_left, exists_and_left, and_assoc, or_false, false_or, see_d, isiF, Va.dat.injEq, PyData.bool.injEq, PyData.int.injEq, PyData.str.injEq, PyData.tuple.injEq, PyData.list.injEq, seeL, Option.map_some, wipeD, List.cons.injEq, and_true, true_and, if_true, Bool.false_eq_true, if_false, reduceCtorEq, Int.reduceLT, Int.reduceLE, Int.reduceNeg, and_self, addF_i, subF_i, modF_i, fdivF_i, eqF_int, neF_int, ltF_i, leF_i, gtF_i, geF_i, lenF_t, lenF_l, List.length_map, List.length_cons, List.length_nil, itemsD_t, itemsD_l, decide_true, decide_false, Bool.not_true, Bool.not_false, ixV_dd, ixF_t, ixF_l, tupF_t, tupF_l, min2F_i, max2F_i, dmF_i, absF_i, setO_l, inDF_t, inDF_l, notInDF_t, notInDF_l, ite_true, ite_false, hlt]
    have := go_fin hp (show (goF p n k).length ≤ k by omega)
    rw [this] at ga
    exact h G' kp a _ _ _ _ ha ga

end DL.R

namespace DL.R
open PySem PySem.Spec PyProof.Rows L2 DL

/-! the least is the first of the sorted -/
theorem lt_irr (a : PyData) : PySem.W.dataLt a a = false := PyProof.Rows.lex_irrefl _
theorem lt_neg {a b c : PyData} (h : PySem.W.dataLt a c = true) : PySem.W.dataLt a b = true ∨ PySem.W.dataLt b c = true := PyProof.Rows.lex_negTrans _ _ _ h
theorem lt_tot {a b : PyData} (h1 : PySem.W.dataLt a b = false) (h2 : PySem.W.dataLt b a = false) : PySem.W.keyToks a = PySem.W.keyToks b := PyProof.Rows.lex_total _ _ h1 h2
theorem lt_as {a b : PyData} (h : PySem.W.dataLt a b = true) : PySem.W.dataLt b a = false := by
  cases e : PySem.W.dataLt b a with
  | false => rfl
  | true =>
    have := PyProof.Rows.lex_trans _ _ _ h e
    have h2 := lt_irr a
    unfold PySem.W.dataLt at h2
    rw [h2] at this; cases this
theorem min_all : ∀ (xs : List PyData) (x : PyData), ∀ y ∈ x :: xs, PySem.W.dataLt y (PySem.W.minD x xs) = false
  | [], x, y, h => by
    rw [List.mem_singleton.mp h]
    exact lt_irr x
  | z :: xs, x, y, h => by
    show PySem.W.dataLt y (PySem.W.minD (if PySem.W.dataLt z x = true then z else x) xs) = false
    by_cases hz : PySem.W.dataLt z x = true
    · rw [if_pos hz]
      have ih := min_all xs z
      rcases List.mem_cons.mp h with rfl | h
      · cases e : PySem.W.dataLt y (PySem.W.minD z xs) with
        | false => rfl
        | true =>
          rcases lt_neg (b := z) e with q | q
          · rw [lt_as hz] at q; cases q
          · rw [ih z List.mem_cons_self] at q; cases q
      · exact ih y h
    · rw [if_neg hz]
      have ih := min_all xs x
      rcases List.mem_cons.mp h with rfl | h
      · exact ih y List.mem_cons_self
      · rcases List.mem_cons.mp h with rfl | h
        · cases e : PySem.W.dataLt y (PySem.W.minD x xs) with
          | false => rfl
          | true =>
            rcases lt_neg (b := x) e with q | q
            · exact absurd q hz
            · rw [ih x List.mem_cons_self] at q; cases q
        · exact ih y (List.mem_cons_of_mem _ h)
theorem sort_pair (L : List PyData) : (L.mergeSort (PySem.W.dataLe false id)).Pairwise fun a b => PySem.W.dataLt b a = false := by
  have h := List.pairwise_mergeSort (le := PySem.W.dataLe false id) (fun a b c h1 h2 => ?_) (fun a b => ?_) L
  · refine h.imp fun {a b} q => ?_
    have q' : (!PySem.W.dataLt b a) = true := q
    simpa using q'
  · have h1 : (!PySem.W.dataLt b a) = true := h1
    have h2 : (!PySem.W.dataLt c b) = true := h2
    show (!PySem.W.dataLt c a) = true
    cases e : PySem.W.dataLt c a with
    | false => rfl
    | true =>
      rcases lt_neg (b := b) e with q | q
      · rw [q] at h2; cases h2
      · rw [q] at h1; cases h1
  · show ((!PySem.W.dataLt b a) || (!PySem.W.dataLt a b)) = true
    cases e : PySem.W.dataLt b a with
    | false => rfl
    | true => rw [lt_as e]; rfl
theorem min_head {x : PyData} {xs : List PyData} (inj : ∀ a ∈ x :: xs, ∀ b ∈ x :: xs, PySem.W.keyToks a = PySem.W.keyToks b → a = b) : ∃ t, (x :: xs).mergeSort (PySem.W.dataLe false id) = PySem.W.minD x xs :: t := by
  have hp := List.mergeSort_perm (x :: xs) (PySem.W.dataLe false id)
  have hs := sort_pair (x :: xs)
  have hm : PySem.W.minD x xs ∈ x :: xs := best_mem (p := fun a y => PySem.W.dataLt y a) xs x
  cases e : (x :: xs).mergeSort (PySem.W.dataLe false id) with
  | nil => rw [e] at hp; exact absurd hp.length_eq (by simp)
  | cons h t =>
    refine ⟨t, ?_⟩
    congr 1
    rw [e] at hs hp
    have hh : h ∈ x :: xs := hp.mem_iff.mp List.mem_cons_self
    have h1 := min_all xs x h hh
    have h2 : PySem.W.dataLt (PySem.W.minD x xs) h = false := by
      rcases List.mem_cons.mp (hp.mem_iff.mpr hm) with q | q
      · rw [q]; exact lt_irr h
      · exact (List.pairwise_cons.mp hs).1 _ q
    exact inj _ hh _ hm (lt_tot h1 h2)
theorem toks_ints : ∀ {a b : List Nat}, PySem.W.keyToksAll (a.map fun n => PyData.int (n : Nat)) = PySem.W.keyToksAll (b.map fun n => PyData.int (n : Nat)) → a = b
  | [], [], _ => rfl
  | [], y :: b, h => by
    rw [List.map_nil, List.map_cons] at h
    unfold PySem.W.keyToksAll at h
    cases h
  | x :: a, [], h => by
    rw [List.map_nil, List.map_cons] at h
    unfold PySem.W.keyToksAll at h
    cases h
  | x :: a, y :: b, h => by
    rw [List.map_cons, List.map_cons] at h
    unfold PySem.W.keyToksAll at h
    unfold PySem.W.keyToks at h
    injection h with h1 h2
    injection h2 with h2 h3
    injection h2 with h2
    rw [toks_ints h3, show x = y by omega]
theorem toks_tN {a b : List Nat} (h : PySem.W.keyToks (tN a) = PySem.W.keyToks (tN b)) : a = b := by
  have e : ∀ d, PySem.W.keyToks (tN d) = PySem.W.keyToksAll (d.map fun n => PyData.int (n : Nat)) := fun d => by
    show PySem.W.keyToks (.tuple (d.map fun n => PyData.int (n : Nat))) = _
    unfold PySem.W.keyToks
    rfl
  rw [e, e] at h
  exact toks_ints h
/-- the least of some stands is the first of them sorted -/
theorem min_srt {x : List Nat} {xs : List (List Nat)} : ∃ s t, srt (x :: xs) = s :: t ∧ PySem.W.minD (tN x) (xs.map tN) = tN s ∧ s ∈ x :: xs := by
  obtain ⟨t, e⟩ := min_head (x := tN x) (xs := xs.map tN) fun a ha b hb h => by
    have ha' : a ∈ (x :: xs).map tN := ha
    have hb' : b ∈ (x :: xs).map tN := hb
    obtain ⟨c, _, rfl⟩ := List.mem_map.mp ha'
    obtain ⟨d, _, rfl⟩ := List.mem_map.mp hb'
    rw [toks_tN h]
  have e2 : (srt (x :: xs)).map tN = PySem.W.minD (tN x) (xs.map tN) :: t := by
    rw [← srt_map, ← e]; rfl
  cases h : srt (x :: xs) with
  | nil => rw [h] at e2; cases e2
  | cons s r =>
    rw [h, List.map_cons] at e2
    injection e2 with h1 h2
    refine ⟨s, r, rfl, h1.symm, mem_srt.mp ?_⟩
    rw [h]; exact List.mem_cons_self
/-- sorted, of one kind -/
theorem sortF_map {α : Type} (T : α → PyData) (L : List α) (ha : ∀ a ∈ L, ∀ b ∈ L, PySem.W.alike (T a) (T b) = true) (hne : ∀ a ∈ L, ∃ x r, T a = .tuple (x :: r)) (hd : ∀ a ∈ L, (T a).depth ≤ 59) :
    ∃ L' : List α, sortF (.list (L.map T)) (L'.map T) ∧ L'.Perm L ∧ L'.Pairwise fun a b => PySem.W.dataLt (T b) (T a) = false := by
  have em : (L.map T).mergeSort (PySem.W.dataLe false id) = (L.mergeSort fun a b => PySem.W.dataLe false id (T a) (T b)).map T := by
    rw [List.map_mergeSort]
    intro a ha b hb
    rfl
  refine ⟨_, ⟨_, rfl, (fun y e => by cases e), ?_, ?_, ?_, em.symm⟩, List.mergeSort_perm _ _, ?_⟩
  · intro a ha' b hb'
    obtain ⟨m, hm, rfl⟩ := List.mem_map.mp ha'
    obtain ⟨k, hk, rfl⟩ := List.mem_map.mp hb'
    exact ha m hm k hk
  · refine .inl fun a ha' => ?_
    obtain ⟨m, hm, rfl⟩ := List.mem_map.mp ha'
    exact hne m hm
  · intro a ha'
    obtain ⟨m, hm, rfl⟩ := List.mem_map.mp ha'
    have := hd m hm
    omega
  · have := sort_pair (L.map T)
    rw [em] at this
    exact List.pairwise_map.mp this
/-- the first of the sorted that are asked for is the least of them -/
theorem first_min {α : Type} (T U : α → PyData) (b : α → Bool) {L L' : List α} (hp : L'.Perm L) (hs : L'.Pairwise fun a b => PySem.W.dataLt (T b) (T a) = false)
    (hTU : ∀ x y, b x = true → b y = true → PySem.W.dataLt (T x) (T y) = PySem.W.dataLt (U x) (U y)) (inj : ∀ x y, PySem.W.keyToks (U x) = PySem.W.keyToks (U y) → U x = U y) :
    (L.filter b = [] ∧ L'.filter b = []) ∨ ∃ x xs y ys, L.filter b = x :: xs ∧ L'.filter b = y :: ys ∧ PySem.W.minD (U x) (xs.map U) = U y ∧ y ∈ L := by
  have hpf := hp.filter b
  cases h : L.filter b with
  | nil =>
    rw [h] at hpf
    exact .inl ⟨rfl, List.perm_nil.mp hpf⟩
  | cons x xs =>
    cases h2 : L'.filter b with
    | nil => rw [h, h2] at hpf; exact absurd hpf.length_eq (by simp)
    | cons y ys =>
      refine .inr ⟨x, xs, y, ys, rfl, rfl, ?_, ?_⟩
      · rw [h, h2] at hpf
        have hm : PySem.W.minD (U x) (xs.map U) ∈ U x :: xs.map U := best_mem (p := fun a y => PySem.W.dataLt y a) (xs.map U) (U x)
        have hm' : PySem.W.minD (U x) (xs.map U) ∈ (x :: xs).map U := hm
        obtain ⟨z, hz, ez⟩ := List.mem_map.mp hm'
        have hy : y ∈ x :: xs := hpf.mem_iff.mp List.mem_cons_self
        have hall := min_all (xs.map U) (U x) (U y) (by
          have : U y ∈ (x :: xs).map U := List.mem_map.mpr ⟨y, hy, rfl⟩
          exact this)
        rw [← ez] at hall ⊢
        have hb : ∀ v ∈ x :: xs, b v = true := fun v hv => by rw [← h] at hv; exact (List.mem_filter.mp hv).2
        have hzy : z ∈ y :: ys := hpf.mem_iff.mpr hz
        have hsf : (y :: ys).Pairwise fun a b => PySem.W.dataLt (T b) (T a) = false := by rw [← h2]; exact hs.filter b
        have h3 : PySem.W.dataLt (T z) (T y) = false := by
          rcases List.mem_cons.mp hzy with q | q
          · rw [q]; exact lt_irr _
          · exact (List.pairwise_cons.mp hsf).1 z q
        rw [hTU z y (hb z hz) (hb y hy)] at h3
        exact inj z y (lt_tot h3 hall)
      · have : y ∈ L'.filter b := by rw [h2]; exact List.mem_cons_self
        exact hp.mem_iff.mp (List.mem_filter.mp this).1

end DL.R

namespace DL.R
open PySem PySem.Spec PyProof.Rows L2 DL

def gotF (F : Fs) (s : List Nat) : PyData := ((findF F s).map tW).getD .none
def lenO : Option (List Nat) → PyData
  | none => .none
  | some w => .int (w.length : Nat)
theorem get_dF {F : Fs} {s : List Nat} {G : Gp} {Q : VQ} (h : Q (.dat (gotF F s)) G) : mGet (.dat (.dict (dF F))) [.dat (tN s)] G Q := by
  refine ⟨dF F, tN s, rfl, rfl, ?_, ?_⟩
  · unfold dF; exact hom_tN (f := fun q => tW q.2) F s
  · have : (dlook (dF F) (tN s)).getD .none = gotF F s := by unfold dF gotF; rw [dlook_tN (f := tW)]
    rw [this]
    exact h
theorem shw_none : Shw .none 0 0 := ⟨rfl, rfl, Nat.le_refl _, rfl, Nat.le_refl _⟩
theorem shw_word {n : Nat} {p : List (List Nat)} {F : Fs} (h : Wf n p F) (hp : IsPuz n p) {s w : List Nat} (e : (s, w) ∈ F) : Shw (tW w) 120 0 := by
  refine shw_str ?_ fun c hc => lets_lt (h.ok _ e c hc)
  obtain ⟨i, hi⟩ := List.mem_iff_getElem?.mp e
  have h1 := h.len i _ hi
  have h2 := (List.getElem?_eq_some_iff.mp hi).1
  have h3 := h.le hp
  dsimp only at h1
  omega
theorem got_cases {F : Fs} (s : List Nat) : (findF F s = none ∧ gotF F s = .none) ∨ ∃ w, (s, w) ∈ F ∧ findF F s = some w ∧ gotF F s = tW w := by
  by_cases h : s ∈ keysF F
  · obtain ⟨w, e, m⟩ := findF_mem h
    exact .inr ⟨w, m, e, by unfold gotF; rw [e]; rfl⟩
  · exact .inl ⟨findF_none h, by unfold gotF; rw [findF_none h]; rfl⟩
theorem shw_got {n : Nat} {p : List (List Nat)} {F : Fs} (h : Wf n p F) (hp : IsPuz n p) (s : List Nat) : Shw (gotF F s) 120 0 := by
  rcases got_cases (F := F) s with ⟨_, e⟩ | ⟨w, m, _, e⟩
  · rw [e]; exact shw_none.mono (Nat.zero_le _) (Nat.le_refl _)
  · rw [e]; exact shw_word h hp m
theorem shw_lenO {n : Nat} {p : List (List Nat)} {F : Fs} (h : Wf n p F) (hp : IsPuz n p) (s : List Nat) : Shw (lenO (findF F s)) 40 0 := by
  rcases got_cases (F := F) s with ⟨e, _⟩ | ⟨w, m, e, _⟩
  · rw [e]; exact shw_none.mono (Nat.zero_le _) (Nat.le_refl _)
  · rw [e]
    have hw := (shw_word h hp m).w
    have : w.length ≤ 120 := hw
    exact shw_int (by omega)
/-- None, or how long -/
theorem far_eq {F : Fs} {s : List Nat} {τ : Ts} {i : Nat} {G : Gp} {Q : VQ} (hF : ∀ w, (s, w) ∈ F → w.length ≤ 1000) (hi : τ[i]? = some (some (.dat (gotF F s)))) (h : Q (.dat (lenO (findF F s))) G) : dIfE (dB (dO2 isNF (dVar i) (dC .none))) (dC .none) (dC1 lenDF (dVar i)) τ G Q := by
  unfold dIfE dB dO2 dVar dC dC1
  refine ⟨_, hi, ?_⟩
  rcases got_cases (F := F) s with ⟨e, e2⟩ | ⟨w, m, e, e2⟩
  · rw [e] at h
    rw [e2]
    exact ⟨_, _, .bool true, rfl, rfl, rfl, true, rfl, h⟩
  · rw [e] at h
    rw [e2] at hi ⊢
    exact ⟨_, _, .bool false, rfl, rfl, rfl, false, rfl, _, hi, _, _, rfl, ⟨Nat.le_trans (hF w m) (by rw [sizeLine_eq]; decide), rfl⟩, h⟩

end DL.R

namespace DL.R
open PySem PySem.Spec PyProof.Rows L2 DL

/-! a deed done so many times -/
def pw (d : List Nat) : Nat → List Nat
  | 0 => List.range d.length
  | t + 1 => mv (pw d t) d
def ordD (d : List Nat) : Nat := (((List.range 6).find? fun t => decide (pw d (t + 1) = List.range d.length)).getD 0) + 1
theorem ord_all : ∀ n, n ≤ 5 → ∀ d ∈ allDeeds n, pw d (ordD d) = List.range n ∧ ∀ t, t < ordD d → 0 < t → pw d t ≠ List.range n := by
  have : ∀ n, n < 6 → ∀ d ∈ allDeeds n, pw d (ordD d) = List.range n ∧ ∀ t, t < ordD d → 0 < t → pw d t ≠ List.range n := by decide +kernel
  exact fun n h => this n (by omega)
theorem ordD_le (d : List Nat) : ordD d ≤ 6 ∧ 1 ≤ ordD d := by
  unfold ordD
  cases e : (List.range 6).find? fun t => decide (pw d (t + 1) = List.range d.length) with
  | none => exact ⟨by decide, by decide⟩
  | some t =>
    have := List.mem_of_find?_eq_some e
    have := List.mem_range.mp this
    exact ⟨by simp only [Option.getD_some]; omega, by omega⟩
theorem mv_range {d : List Nat} {n : Nat} (h : ∀ x ∈ d, x < n) : mv (List.range n) d = d := by
  unfold mv
  conv => rhs; rw [← List.map_id d]
  apply List.map_congr_left
  intro x hx
  rw [List.getD_eq_getElem?_getD, List.getElem?_range (h x hx)]; rfl
theorem range_mv {s : List Nat} : mv s (List.range s.length) = s := by
  unfold mv
  apply List.ext_getElem?
  intro i
  rw [List.getElem?_map]
  by_cases hi : i < s.length
  · rw [List.getElem?_range hi, getD_get hi]; rfl
  · rw [List.getElem?_eq_none (by simpa using hi), List.getElem?_eq_none (by omega)]; rfl
theorem mv_mv {s a b : List Nat} (h : ∀ x ∈ b, x < a.length) : mv (mv s a) b = mv s (mv a b) := by
  unfold mv
  rw [List.map_map]
  apply List.map_congr_left
  intro x hx
  have hx' := h x hx
  show ((a.map fun x => s.getD x 0).getD x 0) = s.getD (a.getD x 0) 0
  rw [List.getD_eq_getElem?_getD, List.getElem?_map, getD_get hx']; rfl
theorem bh_mv {n : Nat} {p : List (List Nat)} (hp : IsPuz n p) {s : List Nat} (hs : IsDeed n s) : ∀ (w : List Nat) (t : List Nat), (∀ c ∈ w, c ∈ lets p.length) → IsDeed n t → bh p (mv s t) w = mv s (bh p t w)
  | [], t, _, _ => rfl
  | c :: w, t, hw, ht => by
    show bh p (mv (mv s t) (ld p c)) w = mv s (bh p (mv t (ld p c)) w)
    have hc := ld_deed hp (hw c List.mem_cons_self)
    rw [mv_mv (fun x hx => by rw [ht.len]; exact hc.lt hx)]
    exact bh_mv hp hs w _ (fun x hx => hw x (List.mem_cons_of_mem _ hx)) (mv_deed ht hc)
theorem bh_from {n : Nat} {p : List (List Nat)} (hp : IsPuz n p) {s w : List Nat} (hs : IsDeed n s) (hw : ∀ c ∈ w, c ∈ lets p.length) : bh p s w = mv s (bh p (List.range n) w) := by
  have := bh_mv hp hs w (List.range n) hw (.refl _)
  rw [← hs.len, range_mv, hs.len] at this
  exact this
theorem pw_deed {n : Nat} {d : List Nat} (hd : IsDeed n d) : ∀ t, IsDeed n (pw d t)
  | 0 => by show IsDeed n (List.range d.length); rw [hd.len]; exact .refl _
  | t + 1 => mv_deed (pw_deed hd t) hd
theorem pw_one {n : Nat} {d : List Nat} (hd : IsDeed n d) : pw d 1 = d := by
  show mv (List.range d.length) d = d
  exact mv_range fun x hx => by rw [hd.len]; exact hd.lt hx
theorem neF_tN {n : Nat} {a b : List Nat} : neF (tN a) (tN b) = some (.bool (!decide (a = b))) := by
  unfold neF
  rw [fine_tN, fine_tN]
  have : PyData.eqv (tN a) (tN b) = decide (a = b) := by
    show PyData.eqvAll (a.map fun n => PyData.int (n : Nat)) (b.map fun n => PyData.int (n : Nat)) = _
    induction a generalizing b with
    | nil => cases b with
      | nil => rfl
      | cons y b => rfl
    | cons x a ih => cases b with
      | nil => rfl
      | cons y b =>
        rw [List.map_cons, List.map_cons, PyData.eqvAll, ih]
        simp only [PyData.eqv]
        by_cases h : x = y
        · subst h; simp
        · have : ((x : Nat) : Int) ≠ ((y : Nat) : Int) := by omega
          simp [h, this]
  rw [this]; rfl

end DL.R

namespace DL.R
open PySem PySem.Spec PyProof.Rows L2 DL

/-! letters and their backs -/
def opp (c : Nat) : Nat := if c ∈ [120, 121, 122] then c - 32 else c + 32
def bk (w : List Nat) : List Nat := (w.map opp).reverse
theorem six {k c : Nat} (h : c ∈ lets k) : c ∈ [120, 121, 122, 88, 89, 90] := by
  unfold lets at h
  rcases List.mem_append.mp h with h | h
  · have := List.mem_of_mem_take h
    simp at this ⊢; omega
  · have := List.mem_of_mem_take h
    simp at this ⊢; omega
theorem opp_lets {k c : Nat} (h : c ∈ lets k) : opp c ∈ lets k := by
  have : ∀ k, k ≤ 3 → ∀ c ∈ lets k, opp c ∈ lets k := by decide
  by_cases hk : k ≤ 3
  · exact this k hk c h
  · have e : lets k = lets 3 := by
      unfold lets
      rw [List.take_of_length_le (by simp; omega), List.take_of_length_le (by simp; omega)]; rfl
    rw [e] at h ⊢
    exact this 3 (by decide) c h
theorem opp_opp {k c : Nat} (h : c ∈ lets k) : opp (opp c) = c := by
  have : ∀ c ∈ [120, 121, 122, 88, 89, 90], opp (opp c) = c := by decide
  exact this c (six h)
theorem bk_mem {k : Nat} {w : List Nat} (h : ∀ c ∈ w, c ∈ lets k) : ∀ c ∈ bk w, c ∈ lets k := by
  intro c hc
  unfold bk at hc
  obtain ⟨d, hd, rfl⟩ := List.mem_map.mp (List.mem_reverse.mp hc)
  exact opp_lets (h d hd)
theorem bk_len (w : List Nat) : (bk w).length = w.length := by unfold bk; rw [List.length_reverse, List.length_map]
def P6 : List (Nat × Nat) := [(120, 88), (121, 89), (122, 90), (88, 120), (89, 121), (90, 122)]
def two (q : Nat × Nat) : PyData := .str ⟨#[q.1, q.2]⟩
theorem p6_filter {c : Nat} (h : c ∈ [120, 121, 122, 88, 89, 90]) : ((P6.filter fun q => decide (q.1 = c)).map fun q => Va.dat (sC q.2)) = [Va.dat (sC (opp c))] := by
  have : ∀ c ∈ [120, 121, 122, 88, 89, 90], ((P6.filter fun q => decide (q.1 = c)).map fun q => q.2) = [opp c] := by decide
  have h2 := this c h
  rw [show (fun q : Nat × Nat => Va.dat (sC q.2)) = (fun x => Va.dat (sC x)) ∘ fun q => q.2 from rfl, ← List.map_map, h2]; rfl
theorem atI_hd {α : Type} {x : α} {xs : List α} : atI (x :: xs) 0 = some x := by
  unfold atI ixN
  simp
theorem eqF_sC (a b : Nat) : eqF (sC a) (sC b) = some (.bool (decide (a = b))) := by
  unfold eqF
  rw [show fine (sC a) = true from rfl, show fine (sC b) = true from rfl, eqv_sC]; rfl
theorem neF_sC (a b : Nat) : neF (sC a) (sC b) = some (.bool (!decide (a = b))) := by
  unfold neF
  rw [show fine (sC a) = true from rfl, show fine (sC b) = true from rfl, eqv_sC]; rfl
theorem two_0 (q : Nat × Nat) : ixDF (two q) (.int 0) = some (sC q.1) := rfl
theorem two_1 (q : Nat × Nat) : ixDF (two q) (.int 1) = some (sC q.2) := rfl
theorem addF_c {c : Nat} {w : List Nat} (h : w.length < sizeLine) : addF (sC c) (tW w) = some (tW (c :: w)) := by
  show (if 1 + w.length ≤ sizeLine then some (PyData.str ((⟨#[c]⟩ : Str) ++ (⟨w.toArray⟩ : Str))) else none) = _
  rw [if_pos (by omega)]
  show some (PyData.str ⟨#[c] ++ w.toArray⟩) = _
  simp [tW]
theorem eqv_tW (a b : List Nat) : PyData.eqv (tW a) (tW b) = decide (a = b) := by
  show decide ((⟨a.toArray⟩ : Str) = ⟨b.toArray⟩) = decide (a = b)
  by_cases h : a = b
  · subst h; simp
  · have : ¬ ((⟨a.toArray⟩ : Str) = ⟨b.toArray⟩) := fun e => h (by injection e with e; injection e)
    simp [h, this]
theorem eqF_tW (a b : List Nat) : eqF (tW a) (tW b) = some (.bool (decide (a = b))) := by
  unfold eqF
  rw [show fine (tW a) = true from rfl, show fine (tW b) = true from rfl, eqv_tW]; rfl
theorem neF_tW (a b : List Nat) : neF (tW a) (tW b) = some (.bool (!decide (a = b))) := by
  unfold neF
  rw [show fine (tW a) = true from rfl, show fine (tW b) = true from rfl, eqv_tW]; rfl

end DL.R

namespace DL.R
open PySem PySem.Spec PyProof.Rows L2 DL

theorem addF_ww {w v : List Nat} (h : w.length + v.length ≤ 100000) : addF (tW w) (tW v) = some (tW (w ++ v)) := by
  have hsz : 1000000 ≤ sizeLine := by rw [sizeLine_eq]; decide
  show (if w.length + v.length ≤ sizeLine then some (PyData.str ((⟨w.toArray⟩ : Str) ++ (⟨v.toArray⟩ : Str))) else none) = _
  rw [if_pos (by omega)]
  show some (PyData.str ⟨w.toArray ++ v.toArray⟩) = _
  simp [tW]

end DL.R

namespace DL.R
open PySem PySem.Spec PyProof.Rows L2 DL

/-! small things -/
theorem len_tN {n : Nat} {d : List Nat} (h : d.length = n) : lenDF (tN d) (.int (n : Nat)) := by
  show PyData.int _ = PyData.int _
  rw [List.length_map, h]
theorem eqF_tN (a b : List Nat) : eqF (tN a) (tN b) = some (.bool (decide (a = b))) := by
  have := neF_tN (n := 0) (a := a) (b := b)
  unfold neF at this
  unfold eqF
  rw [fine_tN, fine_tN] at this ⊢
  simp only [Bool.and_self, if_true, Option.some.injEq, PyData.bool.injEq] at this ⊢
  cases h : PyData.eqv (tN a) (tN b) <;> cases h2 : decide (a = b) <;> simp_all
theorem isWord_append {k : Nat} {w v : List Nat} (hw : IsWord k w) (hv : IsWord k v) (h : w.length + v.length ≤ 100000) : IsWord k (w ++ v) := ⟨fun c hc => (List.mem_append.mp hc).elim (hw.ok c) (hv.ok c), by rw [List.length_append]; exact h⟩
theorem neF_same {d : PyData} (h : fine d = true) : neF d d = some (.bool false) := by
  unfold neF
  rw [h]
  have hp : d.plain = true := by
    unfold fine at h
    rw [Bool.and_eq_true] at h
    exact h.1
  have : PyData.eqv d d = true := SeqAt.eqv_refl_plain _ hp
  simp [this]
theorem Box.keep {G G' : Gp} {a : Addr} (h : Box G a) (k : ∀ b o, G b = some o → G' b = some o) : Box G' a := by
  obtain ⟨z, hz⟩ := h
  exact ⟨z, k _ _ hz⟩
theorem keepN {G G' : Gp} (k : ∀ b o, G b = some o → G' b = some o) {c : Addr} (h : G' c = none) : G c = none := by
  cases e : G c with
  | none => rfl
  | some o => have := k c o e; rw [h] at this; cases this
theorem keepU {G G' : Gp} (k : ∀ b o, G b = some o → G' b = some o) {c : Addr} {m : MO} (h : G' c = none) : ∀ b o, G b = some o → gup G' c m b = some o := fun b o e => by
  have e1 := k b o e
  rw [gup_ne (fun z => by rw [z, h] at e1; cases e1)]; exact e1
theorem x0_tP {n : Nat} {p : List (List Nat)} (hp : IsPuz n p) : ∃ d0, (∀ G : Gp, ixV G (.dat (tP p)) (.dat (.int 0)) = some (.dat (tN d0))) ∧ lenDF (tN d0) (.int (n : Nat)) := by
  obtain ⟨d0, hd0, hl0⟩ := puz_first hp
  refine ⟨d0, fun G => ?_, len_tN hl0⟩
  unfold tP
  rw [ixV_dd, ixF_t, hd0]; rfl
theorem len_tP (p : List (List Nat)) : lenDF (tP p) (.int (p.length : Nat)) := by
  show PyData.int _ = PyData.int _
  rw [List.length_map]
theorem eq_ltN (L : List (List Nat)) : eqF (.list (L.map tN)) (.list []) = some (.bool (decide (L = []))) := by
  unfold eqF
  rw [fine_ltN, show fine (PyData.list []) = true from rfl]
  simp only [Bool.and_self, if_true]
  cases L with
  | nil => rfl
  | cons a L => rfl
theorem most3 {i : Nat} (h : i < 3) : ∃ m : Nat, 1 ≤ m ∧ m ≤ 5 ∧ atI [PyData.int 5, .int 4, .int 4] (i : Nat) = some (.int (m : Nat)) := by
  match i, h with
  | 0, _ => exact ⟨5, by decide, by decide, rfl⟩
  | 1, _ => exact ⟨4, by decide, by decide, rfl⟩
  | 2, _ => exact ⟨4, by decide, by decide, rfl⟩
theorem ix_getD {G : Gp} {L : List PyData} {r : Nat} (h : r < L.length) : ixV G (.dat (.list L)) (.dat (.int (r : Nat))) = some (.dat (L.getD r .none)) := by
  have e : L[r]? = some (L.getD r .none) := by rw [List.getD_eq_getElem?_getD, List.getElem?_eq_getElem h]; rfl
  rw [ixV_dd, ixF_l, ixT (G := G) e]; rfl

end DL.R

namespace DL.R
open PySem PySem.Spec PyProof.Rows L2 DL

/-! going through all by any step; the words come in order, and are the least -/
def tryG (f : List Nat → Nat → List Nat) (s : List Nat) (F : Fs) (c : Nat) : Fs := if f s c ∈ keysF F then F else F ++ [(f s c, wordAt F s ++ [c])]
def goG (f : List Nat → Nat → List Nat) (L s0 : List Nat) : Nat → Fs
  | 0 => [(s0, [])]
  | k + 1 => match (goG f L s0 k)[k]? with
    | some q => L.foldl (tryG f q.1) (goG f L s0 k)
    | none => goG f L s0 k
theorem finG_ex (f : List Nat → Nat → List Nat) (L s0 : List Nat) : ∃ F : Fs, F = goG f L s0 120 := ⟨_, rfl⟩
noncomputable def finG (f : List Nat → Nat → List Nat) (L s0 : List Nat) : Fs := (finG_ex f L s0).choose
theorem finG_eq (f : List Nat → Nat → List Nat) (L s0 : List Nat) : finG f L s0 = goG f L s0 120 := (finG_ex f L s0).choose_spec
theorem tryG_tryL (p : List (List Nat)) : tryG (fun s c => mv s (ld p c)) = tryL p := rfl
theorem goG_goF (p : List (List Nat)) (n : Nat) : ∀ k, goG (fun s c => mv s (ld p c)) (lets p.length) (List.range n) k = goF p n k
  | 0 => rfl
  | k + 1 => by
    show (match (goG (fun s c => mv s (ld p c)) (lets p.length) (List.range n) k)[k]? with | some q => (lets p.length).foldl (tryL p q.1) (goG (fun s c => mv s (ld p c)) (lets p.length) (List.range n) k) | none => goG (fun s c => mv s (ld p c)) (lets p.length) (List.range n) k) = _
    rw [goG_goF p n k]; rfl
theorem finG_fin (p : List (List Nat)) (n : Nat) : finG (fun s c => mv s (ld p c)) (lets p.length) (List.range n) = fin p n := by rw [finG_eq, fin_eq, goG_goF]
/-- words in order: shorter ones ahead -/
def val (w : List Nat) : Nat := w.foldl (fun n c => n * 1000 + (c + 1)) 0
theorem val_snoc (w : List Nat) (c : Nat) : val (w ++ [c]) = val w * 1000 + (c + 1) := by
  unfold val
  rw [List.foldl_append]; rfl
structure WfG (n : Nat) (f : List Nat → Nat → List Nat) (L s0 : List Nat) (F : Fs) : Prop where
  nd : (keysF F).Nodup
  deed : ∀ q ∈ F, IsDeed n q.1
  ok : ∀ q ∈ F, ∀ c ∈ q.2, c ∈ L
  to : ∀ q ∈ F, q.2.foldl f s0 = q.1
  len : ∀ (i : Nat) (q : List Nat × List Nat), F[i]? = some q → q.2.length ≤ i
theorem WfG.wf {n : Nat} {p : List (List Nat)} {F : Fs} (h : WfG n (fun s c => mv s (ld p c)) (lets p.length) (List.range n) F) : Wf n p F := ⟨h.nd, h.deed, h.ok, h.to, h.len⟩
section
variable {n : Nat} {f : List Nat → Nat → List Nat} {L s0 : List Nat}
theorem WfG.le {F : Fs} (h : WfG n f L s0 F) (h5 : n ≤ 5) : F.length ≤ 120 := by
  have := deeds_len h.nd (fun d hd => by obtain ⟨q, hq, rfl⟩ := List.mem_map.mp hd; exact h.deed q hq) h5
  unfold keysF at this
  rwa [List.length_map] at this
theorem WfG.key {F : Fs} (h : WfG n f L s0 F) {s : List Nat} (hs : s ∈ keysF F) : IsDeed n s := by
  obtain ⟨q, hq, rfl⟩ := List.mem_map.mp hs
  exact h.deed q hq
theorem wfG0 (h0 : IsDeed n s0) : WfG n f L s0 [(s0, [])] where
  nd := List.nodup_cons.mpr ⟨List.not_mem_nil, List.nodup_nil⟩
  deed q hq := by rw [List.mem_singleton.mp hq]; exact h0
  ok q hq := by rw [List.mem_singleton.mp hq]; exact fun c h => (List.not_mem_nil h).elim
  to q hq := by rw [List.mem_singleton.mp hq]; rfl
  len i q e := by
    match i, e with
    | 0, e => cases e; exact Nat.le_refl _
theorem wordAt_mem {F : Fs} {s : List Nat} (hs : s ∈ keysF F) : (s, wordAt F s) ∈ F := by
  obtain ⟨w, hw, hm⟩ := findF_mem hs
  have ew : wordAt F s = w := by unfold wordAt; rw [hw]; rfl
  rw [ew]; exact hm
theorem wordAt_at {F : Fs} {q : List Nat × List Nat} (nd : (keysF F).Nodup) (h : q ∈ F) : wordAt F q.1 = q.2 := by unfold wordAt; rw [findF_at nd h]; rfl
theorem wfG_try (hf : ∀ s c, IsDeed n s → c ∈ L → IsDeed n (f s c)) {F : Fs} (h : WfG n f L s0 F) {s : List Nat} (hs : s ∈ keysF F) {c : Nat} (hc : c ∈ L) : WfG n f L s0 (tryG f s F c) := by
  unfold tryG
  split
  · exact h
  · rename_i hn
    have hm := wordAt_mem hs
    generalize wordAt F s = w at hm ⊢
    have hsd := h.key hs
    have hnew : IsDeed n (f s c) := hf s c hsd hc
    refine ⟨?_, fun q hq => ?_, fun q hq => ?_, fun q hq => ?_, fun i q e => ?_⟩
    · unfold keysF
      rw [List.map_append]
      refine List.nodup_append.mpr ⟨h.nd, List.nodup_cons.mpr ⟨List.not_mem_nil, List.nodup_nil⟩, fun a ha b hb => ?_⟩
      rw [List.mem_singleton.mp hb]
      exact fun z => hn (by have z' : a = f s c := z; rw [← z']; exact ha)
    · rcases List.mem_append.mp hq with hq | hq
      · exact h.deed q hq
      · rw [List.mem_singleton.mp hq]; exact hnew
    · rcases List.mem_append.mp hq with hq | hq
      · exact h.ok q hq
      · rw [List.mem_singleton.mp hq]
        intro d hd
        rcases List.mem_append.mp hd with hd | hd
        · exact h.ok _ hm d hd
        · rw [List.mem_singleton.mp hd]; exact hc
    · rcases List.mem_append.mp hq with hq | hq
      · exact h.to q hq
      · rw [List.mem_singleton.mp hq]
        show (w ++ [c]).foldl _ _ = _
        rw [List.foldl_append]
        have := h.to _ hm
        rw [this]; rfl
    · by_cases hi : i < F.length
      · rw [List.getElem?_append_left hi] at e
        exact h.len i q e
      · rw [List.getElem?_append_right (by omega)] at e
        have h0 : i - F.length = 0 := by
          have := (List.getElem?_eq_some_iff.mp e).1
          simp at this; omega
        rw [h0] at e
        cases e
        obtain ⟨j, hj⟩ := List.mem_iff_getElem?.mp hm
        have := h.len j _ hj
        have hjl := (List.getElem?_eq_some_iff.mp hj).1
        rw [List.length_append, List.length_singleton]
        dsimp only at this
        omega
theorem tryG_pre (s : List Nat) (F : Fs) (c : Nat) : ∃ M, tryG f s F c = F ++ M := by
  unfold tryG
  split
  · exact ⟨[], by simp⟩
  · exact ⟨_, rfl⟩
theorem tryG_mem {s t : List Nat} {F : Fs} {c : Nat} (h : t ∈ keysF F) : t ∈ keysF (tryG f s F c) := by
  obtain ⟨M, e⟩ := tryG_pre (f := f) s F c
  rw [e]; unfold keysF; rw [List.map_append]; exact List.mem_append_left _ h
theorem foldG_pre (s : List Nat) : ∀ (K : List Nat) (F : Fs), ∃ M, K.foldl (tryG f s) F = F ++ M
  | [], F => ⟨[], by simp⟩
  | c :: K, F => by
    obtain ⟨M, e⟩ := tryG_pre (f := f) s F c
    obtain ⟨M2, e2⟩ := foldG_pre s K (tryG f s F c)
    rw [List.foldl_cons, e2, e]
    exact ⟨M ++ M2, by rw [List.append_assoc]⟩
theorem wfG_fold (hf : ∀ s c, IsDeed n s → c ∈ L → IsDeed n (f s c)) {s : List Nat} : ∀ {K : List Nat} {F : Fs}, WfG n f L s0 F → s ∈ keysF F → (∀ c ∈ K, c ∈ L) → WfG n f L s0 (K.foldl (tryG f s) F)
  | [], F, h, _, _ => h
  | c :: K, F, h, hs, hL => by
    rw [List.foldl_cons]
    exact wfG_fold hf (wfG_try hf h hs (hL c List.mem_cons_self)) (tryG_mem hs) fun x hx => hL x (List.mem_cons_of_mem _ hx)
theorem goG_succ {k : Nat} {q : List Nat × List Nat} (e : (goG f L s0 k)[k]? = some q) : goG f L s0 (k + 1) = L.foldl (tryG f q.1) (goG f L s0 k) := by
  show (match (goG f L s0 k)[k]? with | some q => L.foldl (tryG f q.1) (goG f L s0 k) | none => goG f L s0 k) = _
  rw [e]
theorem goG_stay {k : Nat} (e : (goG f L s0 k)[k]? = none) : goG f L s0 (k + 1) = goG f L s0 k := by
  show (match (goG f L s0 k)[k]? with | some q => L.foldl (tryG f q.1) (goG f L s0 k) | none => goG f L s0 k) = _
  rw [e]
theorem wfG_go (h0 : IsDeed n s0) (hf : ∀ s c, IsDeed n s → c ∈ L → IsDeed n (f s c)) : ∀ k, WfG n f L s0 (goG f L s0 k)
  | 0 => wfG0 h0
  | k + 1 => by
    cases e : (goG f L s0 k)[k]? with
    | none => rw [goG_stay e]; exact wfG_go h0 hf k
    | some q => rw [goG_succ e]; exact wfG_fold hf (wfG_go h0 hf k) (List.mem_map.mpr ⟨q, List.mem_of_getElem? e, rfl⟩) fun c h => h
theorem goG_pre (k : Nat) : ∃ M, goG f L s0 (k + 1) = goG f L s0 k ++ M := by
  cases e : (goG f L s0 k)[k]? with
  | none => rw [goG_stay e]; exact ⟨[], by simp⟩
  | some q => rw [goG_succ e]; exact foldG_pre q.1 _ _
theorem goG_pre' (k : Nat) : ∀ j, ∃ M, goG f L s0 (k + j) = goG f L s0 k ++ M
  | 0 => ⟨[], by simp⟩
  | j + 1 => by
    obtain ⟨M, e⟩ := goG_pre' k j
    obtain ⟨M2, e2⟩ := goG_pre (f := f) (L := L) (s0 := s0) (k + j)
    exact ⟨M ++ M2, by rw [← Nat.add_assoc, e2, e, List.append_assoc]⟩
theorem goG_stop {k : Nat} (h : (goG f L s0 k).length ≤ k) : ∀ j, goG f L s0 (k + j) = goG f L s0 k
  | 0 => rfl
  | j + 1 => by
    have ih := goG_stop h j
    rw [← Nat.add_assoc, goG_stay (by rw [ih, List.getElem?_eq_none (by omega)]), ih]
theorem goG_fin (h0 : IsDeed n s0) (hf : ∀ s c, IsDeed n s → c ∈ L → IsDeed n (f s c)) (h5 : n ≤ 5) {k : Nat} (h : (goG f L s0 k).length ≤ k) : goG f L s0 k = finG f L s0 := by
  rw [finG_eq]
  by_cases hk : k ≤ 120
  · obtain ⟨j, hj⟩ := Nat.exists_eq_add_of_le hk
    have := goG_stop h j
    rw [← hj] at this
    exact this.symm
  · have h2 := (wfG_go h0 hf 120).le h5
    have := goG_stop h2 (k - 120)
    rw [show 120 + (k - 120) = k by omega] at this
    exact this
theorem wfG_fin (h0 : IsDeed n s0) (hf : ∀ s c, IsDeed n s → c ∈ L → IsDeed n (f s c)) : WfG n f L s0 (finG f L s0) := by rw [finG_eq]; exact wfG_go h0 hf 120
/-- in order so far, below a bound -/
structure OrdG (F : Fs) (b : Nat) : Prop where
  up : F.Pairwise fun a b => val a.2 < val b.2
  lt : ∀ r ∈ F, val r.2 < b
theorem ordG_fold {s w : List Nat} : ∀ {K : List Nat} {F : Fs} {B : Nat}, (keysF F).Nodup → (s, w) ∈ F → OrdG F (val w * 1000 + B) → B ≤ 1001 → (∀ c ∈ K, B ≤ c + 1 ∧ c < 999) → K.Pairwise (· < ·) →
    OrdG (K.foldl (tryG f s) F) (val w * 1000 + 1001) ∧ ∀ c ∈ K, ∃ r ∈ K.foldl (tryG f s) F, r.1 = f s c ∧ val r.2 ≤ val (w ++ [c])
  | [], F, B, _, _, o, hB, _, _ => ⟨⟨o.up, fun r hr => by have := o.lt r hr; show val r.2 < _; omega⟩, fun c h => (List.not_mem_nil h).elim⟩
  | c :: K, F, B, nd, hm, o, hB, hK, hp => by
    rw [List.foldl_cons]
    have hc := hK c List.mem_cons_self
    have hp' := List.pairwise_cons.mp hp
    have ew : wordAt F s = w := wordAt_at nd hm
    have vs := val_snoc w c
    -- the step
    have st : OrdG (tryG f s F c) (val w * 1000 + (c + 2)) ∧ (keysF (tryG f s F c)).Nodup ∧ (s, w) ∈ tryG f s F c ∧ ∃ r ∈ tryG f s F c, r.1 = f s c ∧ val r.2 ≤ val (w ++ [c]) := by
      unfold tryG
      split
      · rename_i hin
        refine ⟨⟨o.up, fun r hr => by have := o.lt r hr; show val r.2 < _; omega⟩, nd, hm, ?_⟩
        obtain ⟨r, hr, e⟩ := List.mem_map.mp hin
        exact ⟨r, hr, e, by have := o.lt r hr; omega⟩
      · rename_i hn
        rw [ew]
        refine ⟨⟨List.pairwise_append.mpr ⟨o.up, List.pairwise_singleton _ _, fun a ha b hb => ?_⟩, fun r hr => ?_⟩, ?_, List.mem_append_left _ hm, ⟨_, List.mem_append_right _ List.mem_cons_self, rfl, Nat.le_refl _⟩⟩
        · rw [List.mem_singleton.mp hb]
          show val a.2 < val (w ++ [c])
          have := o.lt a ha; omega
        · show val r.2 < _
          rcases List.mem_append.mp hr with hr | hr
          · have := o.lt r hr; omega
          · rw [List.mem_singleton.mp hr]
            show val (w ++ [c]) < _
            omega
        · unfold keysF
          rw [List.map_append]
          refine List.nodup_append.mpr ⟨nd, List.nodup_cons.mpr ⟨List.not_mem_nil, List.nodup_nil⟩, fun a ha b hb => ?_⟩
          rw [List.mem_singleton.mp hb]
          exact fun z => hn (by have z' : a = f s c := z; rw [← z']; exact ha)
    obtain ⟨o2, nd2, hm2, r0, hr0, er0, vr0⟩ := st
    obtain ⟨o3, cl⟩ := ordG_fold (s := s) (w := w) (K := K) nd2 hm2 o2 (by omega) (fun d hd => ⟨by have := hp'.1 d hd; omega, (hK d (List.mem_cons_of_mem _ hd)).2⟩) hp'.2
    refine ⟨o3, fun d hd => ?_⟩
    rcases List.mem_cons.mp hd with rfl | hd
    · obtain ⟨M, e⟩ := foldG_pre (f := f) s K (tryG f s F d)
      exact ⟨r0, by rw [e]; exact List.mem_append_left _ hr0, er0, vr0⟩
    · exact cl d hd
structure StG (f : List Nat → Nat → List Nat) (L : List Nat) (F : Fs) (k : Nat) : Prop where
  up : F.Pairwise fun a b => val a.2 < val b.2
  lt : ∀ q, F[k]? = some q → ∀ r ∈ F, val r.2 < val q.2 * 1000 + 1
  cl : ∀ (j : Nat) q, j < k → F[j]? = some q → ∀ c ∈ L, ∃ r ∈ F, r.1 = f q.1 c ∧ val r.2 ≤ val (q.2 ++ [c])
theorem stG_go (h0 : IsDeed n s0) (hf : ∀ s c, IsDeed n s → c ∈ L → IsDeed n (f s c)) (hL : ∀ c ∈ L, c < 999) (hs : L.Pairwise (· < ·)) : ∀ k, StG f L (goG f L s0 k) k
  | 0 => ⟨List.pairwise_singleton _ _, fun q e r hr => by
      have er := List.mem_singleton.mp hr
      rw [er]
      show 0 < _
      omega, fun j q hj => absurd hj (by omega)⟩
  | k + 1 => by
    have ih := stG_go h0 hf hL hs k
    have wf := wfG_go h0 hf k
    cases e : (goG f L s0 k)[k]? with
    | none =>
      rw [goG_stay e]
      have hk : (goG f L s0 k).length ≤ k := by
        rcases Nat.lt_or_ge k (goG f L s0 k).length with q | q
        · rw [List.getElem?_eq_getElem q] at e; cases e
        · exact q
      refine ⟨ih.up, fun q e2 => ?_, fun j q hj e2 => ?_⟩
      · rw [List.getElem?_eq_none (by omega)] at e2; cases e2
      · have := (List.getElem?_eq_some_iff.mp e2).1
        exact ih.cl j q (by omega) e2
    | some q =>
      rw [goG_succ e]
      have hq := List.mem_of_getElem? e
      obtain ⟨o, cl⟩ := ordG_fold (f := f) (s := q.1) (w := q.2) (K := L) (B := 1) wf.nd hq ⟨ih.up, ih.lt q e⟩ (by omega) (fun c hc => ⟨by omega, hL c hc⟩) hs
      obtain ⟨M, eM⟩ := foldG_pre (f := f) q.1 L (goG f L s0 k)
      have hkl := (List.getElem?_eq_some_iff.mp e).1
      have e' : (L.foldl (tryG f q.1) (goG f L s0 k))[k]? = some q := by rw [eM, List.getElem?_append_left hkl]; exact e
      refine ⟨o.up, fun q2 e2 r hr => ?_, fun j q2 hj e2 c hc => ?_⟩
      · have h1 := o.lt r hr
        obtain ⟨l1, g1⟩ := List.getElem?_eq_some_iff.mp e'
        obtain ⟨l2, g2⟩ := List.getElem?_eq_some_iff.mp e2
        have := (List.pairwise_iff_getElem.mp o.up) k (k + 1) l1 l2 (by omega)
        rw [g1, g2] at this
        omega
      · by_cases hjk : j = k
        · subst hjk
          rw [e'] at e2
          cases e2
          exact cl c hc
        · have hj' : j < k := by omega
          have e3 : (goG f L s0 k)[j]? = some q2 := by rw [eM, List.getElem?_append_left (by omega)] at e2; exact e2
          obtain ⟨r, hr, h1, h2⟩ := ih.cl j q2 hj' e3 c hc
          exact ⟨r, by rw [eM]; exact List.mem_append_left _ hr, h1, h2⟩
theorem closedG (h0 : IsDeed n s0) (hf : ∀ s c, IsDeed n s → c ∈ L → IsDeed n (f s c)) (h5 : n ≤ 5) (hL : ∀ c ∈ L, c < 999) (hs : L.Pairwise (· < ·)) {q : List Nat × List Nat} (hq : q ∈ finG f L s0) {c : Nat} (hc : c ∈ L) : ∃ r ∈ finG f L s0, r.1 = f q.1 c ∧ val r.2 ≤ val (q.2 ++ [c]) := by
  have st := stG_go h0 hf hL hs 120
  have wf := wfG_fin (f := f) (L := L) h0 hf
  rw [← finG_eq] at st
  obtain ⟨j, e⟩ := List.mem_iff_getElem?.mp hq
  have := (List.getElem?_eq_some_iff.mp e).1
  have hl := wf.le h5
  exact st.cl j q (by omega) e c hc
theorem upG (h0 : IsDeed n s0) (hf : ∀ s c, IsDeed n s → c ∈ L → IsDeed n (f s c)) (hL : ∀ c ∈ L, c < 999) (hs : L.Pairwise (· < ·)) : (finG f L s0).Pairwise fun a b => val a.2 < val b.2 := by
  have st := stG_go h0 hf hL hs 120
  rw [← finG_eq] at st
  exact st.up
theorem homeG : (s0, []) ∈ finG f L s0 := by
  rw [finG_eq]
  obtain ⟨M, e⟩ := goG_pre' (f := f) (L := L) (s0 := s0) 0 120
  rw [show 0 + 120 = 120 from rfl] at e
  rw [e]
  exact List.mem_append_left _ List.mem_cons_self
/-- no word is less than the one told -/
theorem minG (h0 : IsDeed n s0) (hf : ∀ s c, IsDeed n s → c ∈ L → IsDeed n (f s c)) (h5 : n ≤ 5) (hL : ∀ c ∈ L, c < 999) (hs : L.Pairwise (· < ·)) : ∀ (k : Nat) (w : List Nat), w.length = k → (∀ c ∈ w, c ∈ L) → ∃ r ∈ finG f L s0, r.1 = w.foldl f s0 ∧ val r.2 ≤ val w
  | 0, w, hk, _ => by
    have : w = [] := List.length_eq_zero_iff.mp hk
    subst this
    exact ⟨_, homeG, rfl, Nat.le_refl _⟩
  | k + 1, w, hk, hw => by
    rcases List.eq_nil_or_concat w with rfl | ⟨u, c, rfl⟩
    · simp at hk
    · rw [List.concat_eq_append] at hk hw ⊢
      obtain ⟨r, hr, e1, v1⟩ := minG h0 hf h5 hL hs k u (by simpa using hk) fun x hx => hw x (List.mem_append_left _ hx)
      obtain ⟨t, ht, e2, v2⟩ := closedG h0 hf h5 hL hs hr (hw c (List.mem_append_right _ List.mem_cons_self))
      refine ⟨t, ht, by rw [e2, e1, List.foldl_append]; rfl, ?_⟩
      rw [val_snoc] at v2 ⊢
      omega
end
theorem lets_up : ∀ k, (lets k).Pairwise (· < ·)
  | 0 => by decide
  | 1 => by decide
  | 2 => by decide
  | k + 3 => by
    unfold lets
    rw [List.take_of_length_le (by simp), List.take_of_length_le (by simp)]
    decide
theorem lets_999 {k c : Nat} (h : c ∈ lets k) : c < 999 := by
  unfold lets at h
  rcases List.mem_append.mp h with h | h
  · have := List.mem_of_mem_take h
    simp at this; omega
  · have := List.mem_of_mem_take h
    simp at this; omega
section
variable {n : Nat} {p : List (List Nat)}
theorem step_deed (hp : IsPuz n p) : ∀ s c, IsDeed n s → c ∈ lets p.length → IsDeed n (mv s (ld p c)) := fun s c hs hc => mv_deed hs (ld_deed hp hc)
theorem closedF (hp : IsPuz n p) {q : List Nat × List Nat} (hq : q ∈ fin p n) {c : Nat} (hc : c ∈ lets p.length) : ∃ r ∈ fin p n, r.1 = mv q.1 (ld p c) ∧ val r.2 ≤ val (q.2 ++ [c]) := by
  rw [← finG_fin] at hq ⊢
  exact closedG (.refl _) (step_deed hp) hp.n5 (fun c hc => lets_999 hc) (lets_up _) hq hc
theorem upF (hp : IsPuz n p) : (fin p n).Pairwise fun a b => val a.2 < val b.2 := by
  rw [← finG_fin]
  exact upG (.refl _) (step_deed hp) (fun c hc => lets_999 hc) (lets_up _)
theorem minF (hp : IsPuz n p) {w : List Nat} (hw : ∀ c ∈ w, c ∈ lets p.length) : ∃ r ∈ fin p n, r.1 = bh p (List.range n) w ∧ val r.2 ≤ val w := by
  rw [← finG_fin]
  exact minG (.refl _) (step_deed hp) hp.n5 (fun c hc => lets_999 hc) (lets_up _) _ w rfl hw
theorem mem_fin (hp : IsPuz n p) {w : List Nat} (hw : ∀ c ∈ w, c ∈ lets p.length) : bh p (List.range n) w ∈ keysF (fin p n) := by
  obtain ⟨r, hr, e, _⟩ := minF hp hw
  rw [← e]
  exact List.mem_map.mpr ⟨r, hr, rfl⟩
end

end DL.R

namespace DL.R
open PySem PySem.Spec PyProof.Rows L2 DL

/-! deeds as a group: mv a b is first a, then b -/
theorem mv_get {s d : List Nat} {i : Nat} (h : i < d.length) : (mv s d).getD i 0 = s.getD (d.getD i 0) 0 := by
  rw [show mv s d = d.map fun x => s.getD x 0 from rfl, List.getD_eq_getElem?_getD, List.getElem?_map, getD_get h]; rfl
theorem ext_get {a b : List Nat} {n : Nat} (ha : a.length = n) (hb : b.length = n) (h : ∀ i, i < n → a.getD i 0 = b.getD i 0) : a = b := by
  apply List.ext_getElem?
  intro i
  by_cases hi : i < n
  · rw [getD_get (by omega), getD_get (by omega), h i hi]
  · rw [List.getElem?_eq_none (by omega), List.getElem?_eq_none (by omega)]
section
variable {n : Nat} {a b c d s : List Nat}
theorem range_get {i : Nat} (h : i < n) : (List.range n).getD i 0 = i := by rw [List.getD_eq_getElem?_getD, List.getElem?_range h]; rfl
theorem deed_get (h : IsDeed n d) {i : Nat} (hi : i < n) : d.getD i 0 < n := h.lt (List.mem_of_getElem? (getD_get (by rw [h.len]; exact hi)))
theorem mv_assoc (ha : IsDeed n a) (hb : IsDeed n b) : mv (mv s a) b = mv s (mv a b) := mv_mv fun x hx => by rw [ha.len]; exact hb.lt hx
theorem id_mv (hd : IsDeed n d) : mv (List.range n) d = d := mv_range fun x hx => hd.lt hx
theorem mv_id (hd : IsDeed n d) : mv d (List.range n) = d := by
  have := range_mv (s := d)
  rwa [hd.len] at this
theorem inv_get (hd : IsDeed n d) {i : Nat} (h : i < n) : (inv d).getD i 0 = d.idxOf i := by
  unfold inv
  rw [List.getD_eq_getElem?_getD, List.getElem?_map, List.getElem?_range (by rw [hd.len]; exact h)]; rfl
theorem get_idx (hd : IsDeed n d) {i : Nat} (h : i < n) : d.getD (d.idxOf i) 0 = i := by
  have hl := List.idxOf_lt_length_iff.mpr (hd.mem h)
  rw [List.getD_eq_getElem?_getD, List.getElem?_eq_getElem hl, List.getElem_idxOf hl]; rfl
theorem idx_get (hd : IsDeed n d) {i : Nat} (h : i < n) : d.idxOf (d.getD i 0) = i := by
  have e := getD_get (s := d) (x := i) (by rw [hd.len]; exact h)
  have hm := List.mem_of_getElem? e
  have hl := List.idxOf_lt_length_iff.mpr hm
  have e2 : d[d.idxOf (d.getD i 0)]? = some (d.getD i 0) := by rw [List.getElem?_eq_getElem hl, List.getElem_idxOf hl]
  exact (List.getElem?_inj hl hd.nodup).mp (e2.trans e.symm)
theorem mv_inv (hd : IsDeed n d) : mv d (inv d) = List.range n := by
  have hi := inv_deed hd
  refine ext_get (mv_deed hd hi).len List.length_range fun i h => ?_
  rw [mv_get (by rw [hi.len]; exact h), inv_get hd h, get_idx hd h, range_get h]
theorem inv_mvd (hd : IsDeed n d) : mv (inv d) d = List.range n := by
  have hi := inv_deed hd
  refine ext_get (mv_deed hi hd).len List.length_range fun i h => ?_
  rw [mv_get (by rw [hd.len]; exact h), inv_get hd (deed_get hd h), idx_get hd h, range_get h]
theorem mv_cancel (ha : IsDeed n a) (hb : IsDeed n b) (hc : IsDeed n c) (h : mv a b = mv a c) : b = c := by
  have := congrArg (mv (inv a)) h
  rwa [← mv_assoc ha hb, ← mv_assoc ha hc, inv_mvd ha, id_mv hb, id_mv hc] at this
theorem mv_cancelR (ha : IsDeed n a) (hb : IsDeed n b) (hc : IsDeed n c) (h : mv b a = mv c a) : b = c := by
  have := congrArg (fun x => mv x (inv a)) h
  rwa [mv_assoc ha (inv_deed ha), mv_assoc ha (inv_deed ha), mv_inv ha, mv_id hb, mv_id hc] at this
theorem inv_inv (hd : IsDeed n d) : inv (inv d) = d := by
  have hi := inv_deed hd
  refine mv_cancel hi (inv_deed hi) hd ?_
  rw [mv_inv hi, inv_mvd hd]
theorem inv_mv (ha : IsDeed n a) (hb : IsDeed n b) : inv (mv a b) = mv (inv b) (inv a) := by
  have hia := inv_deed ha
  have hib := inv_deed hb
  have hab := mv_deed ha hb
  refine mv_cancel hab (inv_deed hab) (mv_deed hib hia) ?_
  rw [mv_inv hab, mv_assoc hb (mv_deed hib hia), ← mv_assoc hib hia, mv_inv hb, id_mv hia, mv_inv ha]
theorem inv_id : inv (List.range n) = List.range n := by
  have h : IsDeed n (List.range n) := .refl _
  have := mv_inv h
  rwa [id_mv (inv_deed h)] at this
end
theorem bh_append (p : List (List Nat)) (s w v : List Nat) : bh p s (w ++ v) = bh p (bh p s w) v := by
  unfold bh
  rw [List.foldl_append]
theorem bh_snoc (p : List (List Nat)) (s w : List Nat) (c : Nat) : bh p s (w ++ [c]) = mv (bh p s w) (ld p c) := by rw [bh_append]; rfl
/-- words in order, told by their numbers -/
theorem val_inj : ∀ {a b : List Nat}, (∀ c ∈ a, c < 999) → (∀ c ∈ b, c < 999) → val a = val b → a = b := by
  intro a
  induction h : a.length generalizing a with
  | zero =>
    intro b _ hb e
    have : a = [] := List.length_eq_zero_iff.mp h
    subst this
    rcases List.eq_nil_or_concat b with rfl | ⟨v, d, rfl⟩
    · rfl
    · rw [List.concat_eq_append, val_snoc] at e
      have : val ([] : List Nat) = 0 := rfl
      omega
  | succ k ih =>
    intro b ha hb e
    rcases List.eq_nil_or_concat a with rfl | ⟨u, c, rfl⟩
    · simp at h
    · rcases List.eq_nil_or_concat b with rfl | ⟨v, d, rfl⟩
      · rw [List.concat_eq_append, val_snoc] at e
        have : val ([] : List Nat) = 0 := rfl
        omega
      · rw [List.concat_eq_append] at *
        rw [List.concat_eq_append] at *
        rw [val_snoc, val_snoc] at e
        have hc := ha c (List.mem_append_right _ List.mem_cons_self)
        have hd := hb d (List.mem_append_right _ List.mem_cons_self)
        have e1 : val u = val v := by omega
        have e2 : c = d := by omega
        have := ih (a := u) (by simpa using h) (b := v) (fun x hx => ha x (List.mem_append_left _ hx)) (fun x hx => hb x (List.mem_append_left _ hx)) e1
        rw [this, e2]
theorem val_len_lt : ∀ {a b : List Nat}, (∀ c ∈ a, c < 999) → a.length < b.length → val a < val b := by
  intro a
  induction h : a.length generalizing a with
  | zero =>
    intro b _ hl
    have : a = [] := List.length_eq_zero_iff.mp h
    subst this
    rcases List.eq_nil_or_concat b with rfl | ⟨v, d, rfl⟩
    · simp at hl
    · rw [List.concat_eq_append, val_snoc]
      have : val ([] : List Nat) = 0 := rfl
      omega
  | succ k ih =>
    intro b ha hl
    rcases List.eq_nil_or_concat a with rfl | ⟨u, c, rfl⟩
    · simp at h
    · rcases List.eq_nil_or_concat b with rfl | ⟨v, d, rfl⟩
      · simp at hl
      · rw [List.concat_eq_append] at *
        rw [List.concat_eq_append] at *
        rw [val_snoc, val_snoc]
        have hc := ha c (List.mem_append_right _ List.mem_cons_self)
        have := ih (a := u) (by simpa using h) (b := v) (fun x hx => ha x (List.mem_append_left _ hx)) (by simp at h hl; omega)
        omega
theorem val_le_len {a b : List Nat} (hb : ∀ c ∈ b, c < 999) (h : val a ≤ val b) : a.length ≤ b.length := by
  rcases Nat.lt_or_ge b.length a.length with q | q
  · have := val_len_lt hb q
    omega
  · exact q

end DL.R

namespace DL.R
open PySem PySem.Spec PyProof.Rows L2 DL

/-! sorted stands, once more -/
theorem srt_pair (L : List (List Nat)) : (srt L).Pairwise fun a b => PySem.W.dataLt (tN b) (tN a) = false := by
  have := sort_pair (L.map tN)
  rw [srt_map] at this
  exact List.pairwise_map.mp this
theorem srt_uniq {A B : List (List Nat)} (h : A.Perm B) (ha : A.Pairwise fun a b => PySem.W.dataLt (tN b) (tN a) = false) (hb : B.Pairwise fun a b => PySem.W.dataLt (tN b) (tN a) = false) : A = B :=
  h.eq_of_pairwise (fun _ _ _ _ h1 h2 => toks_tN (lt_tot h2 h1)) ha hb
theorem srt_perm {A B : List (List Nat)} (h : A.Perm B) : srt A = srt B := srt_uniq (((List.mergeSort_perm A _).trans h).trans (List.mergeSort_perm B _).symm) (srt_pair A) (srt_pair B)
theorem srt_filter (b : List Nat → Bool) (L : List (List Nat)) : srt (L.filter b) = (srt L).filter b :=
  srt_uniq ((List.mergeSort_perm _ _).trans ((List.mergeSort_perm L _).symm.filter b)) (srt_pair _) ((srt_pair L).filter b)

end DL.R

namespace DL.R
open PySem PySem.Spec PyProof.Rows L2 DL

theorem need_number_ok {i m : Int} {G : Gp} {Q : VQ} (h0 : 0 ≤ i) (h1 : i ≤ m) (h : Q (.dat .none) G) : sp_need_number [.dat (.int i), .dat (.int m)] G Q := by
  refine ⟨rfl, ?_⟩
  simp only [rd_need_number, dSeq, dSet, dAsg, dDrop, dRet, dRetN, dIf, dB, dAnd, dOr, dNot, dAndV, dOrV, dNotV, dIfE, dVar, dC, dO2, dChn, dC1, dC2, dIx, dSl, dP, dNoP, dCall, dCons, dNil, dPure, dMut, dDisp, dTup, dLRg, dTRg, dR1, dR2, gN, gTp, gsNil, gsCons, dNext, dNever, dIsi, dNeg, dL1, dFor, dIt, dIRg1, dIRg2, dEn, dLc0, dYes, dMt, dMt0, dFzE, gIx, dCat, dRep, dSlL, dD0, dD1, dDictP, dPar, dPar3, dRevT, dRevS, dRevL, dIvals, dSortSet, dLkL, dForM, dFzs, dSortSetT, List.map_cons, List.map_nil, List.replicate, List.append_nil, List.cons_append, List.nil_append, List.getElem?_cons_zero, List.getElem?_cons_succ, List.set_cons_zero, List.set_cons_succ, Option.some.injEq, exists_eq_left', exists_eq_left, exists_and_left, and_assoc, or_false, false_or, see_d, isiF, Va.dat.injEq, PyData.bool.injEq, PyData.int.injEq, PyData.str.injEq, PyData.tuple.injEq, PyData.list.injEq, seeL, Option.map_some, wipeD, List.cons.injEq, and_true, true_and, if_true, Bool.false_eq_true, if_false, reduceCtorEq, Int.reduceLT, Int.reduceLE, Int.reduceNeg, and_self, addF_i, subF_i, modF_i, fdivF_i, eqF_int, neF_int, ltF_i, leF_i, gtF_i, geF_i, lenF_t, lenF_l, List.length_map, List.length_cons, List.length_nil, itemsD_t, itemsD_l, decide_true, decide_false, Bool.not_true, Bool.not_false, ixV_dd, ixF_t, ixF_l, tupF_t, tupF_l, min2F_i, max2F_i, dmF_i, absF_i, setO_l, inDF_t, inDF_l, notInDF_t, notInDF_l, ite_true, ite_false]
  refine whole_ok ?_
  show ∃ c, Va.dat (.bool true) = .dat (.bool c) ∧ _
  refine ⟨true, rfl, ?_⟩
  simp only [dSeq, dSet, dAsg, dDrop, dRet, dRetN, dIf, dB, dAnd, dOr, dNot, dAndV, dOrV, dNotV, dIfE, dVar, dC, dO2, dChn, dC1, dC2, dIx, dSl, dP, dNoP, dCall, dCons, dNil, dPure, dMut, dDisp, dTup, dLRg, dTRg, dR1, dR2, gN, gTp, gsNil, gsCons, dNext, dNever, dIsi, dNeg, dL1, dFor, dIt, dIRg1, dIRg2, dEn, dLc0, dYes, dMt, dMt0, dFzE, gIx, dCat, dRep, dSlL, dD0, dD1, dDictP, dPar, dPar3, dRevT, dRevS, dRevL, dIvals, dSortSet, dLkL, dForM, dFzs, dSortSetT, List.map_cons, List.map_nil, List.replicate, List.append_nil, List.cons_append, List.nil_append, List.getElem?_cons_zero, List.getElem?_cons_succ, List.set_cons_zero, List.set_cons_succ, Option.some.injEq, exists_eq_left', exists_eq_left, exists_and_left, and_assoc, or_false, false_or, see_d, isiF, Va.dat.injEq, PyData.bool.injEq, PyData.int.injEq, PyData.str.injEq, PyData.tuple.injEq, PyData.list.injEq, seeL, Option.map_some, wipeD, List.cons.injEq, and_true, true_and, if_true, Bool.false_eq_true, if_false, reduceCtorEq, Int.reduceLT, Int.reduceLE, Int.reduceNeg, and_self, addF_i, subF_i, modF_i, fdivF_i, eqF_int, neF_int, ltF_i, leF_i, gtF_i, geF_i, lenF_t, lenF_l, List.length_map, List.length_cons, List.length_nil, itemsD_t, itemsD_l, decide_true, decide_false, Bool.not_true, Bool.not_false, ixV_dd, ixF_t, ixF_l, tupF_t, tupF_l, min2F_i, max2F_i, dmF_i, absF_i, setO_l, inDF_t, inDF_l, notInDF_t, notInDF_l, ite_true, ite_false, h0, h1]
  exact nx_ok h

end DL.R

namespace DL.R
open PySem PySem.Spec PyProof.Rows L2 DL

/-! sorted(set(stands)) -/
def zN (d : List Nat) : List Int := d.map fun n : Nat => (n : Int)
theorem tI_zN (d : List Nat) : tI (zN d) = tN d := by
  show PyData.tuple ((d.map fun n : Nat => (n : Int)).map PyData.int) = PyData.tuple _
  rw [List.map_map]; rfl
theorem zN_inj {a b : List Nat} (h : zN a = zN b) : a = b := by
  have := congrArg (List.map Int.toNat) h
  unfold zN at this
  rw [List.map_map, List.map_map] at this
  have e : ∀ l : List Nat, l.map (Int.toNat ∘ fun n : Nat => (n : Int)) = l := fun l => by
    rw [show (Int.toNat ∘ fun n : Nat => (n : Int)) = id from funext fun i => Int.toNat_natCast i, List.map_id]
  rw [e, e] at this
  exact this
/-- M: the same stands, each once -/
theorem sortset_E {L M : List (List Nat)} (ne : ∀ s ∈ L, s ≠ []) (nd : M.Nodup) (hM : ∀ s, s ∈ M ↔ s ∈ L) (hl : M.length < 150) :
    ∃ ks : List (List Int), L.map tN = ks.map tI ∧ (∀ k ∈ ks, k ≠ []) ∧ ∃ D : List (List Int), D.length < 150 ∧ (∀ k ∈ ks, k ∈ D) ∧ ∀ ms : List (List Int), ms.Nodup → (∀ k, k ∈ ms ↔ k ∈ ks) → (ms.map tI).mergeSort (PySem.W.dataLe false id) = (srt M).map tN := by
  refine ⟨L.map zN, ?_, fun k hk => ?_, M.map zN, by rw [List.length_map]; exact hl, fun k hk => ?_, fun ms nm hm => ?_⟩
  · rw [List.map_map]
    exact List.map_congr_left fun d _ => (tI_zN d).symm
  · obtain ⟨d, hd, rfl⟩ := List.mem_map.mp hk
    have := ne d hd
    cases d with
    | nil => exact absurd rfl this
    | cons a d => exact fun z => nomatch z
  · obtain ⟨d, hd, rfl⟩ := List.mem_map.mp hk
    exact List.mem_map.mpr ⟨d, (hM d).mpr hd, rfl⟩
  · have nz : (M.map zN).Nodup := by
      refine List.pairwise_map.mpr (nd.imp fun hab e => hab (zN_inj e))
    have pm : ms.Perm (M.map zN) := (List.perm_ext_iff_of_nodup nm nz).mpr fun k => by
      rw [hm, List.mem_map, List.mem_map]
      exact ⟨fun ⟨d, hd, e⟩ => ⟨d, (hM d).mpr hd, e⟩, fun ⟨d, hd, e⟩ => ⟨d, (hM d).mp hd, e⟩⟩
    obtain ⟨M1, p1, rfl⟩ := perm_back zN pm
    have e : (M1.map zN).map tI = M1.map tN := by
      rw [List.map_map]
      exact List.map_congr_left fun d _ => tI_zN d
    rw [e, srt_map, srt_perm p1]

end DL.R

namespace DL.R
open PySem PySem.Spec PyProof.Rows L2 DL

/-! stands within so many letters -/
def nubL : List (List Nat) → List (List Nat)
  | [] => []
  | s :: L => if s ∈ nubL L then nubL L else s :: nubL L
theorem mem_nub {s : List Nat} : ∀ {L : List (List Nat)}, s ∈ nubL L ↔ s ∈ L
  | [] => Iff.rfl
  | t :: L => by
    unfold nubL
    by_cases h : t ∈ nubL L
    · rw [if_pos h, mem_nub, List.mem_cons]
      exact ⟨.inr, fun q => q.elim (fun e => by rw [e]; exact mem_nub.mp h) id⟩
    · rw [if_neg h, List.mem_cons, List.mem_cons, mem_nub]
theorem nub_nd : ∀ (L : List (List Nat)), (nubL L).Nodup
  | [] => List.nodup_nil
  | t :: L => by
    unfold nubL
    by_cases h : t ∈ nubL L
    · rw [if_pos h]; exact nub_nd L
    · rw [if_neg h]; exact List.nodup_cons.mpr ⟨h, nub_nd L⟩
/-- all that come by a letter -/
def outL (p : List (List Nat)) (s : List Nat) : List (List Nat) := (lets p.length).map fun c => mv s (ld p c)
def allL (p : List (List Nat)) (L : List (List Nat)) : List (List Nat) := L ++ L.flatMap (outL p)
def furL (p : List (List Nat)) (L : List (List Nat)) : List (List Nat) := srt (nubL (allL p L))
def ballL (p : List (List Nat)) (s : List Nat) : Nat → List (List Nat)
  | 0 => [s]
  | k + 1 => furL p (ballL p s k)
def netL (p : List (List Nat)) (s : List Nat) (k : Nat) : List (List (List Nat)) := (List.range (k + 1)).map (ballL p s)
section
variable {n : Nat} {p : List (List Nat)}
theorem mem_fur {L : List (List Nat)} {t : List Nat} : t ∈ furL p L ↔ t ∈ allL p L := mem_srt.trans mem_nub
theorem mem_all {L : List (List Nat)} {t : List Nat} : t ∈ allL p L ↔ t ∈ L ∨ ∃ s ∈ L, ∃ c ∈ lets p.length, mv s (ld p c) = t := by
  unfold allL outL
  rw [List.mem_append, List.mem_flatMap]
  simp only [List.mem_map]
theorem all_deed (hp : IsPuz n p) {L : List (List Nat)} (h : ∀ s ∈ L, IsDeed n s) : ∀ t ∈ allL p L, IsDeed n t := fun t ht => by
  rcases mem_all.mp ht with q | ⟨s, hs, c, hc, rfl⟩
  · exact h t q
  · exact mv_deed (h s hs) (ld_deed hp hc)
theorem fur_deed (hp : IsPuz n p) {L : List (List Nat)} (h : ∀ s ∈ L, IsDeed n s) : ∀ t ∈ furL p L, IsDeed n t := fun t ht => all_deed hp h t (mem_fur.mp ht)
theorem fur_nd (L : List (List Nat)) : (furL p L).Nodup := (List.mergeSort_perm _ _).nodup_iff.mpr (nub_nd _)
theorem ball_deed (hp : IsPuz n p) {s : List Nat} (hs : IsDeed n s) : ∀ k, ∀ t ∈ ballL p s k, IsDeed n t
  | 0, t, h => by rw [List.mem_singleton.mp h]; exact hs
  | k + 1, t, h => fur_deed hp (ball_deed hp hs k) t h
theorem ball_nd (p : List (List Nat)) (s : List Nat) : ∀ k, (ballL p s k).Nodup
  | 0 => List.pairwise_singleton _ _
  | k + 1 => fur_nd _
theorem ball_len (hp : IsPuz n p) {s : List Nat} (hs : IsDeed n s) (k : Nat) : (ballL p s k).length ≤ 120 := deeds_len (ball_nd p s k) (ball_deed hp hs k) hp.n5
theorem ball_self (p : List (List Nat)) (s : List Nat) : ∀ k, s ∈ ballL p s k
  | 0 => List.mem_singleton.mpr rfl
  | k + 1 => mem_fur.mpr (mem_all.mpr (.inl (ball_self p s k)))
theorem ball_up (p : List (List Nat)) (s : List Nat) {k : Nat} {t : List Nat} (h : t ∈ ballL p s k) : t ∈ ballL p s (k + 1) := mem_fur.mpr (mem_all.mpr (.inl h))
theorem all_len2 (hp : IsPuz n p) {L : List (List Nat)} : (allL p L).length ≤ 7 * L.length := by
  have hl := lets_len hp.p3
  have p3 := hp.p3
  unfold allL
  rw [List.length_append]
  have : (L.flatMap (outL p)).length ≤ 6 * L.length := by
    induction L with
    | nil => simp
    | cons s L ih =>
      rw [List.flatMap_cons, List.length_append, List.length_cons]
      have : (outL p s).length ≤ 6 := by unfold outL; rw [List.length_map, hl]; omega
      omega
  omega
theorem setL (hp : IsPuz n p) {L A : List (List Nat)} (h : ∀ s ∈ L, IsDeed n s) (hA : ∀ t, t ∈ A ↔ t ∈ allL p L) : ∃ ks : List (List Int), A.map tN = ks.map tI ∧ (∀ k ∈ ks, k ≠ []) ∧ ∃ D : List (List Int), D.length < 150 ∧ (∀ k ∈ ks, k ∈ D) ∧ ∀ ms : List (List Int), ms.Nodup → (∀ k, k ∈ ms ↔ k ∈ ks) → (ms.map tI).mergeSort (PySem.W.dataLe false id) = (furL p L).map tN :=
  sortset_E (fun s hs => (all_deed hp h s ((hA s).mp hs)).ne hp.n1) (nub_nd (allL p L)) (fun s => mem_nub.trans (hA s).symm) (by
    have := deeds_len (nub_nd (allL p L)) (fun d hd => all_deed hp h d (mem_nub.mp hd)) hp.n5
    omega)
end
theorem further_ok {n : Nat} {p L : List (List Nat)} {G : Gp} {Q : VQ} (hp : IsPuz n p) (hL : ∀ s ∈ L, IsDeed n s) (hl : L.length ≤ 120) (h : ∀ G', (∀ b o, G b = some o → G' b = some o) → Q (.dat (tP (furL p L))) G') : sp_further [.dat (tP p), .dat (tP L)] G Q := by
  refine ⟨rfl, ?_⟩
  have hsz : 1000000 ≤ sizeLine := by rw [sizeLine_eq]; decide
  have lz := lets_len hp.p3
  have p3 := hp.p3
  have h5 := hp.n5
  simp only [rd_further, dSeq, dSet, dAsg, dDrop, dRet, dRetN, dIf, dB, dAnd, dOr, dNot, dAndV, dOrV, dNotV, dIfE, dVar, dC, dO2, dChn, dC1, dC2, dIx, dSl, dP, dNoP, dCall, dCons, dNil, dPure, dMut, dDisp, dTup, dLRg, dTRg, dR1, dR2, gN, gTp, gsNil, gsCons, dNext, dNever, dIsi, dNeg, dL1, dFor, dIt, dIRg1, dIRg2, dEn, dLc0, dYes, dMt, dMt0, dFzE, gIx, dCat, dRep, dSlL, dD0, dD1, dDictP, dPar, dPar3, dRevT, dRevS, dRevL, dIvals, dSortSet, dLkL, dForM, dFzs, dSortSetT, List.map_cons, List.map_nil, List.replicate, List.append_nil, List.cons_append, List.nil_append, List.getElem?_cons_zero, List.getElem?_cons_succ, List.set_cons_zero, List.set_cons_succ, Option.some.injEq, exists_eq_left', exists_eq_left, exists_and_left, and_assoc, or_false, false_or, see_d, isiF, Va.dat.injEq, PyData.bool.injEq, PyData.int.injEq, PyData.str.injEq, PyData.tuple.injEq, PyData.list.injEq, seeL, Option.map_some, wipeD, List.cons.injEq, and_true, true_and, if_true, Bool.false_eq_true, if_false, reduceCtorEq, Int.reduceLT, Int.reduceLE, Int.reduceNeg, and_self, addF_i, subF_i, modF_i, fdivF_i, eqF_int, neF_int, ltF_i, leF_i, gtF_i, geF_i, lenF_t, lenF_l, List.length_map, List.length_cons, List.length_nil, itemsD_t, itemsD_l, decide_true, decide_false, Bool.not_true, Bool.not_false, ixV_dd, ixF_t, ixF_l, tupF_t, tupF_l, min2F_i, max2F_i, dmF_i, absF_i, setO_l, inDF_t, inDF_l, notInDF_t, notInDF_l, ite_true, ite_false]
  refine ⟨_, ⟨rfl, fun y e => by cases e⟩, fun c hc => ?_⟩
  unfold tP
  simp only [dSeq, dSet, dAsg, dDrop, dRet, dRetN, dIf, dB, dAnd, dOr, dNot, dAndV, dOrV, dNotV, dIfE, dVar, dC, dO2, dChn, dC1, dC2, dIx, dSl, dP, dNoP, dCall, dCons, dNil, dPure, dMut, dDisp, dTup, dLRg, dTRg, dR1, dR2, gN, gTp, gsNil, gsCons, dNext, dNever, dIsi, dNeg, dL1, dFor, dIt, dIRg1, dIRg2, dEn, dLc0, dYes, dMt, dMt0, dFzE, gIx, dCat, dRep, dSlL, dD0, dD1, dDictP, dPar, dPar3, dRevT, dRevS, dRevL, dIvals, dSortSet, dLkL, dForM, dFzs, dSortSetT, List.map_cons, List.map_nil, List.replicate, List.append_nil, List.cons_append, List.nil_append, List.getElem?_cons_zero, List.getElem?_cons_succ, List.set_cons_zero, List.set_cons_succ, Option.some.injEq, exists_eq_left', exists_eq_left, exists_and_left, and_assoc, or_false, false_or, see_d, isiF, Va.dat.injEq, PyData.bool.injEq, PyData.int.injEq, PyData.str.injEq, PyData.tuple.injEq, PyData.list.injEq, seeL, Option.map_some, wipeD, List.cons.injEq, and_true, true_and, if_true, Bool.false_eq_true, if_false, reduceCtorEq, Int.reduceLT, Int.reduceLE, Int.reduceNeg, and_self, addF_i, subF_i, modF_i, fdivF_i, eqF_int, neF_int, ltF_i, leF_i, gtF_i, geF_i, lenF_t, lenF_l, List.length_map, List.length_cons, List.length_nil, itemsD_t, itemsD_l, decide_true, decide_false, Bool.not_true, Bool.not_false, ixV_dd, ixF_t, ixF_l, tupF_t, tupF_l, min2F_i, max2F_i, dmF_i, absF_i, setO_l, inDF_t, inDF_l, notInDF_t, notInDF_l, ite_true, ite_false]
  refine ⟨by omega, ?_⟩
  refine loop_ix _ (fun i τ' G' => (∃ v3 v4, τ' = [some (.dat (tP p)), some (.dat (tP L)), some (.ref c), v3, v4]) ∧ G' c = some (.lst (((L ++ (L.take i).flatMap (outL p)).map tN).map Va.dat)) ∧ ∀ b o, G b = some o → G' b = some o) ⟨⟨_, _, rfl⟩, by rw [gup_same, List.take_zero, List.flatMap_nil, List.append_nil], fun b o e => by rw [gup_ne fun z => by rw [z, hc] at e; cases e]; exact e⟩ ?_ ?_
  · rintro i x τ' G' hx ⟨⟨v3, v4, rfl⟩, gc, kp⟩ N hN
    rw [List.map_map, List.getElem?_map] at hx
    obtain ⟨s, hs, rfl⟩ := Option.map_eq_some_iff.mp hx
    have sm := List.mem_of_getElem? hs
    have ds := hL s sm
    simp only [Function.comp, dSeq, dSet, dAsg, dDrop, dRet, dRetN, dIf, dB, dAnd, dOr, dNot, dAndV, dOrV, dNotV, dIfE, dVar, dC, dO2, dChn, dC1, dC2, dIx, dSl, dP, dNoP, dCall, dCons, dNil, dPure, dMut, dDisp, dTup, dLRg, dTRg, dR1, dR2, gN, gTp, gsNil, gsCons, dNext, dNever, dIsi, dNeg, dL1, dFor, dIt, dIRg1, dIRg2, dEn, dLc0, dYes, dMt, dMt0, dFzE, gIx, dCat, dRep, dSlL, dD0, dD1, dDictP, dPar, dPar3, dRevT, dRevS, dRevL, dIvals, dSortSet, dLkL, dForM, dFzs, dSortSetT, List.map_cons, List.map_nil, List.replicate, List.append_nil, List.cons_append, List.nil_append, List.getElem?_cons_zero, List.getElem?_cons_succ, List.set_cons_zero, List.set_cons_succ, Option.some.injEq, exists_eq_left', exists_eq_left, exists_and_left, and_assoc, or_false, false_or, see_d, isiF, Va.dat.injEq, PyData.bool.injEq, PyData.int.injEq, PyData.str.injEq, PyData.tuple.injEq, PyData.list.injEq, seeL, Option.map_some, wipeD, List.cons.injEq, and_true, true_and, if_true, Bool.false_eq_true, if_false, reduceCtorEq, Int.reduceLT, Int.reduceLE, Int.reduceNeg, and_self, addF_i, subF_i, modF_i, fdivF_i, eqF_int, neF_int, ltF_i, leF_i, gtF_i, geF_i, lenF_t, lenF_l, List.length_map, List.length_cons, List.length_nil, itemsD_t, itemsD_l, decide_true, decide_false, Bool.not_true, Bool.not_false, ixV_dd, ixF_t, ixF_l, tupF_t, tupF_l, min2F_i, max2F_i, dmF_i, absF_i, setO_l, inDF_t, inDF_l, notInDF_t, notInDF_l, ite_true, ite_false]
    refine ⟨.inr ⟨c, _, rfl, gc⟩, ?_⟩
    refine letters_of_ok hp ?_
    refine ⟨_, rfl, _, rfl, by rw [List.length_map, lz]; omega, ?_⟩
    refine lc_m sC (fun c => tN (mv s (ld p c))) (lets p.length) [] (fun c hc N2 q => ?_) ?_
    · simp only [dSeq, dSet, dAsg, dDrop, dRet, dRetN, dIf, dB, dAnd, dOr, dNot, dAndV, dOrV, dNotV, dIfE, dVar, dC, dO2, dChn, dC1, dC2, dIx, dSl, dP, dNoP, dCall, dCons, dNil, dPure, dMut, dDisp, dTup, dLRg, dTRg, dR1, dR2, gN, gTp, gsNil, gsCons, dNext, dNever, dIsi, dNeg, dL1, dFor, dIt, dIRg1, dIRg2, dEn, dLc0, dYes, dMt, dMt0, dFzE, gIx, dCat, dRep, dSlL, dD0, dD1, dDictP, dPar, dPar3, dRevT, dRevS, dRevL, dIvals, dSortSet, dLkL, dForM, dFzs, dSortSetT, List.map_cons, List.map_nil, List.replicate, List.append_nil, List.cons_append, List.nil_append, List.getElem?_cons_zero, List.getElem?_cons_succ, List.set_cons_zero, List.set_cons_succ, Option.some.injEq, exists_eq_left', exists_eq_left, exists_and_left, and_assoc, or_false, false_or, see_d, isiF, Va.dat.injEq, PyData.bool.injEq, PyData.int.injEq, PyData.str.injEq, PyData.tuple.injEq, PyData.list.injEq, seeL, Option.map_some, wipeD, List.cons.injEq, and_true, true_and, if_true, Bool.false_eq_true, if_false, reduceCtorEq, Int.reduceLT, Int.reduceLE, Int.reduceNeg, and_self, addF_i, subF_i, modF_i, fdivF_i, eqF_int, neF_int, ltF_i, leF_i, gtF_i, geF_i, lenF_t, lenF_l, List.length_map, List.length_cons, List.length_nil, itemsD_t, itemsD_l, decide_true, decide_false, Bool.not_true, Bool.not_false, ixV_dd, ixF_t, ixF_l, tupF_t, tupF_l, min2F_i, max2F_i, dmF_i, absF_i, setO_l, inDF_t, inDF_l, notInDF_t, notInDF_l, ite_true, ite_false]
      refine letter_deed_ok hp hc ?_
      exact moved_by_ok ds (ld_deed hp hc) h5 q
    · rw [List.nil_append]
      intro d hd
      have ncd : c ≠ d := fun z => by rw [← z, gc] at hd; cases hd
      have ll := all_len2 (p := p) (L := L) hp
      have hi := (List.getElem?_eq_some_iff.mp hs).1
      have tk : (L.take (i + 1)).flatMap (outL p) = (L.take i).flatMap (outL p) ++ outL p s := by
        rw [List.take_add_one, hs, List.flatMap_append]; simp
      have le : (L ++ (L.take i).flatMap (outL p)).length + (outL p s).length ≤ 840 := by
        have a : (L.flatMap (outL p)) = (L.take (i + 1)).flatMap (outL p) ++ (L.drop (i + 1)).flatMap (outL p) := by rw [← List.flatMap_append, List.take_append_drop]
        have b := congrArg List.length a
        rw [tk] at b
        unfold allL at ll
        rw [List.length_append] at ll
        rw [List.length_append, List.length_append] at b
        rw [List.length_append]
        omega
      refine ⟨c, d, _, _, rfl, rfl, by rw [gup_ne ncd]; exact gc, gup_same, ?_, hN _ _ ⟨⟨_, _, rfl⟩, ?_, fun b o e => ?_⟩⟩
      · simp only [List.length_map]
        have lo : (outL p s).length = (lets p.length).length := by unfold outL; rw [List.length_map]
        omega
      · have e1 : ∀ X Y : List (List Nat), ((X ++ Y).map tN).map Va.dat = (X.map tN).map Va.dat ++ (Y.map tN).map Va.dat := fun X Y => by rw [List.map_append, List.map_append]
        have e2 : ((outL p s).map tN).map Va.dat = (lets p.length).map fun c => Va.dat (tN (mv s (ld p c))) := by
          unfold outL
          rw [List.map_map, List.map_map]; rfl
        rw [gup_same, tk, ← List.append_assoc, e1 (L ++ (L.take i).flatMap (outL p)) (outL p s), e2]
      · have e1 := kp b o e
        rw [gup_ne (fun z => by rw [z, hc] at e; cases e), gup_ne (fun z => by rw [z, hd] at e1; cases e1)]
        exact e1
  · rintro τ' G' ⟨⟨v3, v4, rfl⟩, gc, kp⟩
    rw [show L.take (((L.map tN).map Va.dat).length) = L from List.take_of_length_le (by simp)] at gc
    have sc := seeR gc (seeL_dats _)
    obtain ⟨ks, e1, h1, D, h2, h3, h4⟩ := setL hp hL (A := allL p L) fun t => Iff.rfl
    simp only [dSeq, dSet, dAsg, dDrop, dRet, dRetN, dIf, dB, dAnd, dOr, dNot, dAndV, dOrV, dNotV, dIfE, dVar, dC, dO2, dChn, dC1, dC2, dIx, dSl, dP, dNoP, dCall, dCons, dNil, dPure, dMut, dDisp, dTup, dLRg, dTRg, dR1, dR2, gN, gTp, gsNil, gsCons, dNext, dNever, dIsi, dNeg, dL1, dFor, dIt, dIRg1, dIRg2, dEn, dLc0, dYes, dMt, dMt0, dFzE, gIx, dCat, dRep, dSlL, dD0, dD1, dDictP, dPar, dPar3, dRevT, dRevS, dRevL, dIvals, dSortSet, dLkL, dForM, dFzs, dSortSetT, List.map_cons, List.map_nil, List.replicate, List.append_nil, List.cons_append, List.nil_append, List.getElem?_cons_zero, List.getElem?_cons_succ, List.set_cons_zero, List.set_cons_succ, Option.some.injEq, exists_eq_left', exists_eq_left, exists_and_left, and_assoc, or_false, false_or, see_d, isiF, Va.dat.injEq, PyData.bool.injEq, PyData.int.injEq, PyData.str.injEq, PyData.tuple.injEq, PyData.list.injEq, seeL, Option.map_some, wipeD, List.cons.injEq, and_true, true_and, if_true, Bool.false_eq_true, if_false, reduceCtorEq, Int.reduceLT, Int.reduceLE, Int.reduceNeg, and_self, addF_i, subF_i, modF_i, fdivF_i, eqF_int, neF_int, ltF_i, leF_i, gtF_i, geF_i, lenF_t, lenF_l, List.length_map, List.length_cons, List.length_nil, itemsD_t, itemsD_l, decide_true, decide_false, Bool.not_true, Bool.not_false, ixV_dd, ixF_t, ixF_l, tupF_t, tupF_l, min2F_i, max2F_i, dmF_i, absF_i, setO_l, inDF_t, inDF_l, notInDF_t, notInDF_l, ite_true, ite_false, sc]
    refine ⟨ks, e1, h1, D, h2, h3, fun ms m1 m2 => ?_⟩
    rw [h4 ms m1 m2]
    exact ⟨_, seeL_dats _, ret_ok (h G' kp)⟩
theorem atI_last {α : Type} {xs : List α} {x : α} : atI (xs ++ [x]) (-1) = some x := by
  unfold atI ixN
  rw [if_neg (by omega), if_pos (by rw [List.length_append, List.length_singleton]; omega)]
  show (xs ++ [x])[_]? = some x
  rw [List.length_append, List.length_singleton, show (-1 + (((xs.length + 1 : Nat) : Int))).toNat = xs.length by omega]
  simp
theorem netL_snoc (p : List (List Nat)) (s : List Nat) (k : Nat) : netL p s (k + 1) = netL p s k ++ [ballL p s (k + 1)] := by
  unfold netL
  rw [List.range_succ, List.map_append]; rfl
theorem netL_last (p : List (List Nat)) (s : List Nat) (k : Nat) : ∃ X, netL p s k = X ++ [ballL p s k] := by
  unfold netL
  rw [List.range_succ, List.map_append]
  exact ⟨_, rfl⟩
def tNet (X : List (List (List Nat))) : PyData := .tuple (X.map tP)
theorem net_of_ok {n k : Nat} {p : List (List Nat)} {s : List Nat} {G : Gp} {Q : VQ} (hp : IsPuz n p) (hs : IsDeed n s) (hk : k ≤ 4) (h : ∀ G', (∀ b o, G b = some o → G' b = some o) → Q (.dat (tNet (netL p s k))) G') : sp_net_of [.dat (tP p), .dat (tN s), .dat (.int (k : Nat))] G Q := by
  refine ⟨rfl, ?_⟩
  have hsz : 1000000 ≤ sizeLine := by rw [sizeLine_eq]; decide
  simp only [rd_net_of, dSeq, dSet, dAsg, dDrop, dRet, dRetN, dIf, dB, dAnd, dOr, dNot, dAndV, dOrV, dNotV, dIfE, dVar, dC, dO2, dChn, dC1, dC2, dIx, dSl, dP, dNoP, dCall, dCons, dNil, dPure, dMut, dDisp, dTup, dLRg, dTRg, dR1, dR2, gN, gTp, gsNil, gsCons, dNext, dNever, dIsi, dNeg, dL1, dFor, dIt, dIRg1, dIRg2, dEn, dLc0, dYes, dMt, dMt0, dFzE, gIx, dCat, dRep, dSlL, dD0, dD1, dDictP, dPar, dPar3, dRevT, dRevS, dRevL, dIvals, dSortSet, dLkL, dForM, dFzs, dSortSetT, List.map_cons, List.map_nil, List.replicate, List.append_nil, List.cons_append, List.nil_append, List.getElem?_cons_zero, List.getElem?_cons_succ, List.set_cons_zero, List.set_cons_succ, Option.some.injEq, exists_eq_left', exists_eq_left, exists_and_left, and_assoc, or_false, false_or, see_d, isiF, Va.dat.injEq, PyData.bool.injEq, PyData.int.injEq, PyData.str.injEq, PyData.tuple.injEq, PyData.list.injEq, seeL, Option.map_some, wipeD, List.cons.injEq, and_true, true_and, if_true, Bool.false_eq_true, if_false, reduceCtorEq, Int.reduceLT, Int.reduceLE, Int.reduceNeg, and_self, addF_i, subF_i, modF_i, fdivF_i, eqF_int, neF_int, ltF_i, leF_i, gtF_i, geF_i, lenF_t, lenF_l, List.length_map, List.length_cons, List.length_nil, itemsD_t, itemsD_l, decide_true, decide_false, Bool.not_true, Bool.not_false, ixV_dd, ixF_t, ixF_l, tupF_t, tupF_l, min2F_i, max2F_i, dmF_i, absF_i, setO_l, inDF_t, inDF_l, notInDF_t, notInDF_l, ite_true, ite_false]
  refine ⟨by omega, by omega, fun c hc => ⟨by omega, by omega, by omega, ?_⟩⟩
  refine loop_rg (n := k) rfl (fun i τ' G' => (∃ v4, τ' = [some (.dat (tP p)), some (.dat (tN s)), some (.dat (.int (k : Nat))), some (.ref c), v4]) ∧ G' c = some (.lst (((netL p s i).map tP).map Va.dat)) ∧ ∀ b o, G b = some o → G' b = some o) ⟨⟨_, rfl⟩, gup_same, fun b o e => by rw [gup_ne fun z => by rw [z, hc] at e; cases e]; exact e⟩ ?_ ?_
  · rintro i τ' G' hi ⟨⟨v4, rfl⟩, gc, kp⟩ N hN
    obtain ⟨X, eX⟩ := netL_last p s i
    have ix : ixV G' (.ref c) (.dat (.int (-1))) = some (.dat (tP (ballL p s i))) := by
      unfold ixV
      simp only [gc, eX, List.map_append, List.map_cons, List.map_nil]
      exact atI_last
    simp only [dSeq, dSet, dAsg, dDrop, dRet, dRetN, dIf, dB, dAnd, dOr, dNot, dAndV, dOrV, dNotV, dIfE, dVar, dC, dO2, dChn, dC1, dC2, dIx, dSl, dP, dNoP, dCall, dCons, dNil, dPure, dMut, dDisp, dTup, dLRg, dTRg, dR1, dR2, gN, gTp, gsNil, gsCons, dNext, dNever, dIsi, dNeg, dL1, dFor, dIt, dIRg1, dIRg2, dEn, dLc0, dYes, dMt, dMt0, dFzE, gIx, dCat, dRep, dSlL, dD0, dD1, dDictP, dPar, dPar3, dRevT, dRevS, dRevL, dIvals, dSortSet, dLkL, dForM, dFzs, dSortSetT, List.map_cons, List.map_nil, List.replicate, List.append_nil, List.cons_append, List.nil_append, List.getElem?_cons_zero, List.getElem?_cons_succ, List.set_cons_zero, List.set_cons_succ, Option.some.injEq, exists_eq_left', exists_eq_left, exists_and_left, and_assoc, or_false, false_or, see_d, isiF, Va.dat.injEq, PyData.bool.injEq, PyData.int.injEq, PyData.str.injEq, PyData.tuple.injEq, PyData.list.injEq, seeL, Option.map_some, wipeD, List.cons.injEq, and_true, true_and, if_true, Bool.false_eq_true, if_false, reduceCtorEq, Int.reduceLT, Int.reduceLE, Int.reduceNeg, and_self, addF_i, subF_i, modF_i, fdivF_i, eqF_int, neF_int, ltF_i, leF_i, gtF_i, geF_i, lenF_t, lenF_l, List.length_map, List.length_cons, List.length_nil, itemsD_t, itemsD_l, decide_true, decide_false, Bool.not_true, Bool.not_false, ixV_dd, ixF_t, ixF_l, tupF_t, tupF_l, min2F_i, max2F_i, dmF_i, absF_i, setO_l, inDF_t, inDF_l, notInDF_t, notInDF_l, ite_true, ite_false, ix]
    refine ⟨.inr ⟨c, _, rfl, gc⟩, further_ok hp (ball_deed hp hs i) (ball_len hp hs i) fun G2 k2 => ?_⟩
    have ll : (((netL p s i).map tP).map Va.dat).length ≤ 1000000 := by
      unfold netL
      rw [List.length_map, List.length_map, List.length_map, List.length_range]; omega
    refine append_ok (k2 c _ gc) ll (hN _ _ ⟨⟨_, rfl⟩, ?_, fun b o e => ?_⟩)
    · rw [gup_same, netL_snoc, List.map_append, List.map_append]; rfl
    · rw [gup_ne fun z => by rw [z, hc] at e; cases e]
      exact k2 b o (kp b o e)
  · rintro τ' G' ⟨⟨v4, rfl⟩, gc, kp⟩
    have sc := seeR gc (seeL_dats _)
    simp only [dSeq, dSet, dAsg, dDrop, dRet, dRetN, dIf, dB, dAnd, dOr, dNot, dAndV, dOrV, dNotV, dIfE, dVar, dC, dO2, dChn, dC1, dC2, dIx, dSl, dP, dNoP, dCall, dCons, dNil, dPure, dMut, dDisp, dTup, dLRg, dTRg, dR1, dR2, gN, gTp, gsNil, gsCons, dNext, dNever, dIsi, dNeg, dL1, dFor, dIt, dIRg1, dIRg2, dEn, dLc0, dYes, dMt, dMt0, dFzE, gIx, dCat, dRep, dSlL, dD0, dD1, dDictP, dPar, dPar3, dRevT, dRevS, dRevL, dIvals, dSortSet, dLkL, dForM, dFzs, dSortSetT, List.map_cons, List.map_nil, List.replicate, List.append_nil, List.cons_append, List.nil_append, List.getElem?_cons_zero, List.getElem?_cons_succ, List.set_cons_zero, List.set_cons_succ, Option.some.injEq, exists_eq_left', exists_eq_left, exists_and_left, and_assoc, or_false, false_or, see_d, isiF, Va.dat.injEq, PyData.bool.injEq, PyData.int.injEq, PyData.str.injEq, PyData.tuple.injEq, PyData.list.injEq, seeL, Option.map_some, wipeD, List.cons.injEq, and_true, true_and, if_true, Bool.false_eq_true, if_false, reduceCtorEq, Int.reduceLT, Int.reduceLE, Int.reduceNeg, and_self, addF_i, subF_i, modF_i, fdivF_i, eqF_int, neF_int, ltF_i, leF_i, gtF_i, geF_i, lenF_t, lenF_l, List.length_map, List.length_cons, List.length_nil, itemsD_t, itemsD_l, decide_true, decide_false, Bool.not_true, Bool.not_false, ixV_dd, ixF_t, ixF_l, tupF_t, tupF_l, min2F_i, max2F_i, dmF_i, absF_i, setO_l, inDF_t, inDF_l, notInDF_t, notInDF_l, ite_true, ite_false, sc]
    exact ret_ok (h G' kp)
theorem eqv_tNn (a b : List Nat) : PyData.eqv (tN a) (tN b) = decide (a = b) := eqv_ints a b
theorem any_tNn (s : List Nat) (L : List (List Nat)) : ((L.map tN).any fun y => PyData.eqv y (tN s)) = decide (s ∈ L) := by
  rw [List.any_map]
  induction L with
  | nil => rfl
  | cons a L ih =>
    rw [List.any_cons, ih]
    show (PyData.eqv (tN a) (tN s) || _) = _
    rw [eqv_tNn]
    by_cases q : a = s
    · simp [q]
    · simp [q, Ne.symm q]
theorem fineAll_ltNn (L : List (List Nat)) : fineAll (L.map tN) = true := by
  have := fine_ltN L
  unfold fine at this
  unfold fineAll
  rw [show (PyData.list (L.map tN)).plain = PyData.plainAll (L.map tN) from rfl, Bool.and_eq_true, decide_eq_true_eq] at this
  rw [this.1, Bool.true_and]
  refine decide_eq_true ?_
  have h2 : PyData.depthAll (L.map tN) + 1 ≤ 60 := this.2
  omega
theorem in_tPn (s : List Nat) (L : List (List Nat)) : inF (tN s) (tP L) = some (.bool (decide (s ∈ L))) := by
  show (if (fineAll (L.map tN) && fine (tN s)) = true then some (PyData.bool ((L.map tN).any fun y => PyData.eqv y (tN s))) else none) = _
  rw [fineAll_ltNn, fine_tN, any_tNn]; rfl
theorem in_tNs {s : List Nat} {L : List (List Nat)} : inDF (tN s) (tP L) = some (.bool (decide (s ∈ L))) := by
  have := in_tPn s L
  unfold tP at this ⊢
  rw [inDF_t]
  exact this
theorem bools_mapN {α : Type} (f : α → Bool) (l : List α) : (l.map fun a => PyData.bool (f a)) = (l.map f).map PyData.bool := by rw [List.map_map]; rfl
def meetB (A B : List (List Nat)) : Bool := A.any fun s => decide (s ∈ B)
theorem any_bools {bs : List Bool} : anyF (.list (bs.map PyData.bool)) (.bool (bs.any id)) := by
  refine ⟨fun x hx => ?_, ?_⟩
  · obtain ⟨b, _, rfl⟩ := List.mem_map.mp hx
    exact ⟨b, rfl⟩
  · congr 1
    induction bs with
    | nil => rfl
    | cons b bs ih => simp [List.any_cons, ih, PyData.truthy]
theorem meet_ok {A B : List (List Nat)} {G : Gp} {Q : VQ} (hA : A.length ≤ 120) (h : Q (.dat (.bool (meetB A B))) G) : sp_meet [.dat (tP A), .dat (tP B)] G Q := by
  refine ⟨rfl, ?_⟩
  have hsz : 1000000 ≤ sizeLine := by rw [sizeLine_eq]; decide
  simp only [rd_meet, dSeq, dSet, dAsg, dDrop, dRet, dRetN, dIf, dB, dAnd, dOr, dNot, dAndV, dOrV, dNotV, dIfE, dVar, dC, dO2, dChn, dC1, dC2, dIx, dSl, dP, dNoP, dCall, dCons, dNil, dPure, dMut, dDisp, dTup, dLRg, dTRg, dR1, dR2, gN, gTp, gsNil, gsCons, dNext, dNever, dIsi, dNeg, dL1, dFor, dIt, dIRg1, dIRg2, dEn, dLc0, dYes, dMt, dMt0, dFzE, gIx, dCat, dRep, dSlL, dD0, dD1, dDictP, dPar, dPar3, dRevT, dRevS, dRevL, dIvals, dSortSet, dLkL, dForM, dFzs, dSortSetT, List.map_cons, List.map_nil, List.replicate, List.append_nil, List.cons_append, List.nil_append, List.getElem?_cons_zero, List.getElem?_cons_succ, List.set_cons_zero, List.set_cons_succ, Option.some.injEq, exists_eq_left', exists_eq_left, exists_and_left, and_assoc, or_false, false_or, see_d, isiF, Va.dat.injEq, PyData.bool.injEq, PyData.int.injEq, PyData.str.injEq, PyData.tuple.injEq, PyData.list.injEq, seeL, Option.map_some, wipeD, List.cons.injEq, and_true, true_and, if_true, Bool.false_eq_true, if_false, reduceCtorEq, Int.reduceLT, Int.reduceLE, Int.reduceNeg, and_self, addF_i, subF_i, modF_i, fdivF_i, eqF_int, neF_int, ltF_i, leF_i, gtF_i, geF_i, lenF_t, lenF_l, List.length_map, List.length_cons, List.length_nil, itemsD_t, itemsD_l, decide_true, decide_false, Bool.not_true, Bool.not_false, ixV_dd, ixF_t, ixF_l, tupF_t, tupF_l, min2F_i, max2F_i, dmF_i, absF_i, setO_l, inDF_t, inDF_l, notInDF_t, notInDF_l, ite_true, ite_false]
  refine ⟨_, rfl, by rw [List.length_map]; omega, ?_⟩
  refine lc_m tN (fun s => .bool (decide (s ∈ B))) A [] (fun s hs N q => ?_) ?_
  · simp only [dSeq, dSet, dAsg, dDrop, dRet, dRetN, dIf, dB, dAnd, dOr, dNot, dAndV, dOrV, dNotV, dIfE, dVar, dC, dO2, dChn, dC1, dC2, dIx, dSl, dP, dNoP, dCall, dCons, dNil, dPure, dMut, dDisp, dTup, dLRg, dTRg, dR1, dR2, gN, gTp, gsNil, gsCons, dNext, dNever, dIsi, dNeg, dL1, dFor, dIt, dIRg1, dIRg2, dEn, dLc0, dYes, dMt, dMt0, dFzE, gIx, dCat, dRep, dSlL, dD0, dD1, dDictP, dPar, dPar3, dRevT, dRevS, dRevL, dIvals, dSortSet, dLkL, dForM, dFzs, dSortSetT, List.map_cons, List.map_nil, List.replicate, List.append_nil, List.cons_append, List.nil_append, List.getElem?_cons_zero, List.getElem?_cons_succ, List.set_cons_zero, List.set_cons_succ, Option.some.injEq, exists_eq_left', exists_eq_left, exists_and_left, and_assoc, or_false, false_or, see_d, isiF, Va.dat.injEq, PyData.bool.injEq, PyData.int.injEq, PyData.str.injEq, PyData.tuple.injEq, PyData.list.injEq, seeL, Option.map_some, wipeD, List.cons.injEq, and_true, true_and, if_true, Bool.false_eq_true, if_false, reduceCtorEq, Int.reduceLT, Int.reduceLE, Int.reduceNeg, and_self, addF_i, subF_i, modF_i, fdivF_i, eqF_int, neF_int, ltF_i, leF_i, gtF_i, geF_i, lenF_t, lenF_l, List.length_map, List.length_cons, List.length_nil, itemsD_t, itemsD_l, decide_true, decide_false, Bool.not_true, Bool.not_false, ixV_dd, ixF_t, ixF_l, tupF_t, tupF_l, min2F_i, max2F_i, dmF_i, absF_i, setO_l, inDF_t, inDF_l, notInDF_t, notInDF_l, ite_true, ite_false, in_tNs]
    exact q
  · rw [List.nil_append]
    refine ⟨_, seeL_map (fun s => PyData.bool (decide (s ∈ B))) _, .bool (meetB A B), ?_, ret_ok h⟩
    rw [bools_mapN]
    have := any_bools (bs := A.map fun s => decide (s ∈ B))
    rwa [List.any_map] at this
theorem need_asked_ok {n k : Nat} {p : List (List Nat)} {s : List Nat} {G : Gp} {Q : VQ} (hp : IsPuz n p) (hs : IsDeed n s) (hk : k ≤ 4) (h : Q (.dat .none) G) : sp_need_asked [.dat (tP p), .dat (tN s), .dat (.int (k : Nat))] G Q := by
  refine ⟨rfl, ?_⟩
  simp only [rd_need_asked, dSeq, dSet, dAsg, dDrop, dRet, dRetN, dIf, dB, dAnd, dOr, dNot, dAndV, dOrV, dNotV, dIfE, dVar, dC, dO2, dChn, dC1, dC2, dIx, dSl, dP, dNoP, dCall, dCons, dNil, dPure, dMut, dDisp, dTup, dLRg, dTRg, dR1, dR2, gN, gTp, gsNil, gsCons, dNext, dNever, dIsi, dNeg, dL1, dFor, dIt, dIRg1, dIRg2, dEn, dLc0, dYes, dMt, dMt0, dFzE, gIx, dCat, dRep, dSlL, dD0, dD1, dDictP, dPar, dPar3, dRevT, dRevS, dRevL, dIvals, dSortSet, dLkL, dForM, dFzs, dSortSetT, List.map_cons, List.map_nil, List.replicate, List.append_nil, List.cons_append, List.nil_append, List.getElem?_cons_zero, List.getElem?_cons_succ, List.set_cons_zero, List.set_cons_succ, Option.some.injEq, exists_eq_left', exists_eq_left, exists_and_left, and_assoc, or_false, false_or, see_d, isiF, Va.dat.injEq, PyData.bool.injEq, PyData.int.injEq, PyData.str.injEq, PyData.tuple.injEq, PyData.list.injEq, seeL, Option.map_some, wipeD, List.cons.injEq, and_true, true_and, if_true, Bool.false_eq_true, if_false, reduceCtorEq, Int.reduceLT, Int.reduceLE, Int.reduceNeg, and_self, addF_i, subF_i, modF_i, fdivF_i, eqF_int, neF_int, ltF_i, leF_i, gtF_i, geF_i, lenF_t, lenF_l, List.length_map, List.length_cons, List.length_nil, itemsD_t, itemsD_l, decide_true, decide_false, Bool.not_true, Bool.not_false, ixV_dd, ixF_t, ixF_l, tupF_t, tupF_l, min2F_i, max2F_i, dmF_i, absF_i, setO_l, inDF_t, inDF_l, notInDF_t, notInDF_l, ite_true, ite_false]
  refine need_puzzle_ok hp ?_
  refine need_stand_ok hp hs ?_
  exact need_number_ok (by omega) (by omega) (nx_ok h)
theorem ix_net (p : List (List Nat)) (s : List Nat) (k : Nat) : ixDF (tNet (netL p s k)) (.int (-1)) = some (tP (ballL p s k)) := by
  obtain ⟨X, e⟩ := netL_last p s k
  show atI ((netL p s k).map tP) (-1) = _
  rw [e, List.map_append]
  exact atI_last
noncomputable def paperD (p : List (List Nat)) (n : Nat) (s : List Nat) (k l : Nat) : PyData := if meetB (ballL p (List.range n) k) (ballL p s l) = true then .none else .tuple [tNet (netL p (List.range n) k), tNet (netL p s l)]
theorem shw_ball {n : Nat} {p : List (List Nat)} (hp : IsPuz n p) {s : List Nat} (hs : IsDeed n s) (k : Nat) : Shw (tP (ballL p s k)) 24720 4 := by
  refine (shw_tuple (w := 205) (k := 2) fun x hx => ?_).mono ?_ (Nat.le_refl _)
  · obtain ⟨d, hd, rfl⟩ := List.mem_map.mp hx
    exact shw_tN (ball_deed hp hs k d hd) hp.n5
  · rw [List.length_map]
    have := Nat.mul_le_mul_right 206 (ball_len hp hs k)
    omega
theorem shw_net {n : Nat} {p : List (List Nat)} (hp : IsPuz n p) {s : List Nat} (hs : IsDeed n s) {k : Nat} (hk : k ≤ 4) : Shw (tNet (netL p s k)) 123605 6 := by
  refine (shw_tuple (w := 24720) (k := 4) fun x hx => ?_).mono ?_ (Nat.le_refl _)
  · obtain ⟨d, hd, rfl⟩ := List.mem_map.mp hx
    obtain ⟨j, _, rfl⟩ := List.mem_map.mp hd
    exact shw_ball hp hs j
  · unfold netL
    rw [List.length_map, List.length_map, List.length_range]
    have := Nat.mul_le_mul_right 24721 (show k + 1 ≤ 5 by omega)
    omega
theorem rep_paper {n : Nat} {p : List (List Nat)} (hp : IsPuz n p) {s : List Nat} (hs : IsDeed n s) {k l : Nat} (hk : k ≤ 4) (hl : l ≤ 4) : reprF (paperD p n s k l) (.str (paperD p n s k l).shown) := by
  unfold paperD
  split
  · exact reprF_of (w := 0) (k := 0) ⟨rfl, rfl, Nat.le_refl _, by decide +kernel, Nat.le_refl _⟩ (by decide) (by decide)
  · refine reprF_of (shw_tuple (w := 123605) (k := 6) fun x hx => ?_) (by show 2 * (123605 + 1) ≤ 2 ^ 20; decide) (by decide)
    simp only [List.mem_cons, List.not_mem_nil, or_false] at hx
    rcases hx with rfl | rfl
    · exact shw_net hp (.refl _) hk
    · exact shw_net hp hs hl
theorem net_paper_ok {n k l : Nat} {p : List (List Nat)} {s : List Nat} {G : Gp} {Q : VQ} (hp : IsPuz n p) (hs : IsDeed n s) (hk : k ≤ 4) (hl : l ≤ 4) (h : ∀ G', (∀ b o, G b = some o → G' b = some o) → Q (.dat (paperD p n s k l)) G') : sp_net_paper [.dat (tP p), .dat (tN s), .dat (.int (k : Nat)), .dat (.int (l : Nat))] G Q := by
  refine ⟨rfl, ?_⟩
  have hsz : 1000000 ≤ sizeLine := by rw [sizeLine_eq]; decide
  simp only [rd_net_paper, dSeq, dSet, dAsg, dDrop, dRet, dRetN, dIf, dB, dAnd, dOr, dNot, dAndV, dOrV, dNotV, dIfE, dVar, dC, dO2, dChn, dC1, dC2, dIx, dSl, dP, dNoP, dCall, dCons, dNil, dPure, dMut, dDisp, dTup, dLRg, dTRg, dR1, dR2, gN, gTp, gsNil, gsCons, dNext, dNever, dIsi, dNeg, dL1, dFor, dIt, dIRg1, dIRg2, dEn, dLc0, dYes, dMt, dMt0, dFzE, gIx, dCat, dRep, dSlL, dD0, dD1, dDictP, dPar, dPar3, dRevT, dRevS, dRevL, dIvals, dSortSet, dLkL, dForM, dFzs, dSortSetT, List.map_cons, List.map_nil, List.replicate, List.append_nil, List.cons_append, List.nil_append, List.getElem?_cons_zero, List.getElem?_cons_succ, List.set_cons_zero, List.set_cons_succ, Option.some.injEq, exists_eq_left', exists_eq_left, exists_and_left, and_assoc, or_false, false_or, see_d, isiF, Va.dat.injEq, PyData.bool.injEq, PyData.int.injEq, PyData.str.injEq, PyData.tuple.injEq, PyData.list.injEq, seeL, Option.map_some, wipeD, List.cons.injEq, and_true, true_and, if_true, Bool.false_eq_true, if_false, reduceCtorEq, Int.reduceLT, Int.reduceLE, Int.reduceNeg, and_self, addF_i, subF_i, modF_i, fdivF_i, eqF_int, neF_int, ltF_i, leF_i, gtF_i, geF_i, lenF_t, lenF_l, List.length_map, List.length_cons, List.length_nil, itemsD_t, itemsD_l, decide_true, decide_false, Bool.not_true, Bool.not_false, ixV_dd, ixF_t, ixF_l, tupF_t, tupF_l, min2F_i, max2F_i, dmF_i, absF_i, setO_l, inDF_t, inDF_l, notInDF_t, notInDF_l, ite_true, ite_false]
  refine need_asked_ok hp hs hk ?_
  refine need_number_ok (by omega) (by omega) ?_
  refine home_of_ok hp ?_
  refine net_of_ok hp (.refl _) hk fun G1 k1 => ?_
  refine net_of_ok hp hs hl fun G2 k2 => ?_
  have a0 : atI [tNet (netL p (List.range n) k), tNet (netL p s l)] 0 = some (tNet (netL p (List.range n) k)) := rfl
  have a1 : atI [tNet (netL p (List.range n) k), tNet (netL p s l)] 1 = some (tNet (netL p s l)) := rfl
  simp only [dSeq, dSet, dAsg, dDrop, dRet, dRetN, dIf, dB, dAnd, dOr, dNot, dAndV, dOrV, dNotV, dIfE, dVar, dC, dO2, dChn, dC1, dC2, dIx, dSl, dP, dNoP, dCall, dCons, dNil, dPure, dMut, dDisp, dTup, dLRg, dTRg, dR1, dR2, gN, gTp, gsNil, gsCons, dNext, dNever, dIsi, dNeg, dL1, dFor, dIt, dIRg1, dIRg2, dEn, dLc0, dYes, dMt, dMt0, dFzE, gIx, dCat, dRep, dSlL, dD0, dD1, dDictP, dPar, dPar3, dRevT, dRevS, dRevL, dIvals, dSortSet, dLkL, dForM, dFzs, dSortSetT, List.map_cons, List.map_nil, List.replicate, List.append_nil, List.cons_append, List.nil_append, List.getElem?_cons_zero, List.getElem?_cons_succ, List.set_cons_zero, List.set_cons_succ, Option.some.injEq, exists_eq_left', exists_eq_left, exists_and_left, and_assoc, or_false, false_or, see_d, isiF, Va.dat.injEq, PyData.bool.injEq, PyData.int.injEq, PyData.str.injEq, PyData.tuple.injEq, PyData.list.injEq, seeL, Option.map_some, wipeD, List.cons.injEq, and_true, true_and, if_true, Bool.false_eq_true, if_false, reduceCtorEq, Int.reduceLT, Int.reduceLE, Int.reduceNeg, and_self, addF_i, subF_i, modF_i, fdivF_i, eqF_int, neF_int, ltF_i, leF_i, gtF_i, geF_i, lenF_t, lenF_l, List.length_map, List.length_cons, List.length_nil, itemsD_t, itemsD_l, decide_true, decide_false, Bool.not_true, Bool.not_false, ixV_dd, ixF_t, ixF_l, tupF_t, tupF_l, min2F_i, max2F_i, dmF_i, absF_i, setO_l, inDF_t, inDF_l, notInDF_t, notInDF_l, ite_true, ite_false, a0, a1, ix_net]
  refine ⟨by omega, meet_ok (ball_len hp (.refl _) k) ?_⟩
  refine ⟨_, rfl, ?_⟩
  have := h G2 fun b o e => k2 b o (k1 b o e)
  unfold paperD at this
  cases hm : meetB (ballL p (List.range n) k) (ballL p s l) with
  | true =>
    rw [hm, if_pos rfl] at this
    rw [if_pos rfl]
    exact ret_ok this
  | false =>
    rw [hm, if_neg Bool.false_ne_true] at this
    rw [if_neg Bool.false_ne_true]
    exact ret_ok this
/-- a loop over things -/
theorem loop_mn {g : DG} {tb : DS} {D : DEnds} {xs : List PyData} (P : Ts → Gp → Prop) {τ : Ts} {G : Gp} (h0 : P τ G)
    (hs : ∀ x ∈ xs, ∀ τ G, P τ G → ∀ N : Ts → Gp → Prop, (∀ τ' G', P τ' G' → N τ' G') → g (.dat x) τ G fun τ1 G1 => tb { D with nx := N, ct := N, bk := D.nx } τ1 G1)
    (hd : ∀ τ G, P τ G → D.nx τ G) : loopG g tb D (xs.map Va.dat) τ G := by
  refine loop_ix _ (fun _ => P) h0 (fun i x τ G e p N k => ?_) fun τ G p => hd τ G p
  rw [List.getElem?_map] at e
  cases ex : xs[i]? with
  | none => rw [ex] at e; cases e
  | some d =>
    rw [ex] at e
    cases e
    exact hs d (List.mem_of_getElem? ex) τ G p N k

end DL.R

namespace DL.R
open PySem PySem.Spec PyProof.Rows L2 DL

theorem law_least_net_ok {n k : Nat} {p : List (List Nat)} {s : List Nat} {G : Gp} {Q : VQ} (hp : IsPuz n p) (hs : IsDeed n s) (hk : k ≤ 4) (h : ∀ G', (∀ b o, G b = some o → G' b = some o) → Q (.dat (tNet (netL p s k))) G') : sp__law_least_net [.dat (tP p), .dat (tN s), .dat (.int (k : Nat))] G Q := by
  refine ⟨rfl, ?_⟩
  have hsz : 1000000 ≤ sizeLine := by rw [sizeLine_eq]; decide
  have lz := lets_len hp.p3
  have p3 := hp.p3
  have h5 := hp.n5
  simp only [rd__law_least_net, dSeq, dSet, dAsg, dDrop, dRet, dRetN, dIf, dB, dAnd, dOr, dNot, dAndV, dOrV, dNotV, dIfE, dVar, dC, dO2, dChn, dC1, dC2, dIx, dSl, dP, dNoP, dCall, dCons, dNil, dPure, dMut, dDisp, dTup, dLRg, dTRg, dR1, dR2, gN, gTp, gsNil, gsCons, dNext, dNever, dIsi, dNeg, dL1, dFor, dIt, dIRg1, dIRg2, dEn, dLc0, dYes, dMt, dMt0, dFzE, gIx, dCat, dRep, dSlL, dD0, dD1, dDictP, dPar, dPar3, dRevT, dRevS, dRevL, dIvals, dSortSet, dLkL, dForM, dFzs, dSortSetT, List.map_cons, List.map_nil, List.replicate, List.append_nil, List.cons_append, List.nil_append, List.getElem?_cons_zero, List.getElem?_cons_succ, List.set_cons_zero, List.set_cons_succ, Option.some.injEq, exists_eq_left', exists_eq_left, exists_and_left, and_assoc, or_false, false_or, see_d, isiF, Va.dat.injEq, PyData.bool.injEq, PyData.int.injEq, PyData.str.injEq, PyData.tuple.injEq, PyData.list.injEq, seeL, Option.map_some, wipeD, List.cons.injEq, and_true, true_and, if_true, Bool.false_eq_true, if_false, reduceCtorEq, Int.reduceLT, Int.reduceLE, Int.reduceNeg, and_self, addF_i, subF_i, modF_i, fdivF_i, eqF_int, neF_int, ltF_i, leF_i, gtF_i, geF_i, lenF_t, lenF_l, List.length_map, List.length_cons, List.length_nil, itemsD_t, itemsD_l, decide_true, decide_false, Bool.not_true, Bool.not_false, ixV_dd, ixF_t, ixF_l, tupF_t, tupF_l, min2F_i, max2F_i, dmF_i, absF_i, setO_l, inDF_t, inDF_l, notInDF_t, notInDF_l, ite_true, ite_false]
  refine ⟨by omega, by omega, fun c hc => ⟨by omega, by omega, by omega, ?_⟩⟩
  refine loop_rg (n := k) rfl (fun i τ' G' => (∃ v4 v5 v6 v7 v8, τ' = [some (.dat (tP p)), some (.dat (tN s)), some (.dat (.int (k : Nat))), some (.ref c), v4, v5, v6, v7, v8]) ∧ G' c = some (.lst (((netL p s i).map tP).map Va.dat)) ∧ ∀ b o, G b = some o → G' b = some o) ⟨⟨_, _, _, _, _, rfl⟩, gup_same, fun b o e => by rw [gup_ne fun z => by rw [z, hc] at e; cases e]; exact e⟩ ?_ ?_
  · rintro i τ' G' hi ⟨⟨v4, v5, v6, v7, v8, rfl⟩, gc, kp⟩ N hN
    obtain ⟨X, eX⟩ := netL_last p s i
    have bl := ball_len hp hs i
    have bd := ball_deed hp hs i
    have ix : ∀ G', G' c = some (.lst (((netL p s i).map tP).map Va.dat)) → ixV G' (.ref c) (.dat (.int (-1))) = some (.dat (tP (ballL p s i))) := fun G' gc => by
      unfold ixV
      simp only [gc, eX, List.map_append, List.map_cons, List.map_nil]
      exact atI_last
    generalize hB : ballL p s i = B at bl bd ix
    have iB : itemsD (tP B) = some (B.map tN) := rfl
    simp only [dSeq, dSet, dAsg, dDrop, dRet, dRetN, dIf, dB, dAnd, dOr, dNot, dAndV, dOrV, dNotV, dIfE, dVar, dC, dO2, dChn, dC1, dC2, dIx, dSl, dP, dNoP, dCall, dCons, dNil, dPure, dMut, dDisp, dTup, dLRg, dTRg, dR1, dR2, gN, gTp, gsNil, gsCons, dNext, dNever, dIsi, dNeg, dL1, dFor, dIt, dIRg1, dIRg2, dEn, dLc0, dYes, dMt, dMt0, dFzE, gIx, dCat, dRep, dSlL, dD0, dD1, dDictP, dPar, dPar3, dRevT, dRevS, dRevL, dIvals, dSortSet, dLkL, dForM, dFzs, dSortSetT, List.map_cons, List.map_nil, List.replicate, List.append_nil, List.cons_append, List.nil_append, List.getElem?_cons_zero, List.getElem?_cons_succ, List.set_cons_zero, List.set_cons_succ, Option.some.injEq, exists_eq_left', exists_eq_left, exists_and_left, and_assoc, or_false, false_or, see_d, isiF, Va.dat.injEq, PyData.bool.injEq, PyData.int.injEq, PyData.str.injEq, PyData.tuple.injEq, PyData.list.injEq, seeL, Option.map_some, wipeD, List.cons.injEq, and_true, true_and, if_true, Bool.false_eq_true, if_false, reduceCtorEq, Int.reduceLT, Int.reduceLE, Int.reduceNeg, and_self, addF_i, subF_i, modF_i, fdivF_i, eqF_int, neF_int, ltF_i, leF_i, gtF_i, geF_i, lenF_t, lenF_l, List.length_map, List.length_cons, List.length_nil, itemsD_t, itemsD_l, decide_true, decide_false, Bool.not_true, Bool.not_false, ixV_dd, ixF_t, ixF_l, tupF_t, tupF_l, min2F_i, max2F_i, dmF_i, absF_i, setO_l, inDF_t, inDF_l, notInDF_t, notInDF_l, ite_true, ite_false, ix _ gc]
    refine ⟨_, ⟨iB, fun y e => by cases e⟩, _, seeL_dats _, _, iB, by rw [List.length_map]; omega, ?_⟩
    refine loop_ix _ (fun j τ2 G2 => (∃ v6 v7 v8, τ2 = [some (.dat (tP p)), some (.dat (tN s)), some (.dat (.int (k : Nat))), some (.ref c), some (.dat (.int (i : Nat))), some (.dat (.list ((B ++ (B.take j).flatMap (outL p)).map tN))), v6, v7, v8]) ∧ ∀ b o, G' b = some o → G2 b = some o) ⟨⟨_, _, _, by rw [List.take_zero, List.flatMap_nil, List.append_nil]⟩, fun b o e => e⟩ ?_ ?_
    · rintro j x τ2 G2 hx ⟨⟨w6, w7, w8, rfl⟩, k2⟩ N2 hN2
      rw [List.map_map, List.getElem?_map] at hx
      obtain ⟨t, ht, rfl⟩ := Option.map_eq_some_iff.mp hx
      have tm := List.mem_of_getElem? ht
      have dt := bd t tm
      simp only [Function.comp, dSeq, dSet, dAsg, dDrop, dRet, dRetN, dIf, dB, dAnd, dOr, dNot, dAndV, dOrV, dNotV, dIfE, dVar, dC, dO2, dChn, dC1, dC2, dIx, dSl, dP, dNoP, dCall, dCons, dNil, dPure, dMut, dDisp, dTup, dLRg, dTRg, dR1, dR2, gN, gTp, gsNil, gsCons, dNext, dNever, dIsi, dNeg, dL1, dFor, dIt, dIRg1, dIRg2, dEn, dLc0, dYes, dMt, dMt0, dFzE, gIx, dCat, dRep, dSlL, dD0, dD1, dDictP, dPar, dPar3, dRevT, dRevS, dRevL, dIvals, dSortSet, dLkL, dForM, dFzs, dSortSetT, List.map_cons, List.map_nil, List.replicate, List.append_nil, List.cons_append, List.nil_append, List.getElem?_cons_zero, List.getElem?_cons_succ, List.set_cons_zero, List.set_cons_succ, Option.some.injEq, exists_eq_left', exists_eq_left, exists_and_left, and_assoc, or_false, false_or, see_d, isiF, Va.dat.injEq, PyData.bool.injEq, PyData.int.injEq, PyData.str.injEq, PyData.tuple.injEq, PyData.list.injEq, seeL, Option.map_some, wipeD, List.cons.injEq, and_true, true_and, if_true, Bool.false_eq_true, if_false, reduceCtorEq, Int.reduceLT, Int.reduceLE, Int.reduceNeg, and_self, addF_i, subF_i, modF_i, fdivF_i, eqF_int, neF_int, ltF_i, leF_i, gtF_i, geF_i, lenF_t, lenF_l, List.length_map, List.length_cons, List.length_nil, itemsD_t, itemsD_l, decide_true, decide_false, Bool.not_true, Bool.not_false, ixV_dd, ixF_t, ixF_l, tupF_t, tupF_l, min2F_i, max2F_i, dmF_i, absF_i, setO_l, inDF_t, inDF_l, notInDF_t, notInDF_l, ite_true, ite_false]
      refine law_deeds_ok hp fun G3 k3 => ?_
      refine ⟨_, rfl, _, rfl, by rw [List.length_map]; unfold pairs; rw [List.length_map, lz]; omega, ?_⟩
      rw [show (pairs p).map (fun q => PyData.tuple [q.1, q.2]) = (lets p.length).map fun c => PyData.tuple [sC c, tN (ld p c)] by unfold pairs; rw [List.map_map]; rfl]
      refine lc_m (fun c => PyData.tuple [sC c, tN (ld p c)]) (fun c => tN (mv t (ld p c))) (lets p.length) [] (fun c hc N3 q => ?_) ?_
      · simp only [dSeq, dSet, dAsg, dDrop, dRet, dRetN, dIf, dB, dAnd, dOr, dNot, dAndV, dOrV, dNotV, dIfE, dVar, dC, dO2, dChn, dC1, dC2, dIx, dSl, dP, dNoP, dCall, dCons, dNil, dPure, dMut, dDisp, dTup, dLRg, dTRg, dR1, dR2, gN, gTp, gsNil, gsCons, dNext, dNever, dIsi, dNeg, dL1, dFor, dIt, dIRg1, dIRg2, dEn, dLc0, dYes, dMt, dMt0, dFzE, gIx, dCat, dRep, dSlL, dD0, dD1, dDictP, dPar, dPar3, dRevT, dRevS, dRevL, dIvals, dSortSet, dLkL, dForM, dFzs, dSortSetT, List.map_cons, List.map_nil, List.replicate, List.append_nil, List.cons_append, List.nil_append, List.getElem?_cons_zero, List.getElem?_cons_succ, List.set_cons_zero, List.set_cons_succ, Option.some.injEq, exists_eq_left', exists_eq_left, exists_and_left, and_assoc, or_false, false_or, see_d, isiF, Va.dat.injEq, PyData.bool.injEq, PyData.int.injEq, PyData.str.injEq, PyData.tuple.injEq, PyData.list.injEq, seeL, Option.map_some, wipeD, List.cons.injEq, and_true, true_and, if_true, Bool.false_eq_true, if_false, reduceCtorEq, Int.reduceLT, Int.reduceLE, Int.reduceNeg, and_self, addF_i, subF_i, modF_i, fdivF_i, eqF_int, neF_int, ltF_i, leF_i, gtF_i, geF_i, lenF_t, lenF_l, List.length_map, List.length_cons, List.length_nil, itemsD_t, itemsD_l, decide_true, decide_false, Bool.not_true, Bool.not_false, ixV_dd, ixF_t, ixF_l, tupF_t, tupF_l, min2F_i, max2F_i, dmF_i, absF_i, setO_l, inDF_t, inDF_l, notInDF_t, notInDF_l, ite_true, ite_false]
        exact law_moved_ok dt (ld_deed hp hc) h5 q
      · rw [List.nil_append]
        have ll := all_len2 (p := p) (L := B) hp
        have hj := (List.getElem?_eq_some_iff.mp ht).1
        have tk : (B.take (j + 1)).flatMap (outL p) = (B.take j).flatMap (outL p) ++ outL p t := by
          rw [List.take_add_one, ht, List.flatMap_append]; simp
        have lo : (outL p t).length = (lets p.length).length := by unfold outL; rw [List.length_map]
        have le : (B ++ (B.take j).flatMap (outL p)).length + (outL p t).length ≤ 840 := by
          have a : (B.flatMap (outL p)) = (B.take (j + 1)).flatMap (outL p) ++ (B.drop (j + 1)).flatMap (outL p) := by rw [← List.flatMap_append, List.take_append_drop]
          have b := congrArg List.length a
          rw [tk] at b
          unfold allL at ll
          rw [List.length_append] at ll
          rw [List.length_append, List.length_append] at b
          rw [List.length_append]
          omega
        refine ⟨_, seeL_map (fun c => tN (mv t (ld p c))) _, by simp only [List.length_map]; omega, _, seeL_dats _, hN2 _ _ ⟨⟨some (.dat (tN t)), w7, w8, ?_⟩, fun b o e => k3 b o (k2 b o e)⟩⟩
        rw [tk, ← List.append_assoc, List.map_append (l₁ := B ++ (B.take j).flatMap (outL p))]
        have e2 : (outL p t).map tN = (lets p.length).map fun c => tN (mv t (ld p c)) := by
          unfold outL
          rw [List.map_map]; rfl
        rw [e2]
    · rintro τ2 G2 ⟨⟨w6, w7, w8, rfl⟩, k2⟩
      rw [show B.take (((B.map tN).map Va.dat).length) = B from List.take_of_length_le (by simp)]
      obtain ⟨ks, e1, h1, D, h2, h3, h4⟩ := setL hp bd (A := allL p B) fun t => Iff.rfl
      unfold allL at e1
      have ll : (((netL p s i).map tP).map Va.dat).length ≤ 1000000 := by
        unfold netL
        rw [List.length_map, List.length_map, List.length_map, List.length_range]; omega
      have gc2 := k2 c _ gc
      simp only [dSeq, dSet, dAsg, dDrop, dRet, dRetN, dIf, dB, dAnd, dOr, dNot, dAndV, dOrV, dNotV, dIfE, dVar, dC, dO2, dChn, dC1, dC2, dIx, dSl, dP, dNoP, dCall, dCons, dNil, dPure, dMut, dDisp, dTup, dLRg, dTRg, dR1, dR2, gN, gTp, gsNil, gsCons, dNext, dNever, dIsi, dNeg, dL1, dFor, dIt, dIRg1, dIRg2, dEn, dLc0, dYes, dMt, dMt0, dFzE, gIx, dCat, dRep, dSlL, dD0, dD1, dDictP, dPar, dPar3, dRevT, dRevS, dRevL, dIvals, dSortSet, dLkL, dForM, dFzs, dSortSetT, List.map_cons, List.map_nil, List.replicate, List.append_nil, List.cons_append, List.nil_append, List.getElem?_cons_zero, List.getElem?_cons_succ, List.set_cons_zero, List.set_cons_succ, Option.some.injEq, exists_eq_left', exists_eq_left, exists_and_left, and_assoc, or_false, false_or, see_d, isiF, Va.dat.injEq, PyData.bool.injEq, PyData.int.injEq, PyData.str.injEq, PyData.tuple.injEq, PyData.list.injEq, seeL, Option.map_some, wipeD, List.cons.injEq, and_true, true_and, if_true, Bool.false_eq_true, if_false, reduceCtorEq, Int.reduceLT, Int.reduceLE, Int.reduceNeg, and_self, addF_i, subF_i, modF_i, fdivF_i, eqF_int, neF_int, ltF_i, leF_i, gtF_i, geF_i, lenF_t, lenF_l, List.length_map, List.length_cons, List.length_nil, itemsD_t, itemsD_l, decide_true, decide_false, Bool.not_true, Bool.not_false, ixV_dd, ixF_t, ixF_l, tupF_t, tupF_l, min2F_i, max2F_i, dmF_i, absF_i, setO_l, inDF_t, inDF_l, notInDF_t, notInDF_l, ite_true, ite_false]
      refine ⟨.inr ⟨c, _, rfl, gc2⟩, ks, e1, h1, D, h2, h3, fun ms m1 m2 => ?_⟩
      rw [h4 ms m1 m2]
      refine ⟨_, seeL_dats _, append_ok gc2 ll (hN _ _ ⟨⟨_, _, _, _, _, rfl⟩, ?_, fun b o e => ?_⟩)⟩
      · rw [gup_same, netL_snoc, List.map_append, List.map_append]
        show _ = some (MO.lst (_ ++ [Va.dat (tP (furL p (ballL p s i)))]))
        rw [hB]; rfl
      · rw [gup_ne fun z => by rw [z, hc] at e; cases e]
        exact k2 b o (kp b o e)
  · rintro τ' G' ⟨⟨v4, v5, v6, v7, v8, rfl⟩, gc, kp⟩
    have sc := seeR gc (seeL_dats _)
    simp only [dSeq, dSet, dAsg, dDrop, dRet, dRetN, dIf, dB, dAnd, dOr, dNot, dAndV, dOrV, dNotV, dIfE, dVar, dC, dO2, dChn, dC1, dC2, dIx, dSl, dP, dNoP, dCall, dCons, dNil, dPure, dMut, dDisp, dTup, dLRg, dTRg, dR1, dR2, gN, gTp, gsNil, gsCons, dNext, dNever, dIsi, dNeg, dL1, dFor, dIt, dIRg1, dIRg2, dEn, dLc0, dYes, dMt, dMt0, dFzE, gIx, dCat, dRep, dSlL, dD0, dD1, dDictP, dPar, dPar3, dRevT, dRevS, dRevL, dIvals, dSortSet, dLkL, dForM, dFzs, dSortSetT, List.map_cons, List.map_nil, List.replicate, List.append_nil, List.cons_append, List.nil_append, List.getElem?_cons_zero, List.getElem?_cons_succ, List.set_cons_zero, List.set_cons_succ, Option.some.injEq, exists_eq_left', exists_eq_left, exists_and_left, and_assoc, or_false, false_or, see_d, isiF, Va.dat.injEq, PyData.bool.injEq, PyData.int.injEq, PyData.str.injEq, PyData.tuple.injEq, PyData.list.injEq, seeL, Option.map_some, wipeD, List.cons.injEq, and_true, true_and, if_true, Bool.false_eq_true, if_false, reduceCtorEq, Int.reduceLT, Int.reduceLE, Int.reduceNeg, and_self, addF_i, subF_i, modF_i, fdivF_i, eqF_int, neF_int, ltF_i, leF_i, gtF_i, geF_i, lenF_t, lenF_l, List.length_map, List.length_cons, List.length_nil, itemsD_t, itemsD_l, decide_true, decide_false, Bool.not_true, Bool.not_false, ixV_dd, ixF_t, ixF_l, tupF_t, tupF_l, min2F_i, max2F_i, dmF_i, absF_i, setO_l, inDF_t, inDF_l, notInDF_t, notInDF_l, ite_true, ite_false, sc]
    exact ret_ok (h G' kp)
def L25 : DS := (dFor (dIt (dPure (dDisp (dCons (dCall sp__law_drawn_stand (dCons (dVar 2) (dCons (dVar 3) dNil))) (dCons (dVar 4) dNil))))) (gN 5) (dSeq (dPar 7 8 (dCons (dCall sp__law_take (dCons (dVar 2) (dCons (dC (.int 5)) dNil))) (dCons (dCall sp__law_take (dCons (dVar 2) (dCons (dC (.int 5)) dNil))) dNil))) (dSeq (dSet 6 (dTup (dCons (dCall sp__law_least_net (dCons (dVar 3) (dCons (dCall sp__law_home (dCons (dVar 3) dNil)) (dCons (dVar 7) dNil)))) (dCons (dCall sp__law_least_net (dCons (dVar 3) (dCons (dVar 5) (dCons (dVar 8) dNil)))) dNil)))) (dSeq (dIf (dB (dO2 neF (dPure (dLc0 (dIt (dIx (dIx (dVar 6) (dC (.int 0))) (dNeg (dC (.int 1))))) (gN 9) (dB (dO2 inDF (dVar 9) (dIx (dIx (dVar 6) (dC (.int 1))) (dNeg (dC (.int 1)))))) (dVar 9) [9])) (dPure (dDisp dNil)))) (dSet 6 (dC .none)) dNext) (dIf (dB (dO2 neF (dC1 reprF (dCall sp_net_paper (dCons (dVar 3) (dCons (dVar 5) (dCons (dVar 7) (dCons (dVar 8) dNil)))))) (dC1 reprF (dVar 6)))) (dRet (dC (.bool false))) dNext)))))
theorem eq_rdlaw : rd_law = (dSeq (dFor (dIRg1 (dC2 max2F (dC (.int 1)) (dC2 min2F (dC1 lenDF (dVar 0)) (dC (.int 3))))) (gN 1) (dSeq (dSet 2 (dCall sp__law_box (dCons (dVar 0) (dCons (dVar 1) dNil)))) (dSeq (dSet 3 (dCall sp__law_drawn_puzzle (dCons (dVar 2) (dCons (dC (.int 5)) dNil)))) (dSeq (dSet 4 (dCall sp__law_done (dCons (dVar 3) (dCons (dCall sp__law_home (dCons (dVar 3) dNil)) (dCons (dCall sp__law_drawn_word (dCons (dVar 2) (dCons (dVar 3) (dCons (dC (.int 8)) dNil)))) dNil))))) L25)))) (dRet (dC (.bool true)))) := rfl
theorem ne_nil (L : List (List Nat)) : neF (.list (L.map tN)) (.list []) = some (.bool (!decide (L = []))) := by
  unfold neF
  rw [fine_ltN, show fine (PyData.list []) = true from rfl]
  cases L with
  | nil => rfl
  | cons a L => rfl
theorem meet_nil {A B : List (List Nat)} : decide (A.filter (fun s => decide (s ∈ B)) = []) = !meetB A B := by
  unfold meetB
  rw [Bool.eq_iff_iff, decide_eq_true_eq, List.filter_eq_nil_iff, Bool.not_eq_true', List.any_eq_false]
theorem L25_ok {ns : List Int} {i n : Nat} {a : Addr} {p : List (List Nat)} {t : List Nat} {v5 v6 v7 v8 v9 : Option Va} {G : Gp} {D : DEnds} (hp : IsPuz n p) (ht : IsDeed n t) (hb : Box G a)
    (h : ∀ v5 v6 v7 v8 v9 G', D.nx [some (.dat (.list (ns.map PyData.int))), some (.dat (.int (i : Nat))), some (.ref a), some (.dat (tP p)), some (.dat (tN t)), v5, v6, v7, v8, v9] G') :
    L25 D [some (.dat (.list (ns.map PyData.int))), some (.dat (.int (i : Nat))), some (.ref a), some (.dat (tP p)), some (.dat (tN t)), v5, v6, v7, v8, v9] G := by
  have hsz : 1000000 ≤ sizeLine := by rw [sizeLine_eq]; decide
  unfold L25
  simp only [dSeq, dSet, dAsg, dDrop, dRet, dRetN, dIf, dB, dAnd, dOr, dNot, dAndV, dOrV, dNotV, dIfE, dVar, dC, dO2, dChn, dC1, dC2, dIx, dSl, dP, dNoP, dCall, dCons, dNil, dPure, dMut, dDisp, dTup, dLRg, dTRg, dR1, dR2, gN, gTp, gsNil, gsCons, dNext, dNever, dIsi, dNeg, dL1, dFor, dIt, dIRg1, dIRg2, dEn, dLc0, dYes, dMt, dMt0, dFzE, gIx, dCat, dRep, dSlL, dD0, dD1, dDictP, dPar, dPar3, dRevT, dRevS, dRevL, dIvals, dSortSet, dLkL, dForM, dFzs, dSortSetT, List.map_cons, List.map_nil, List.replicate, List.append_nil, List.cons_append, List.nil_append, List.getElem?_cons_zero, List.getElem?_cons_succ, List.set_cons_zero, List.set_cons_succ, Option.some.injEq, exists_eq_left', exists_eq_left, exists_and_left, and_assoc, or_false, false_or, see_d, isiF, Va.dat.injEq, PyData.bool.injEq, PyData.int.injEq, PyData.str.injEq, PyData.tuple.injEq, PyData.list.injEq, seeL, Option.map_some, wipeD, List.cons.injEq, and_true, true_and, if_true, Bool.false_eq_true, if_false, reduceCtorEq, Int.reduceLT, Int.reduceLE, Int.reduceNeg, and_self, addF_i, subF_i, modF_i, fdivF_i, eqF_int, neF_int, ltF_i, leF_i, gtF_i, geF_i, lenF_t, lenF_l, List.length_map, List.length_cons, List.length_nil, itemsD_t, itemsD_l, decide_true, decide_false, Bool.not_true, Bool.not_false, ixV_dd, ixF_t, ixF_l, tupF_t, tupF_l, min2F_i, max2F_i, dmF_i, absF_i, setO_l, inDF_t, inDF_l, notInDF_t, notInDF_l, ite_true, ite_false]
  refine drawn_stand_ok hb hp fun s0 G1 hs0 b1 => ?_
  simp only [dSeq, dSet, dAsg, dDrop, dRet, dRetN, dIf, dB, dAnd, dOr, dNot, dAndV, dOrV, dNotV, dIfE, dVar, dC, dO2, dChn, dC1, dC2, dIx, dSl, dP, dNoP, dCall, dCons, dNil, dPure, dMut, dDisp, dTup, dLRg, dTRg, dR1, dR2, gN, gTp, gsNil, gsCons, dNext, dNever, dIsi, dNeg, dL1, dFor, dIt, dIRg1, dIRg2, dEn, dLc0, dYes, dMt, dMt0, dFzE, gIx, dCat, dRep, dSlL, dD0, dD1, dDictP, dPar, dPar3, dRevT, dRevS, dRevL, dIvals, dSortSet, dLkL, dForM, dFzs, dSortSetT, List.map_cons, List.map_nil, List.replicate, List.append_nil, List.cons_append, List.nil_append, List.getElem?_cons_zero, List.getElem?_cons_succ, List.set_cons_zero, List.set_cons_succ, Option.some.injEq, exists_eq_left', exists_eq_left, exists_and_left, and_assoc, or_false, false_or, see_d, isiF, Va.dat.injEq, PyData.bool.injEq, PyData.int.injEq, PyData.str.injEq, PyData.tuple.injEq, PyData.list.injEq, seeL, Option.map_some, wipeD, List.cons.injEq, and_true, true_and, if_true, Bool.false_eq_true, if_false, reduceCtorEq, Int.reduceLT, Int.reduceLE, Int.reduceNeg, and_self, addF_i, subF_i, modF_i, fdivF_i, eqF_int, neF_int, ltF_i, leF_i, gtF_i, geF_i, lenF_t, lenF_l, List.length_map, List.length_cons, List.length_nil, itemsD_t, itemsD_l, decide_true, decide_false, Bool.not_true, Bool.not_false, ixV_dd, ixF_t, ixF_l, tupF_t, tupF_l, min2F_i, max2F_i, dmF_i, absF_i, setO_l, inDF_t, inDF_l, notInDF_t, notInDF_l, ite_true, ite_false]
  refine ⟨by omega, by omega, ?_⟩
  refine loop_mn (xs := [tN s0, tN t]) (fun τ' G' => Box G' a ∧ ∃ v5 v6 v7 v8 v9, τ' = [some (.dat (.list (ns.map PyData.int))), some (.dat (.int (i : Nat))), some (.ref a), some (.dat (tP p)), some (.dat (tN t)), v5, v6, v7, v8, v9]) ⟨b1.box, _, _, _, _, _, rfl⟩ ?_ ?_
  · rintro x hx τ' G' ⟨b0, w5, w6, w7, w8, w9, rfl⟩ N hN
    obtain ⟨s, hs, rfl⟩ : ∃ s, IsDeed n s ∧ x = tN s := by
      simp only [List.mem_cons, List.not_mem_nil, or_false] at hx
      rcases hx with rfl | rfl
      · exact ⟨s0, hs0, rfl⟩
      · exact ⟨t, ht, rfl⟩
    simp only [dSeq, dSet, dAsg, dDrop, dRet, dRetN, dIf, dB, dAnd, dOr, dNot, dAndV, dOrV, dNotV, dIfE, dVar, dC, dO2, dChn, dC1, dC2, dIx, dSl, dP, dNoP, dCall, dCons, dNil, dPure, dMut, dDisp, dTup, dLRg, dTRg, dR1, dR2, gN, gTp, gsNil, gsCons, dNext, dNever, dIsi, dNeg, dL1, dFor, dIt, dIRg1, dIRg2, dEn, dLc0, dYes, dMt, dMt0, dFzE, gIx, dCat, dRep, dSlL, dD0, dD1, dDictP, dPar, dPar3, dRevT, dRevS, dRevL, dIvals, dSortSet, dLkL, dForM, dFzs, dSortSetT, List.map_cons, List.map_nil, List.replicate, List.append_nil, List.cons_append, List.nil_append, List.getElem?_cons_zero, List.getElem?_cons_succ, List.set_cons_zero, List.set_cons_succ, Option.some.injEq, exists_eq_left', exists_eq_left, exists_and_left, and_assoc, or_false, false_or, see_d, isiF, Va.dat.injEq, PyData.bool.injEq, PyData.int.injEq, PyData.str.injEq, PyData.tuple.injEq, PyData.list.injEq, seeL, Option.map_some, wipeD, List.cons.injEq, and_true, true_and, if_true, Bool.false_eq_true, if_false, reduceCtorEq, Int.reduceLT, Int.reduceLE, Int.reduceNeg, and_self, addF_i, subF_i, modF_i, fdivF_i, eqF_int, neF_int, ltF_i, leF_i, gtF_i, geF_i, lenF_t, lenF_l, List.length_map, List.length_cons, List.length_nil, itemsD_t, itemsD_l, decide_true, decide_false, Bool.not_true, Bool.not_false, ixV_dd, ixF_t, ixF_l, tupF_t, tupF_l, min2F_i, max2F_i, dmF_i, absF_i, setO_l, inDF_t, inDF_l, notInDF_t, notInDF_l, ite_true, ite_false]
    refine take_ok b0 (by decide) (by decide) fun k G2 hk b2 => ?_
    refine take_ok b2.box (by decide) (by decide) fun l G3 hl b3 => ?_
    try simp only [dSeq, dSet, dAsg, dDrop, dRet, dRetN, dIf, dB, dAnd, dOr, dNot, dAndV, dOrV, dNotV, dIfE, dVar, dC, dO2, dChn, dC1, dC2, dIx, dSl, dP, dNoP, dCall, dCons, dNil, dPure, dMut, dDisp, dTup, dLRg, dTRg, dR1, dR2, gN, gTp, gsNil, gsCons, dNext, dNever, dIsi, dNeg, dL1, dFor, dIt, dIRg1, dIRg2, dEn, dLc0, dYes, dMt, dMt0, dFzE, gIx, dCat, dRep, dSlL, dD0, dD1, dDictP, dPar, dPar3, dRevT, dRevS, dRevL, dIvals, dSortSet, dLkL, dForM, dFzs, dSortSetT, List.map_cons, List.map_nil, List.replicate, List.append_nil, List.cons_append, List.nil_append, List.getElem?_cons_zero, List.getElem?_cons_succ, List.set_cons_zero, List.set_cons_succ, Option.some.injEq, exists_eq_left', exists_eq_left, exists_and_left, and_assoc, or_false, false_or, see_d, isiF, Va.dat.injEq, PyData.bool.injEq, PyData.int.injEq, PyData.str.injEq, PyData.tuple.injEq, PyData.list.injEq, seeL, Option.map_some, wipeD, List.cons.injEq, and_true, true_and, if_true, Bool.false_eq_true, if_false, reduceCtorEq, Int.reduceLT, Int.reduceLE, Int.reduceNeg, and_self, addF_i, subF_i, modF_i, fdivF_i, eqF_int, neF_int, ltF_i, leF_i, gtF_i, geF_i, lenF_t, lenF_l, List.length_map, List.length_cons, List.length_nil, itemsD_t, itemsD_l, decide_true, decide_false, Bool.not_true, Bool.not_false, ixV_dd, ixF_t, ixF_l, tupF_t, tupF_l, min2F_i, max2F_i, dmF_i, absF_i, setO_l, inDF_t, inDF_l, notInDF_t, notInDF_l, ite_true, ite_false]
    have hk4 : k ≤ 4 := by omega
    have hl4 : l ≤ 4 := by omega
    refine law_home_ok hp ?_
    refine law_least_net_ok hp (.refl _) hk4 fun G4 k4 => ?_
    refine law_least_net_ok hp hs hl4 fun G5 k5 => ?_
    have b5 : Box G5 a := by
      obtain ⟨z, hz⟩ := b3.box
      exact ⟨z, k5 _ _ (k4 _ _ hz)⟩
    have a0 : atI [tNet (netL p (List.range n) k), tNet (netL p s l)] 0 = some (tNet (netL p (List.range n) k)) := rfl
    have a1 : atI [tNet (netL p (List.range n) k), tNet (netL p s l)] 1 = some (tNet (netL p s l)) := rfl
    simp only [dSeq, dSet, dAsg, dDrop, dRet, dRetN, dIf, dB, dAnd, dOr, dNot, dAndV, dOrV, dNotV, dIfE, dVar, dC, dO2, dChn, dC1, dC2, dIx, dSl, dP, dNoP, dCall, dCons, dNil, dPure, dMut, dDisp, dTup, dLRg, dTRg, dR1, dR2, gN, gTp, gsNil, gsCons, dNext, dNever, dIsi, dNeg, dL1, dFor, dIt, dIRg1, dIRg2, dEn, dLc0, dYes, dMt, dMt0, dFzE, gIx, dCat, dRep, dSlL, dD0, dD1, dDictP, dPar, dPar3, dRevT, dRevS, dRevL, dIvals, dSortSet, dLkL, dForM, dFzs, dSortSetT, List.map_cons, List.map_nil, List.replicate, List.append_nil, List.cons_append, List.nil_append, List.getElem?_cons_zero, List.getElem?_cons_succ, List.set_cons_zero, List.set_cons_succ, Option.some.injEq, exists_eq_left', exists_eq_left, exists_and_left, and_assoc, or_false, false_or, see_d, isiF, Va.dat.injEq, PyData.bool.injEq, PyData.int.injEq, PyData.str.injEq, PyData.tuple.injEq, PyData.list.injEq, seeL, Option.map_some, wipeD, List.cons.injEq, and_true, true_and, if_true, Bool.false_eq_true, if_false, reduceCtorEq, Int.reduceLT, Int.reduceLE, Int.reduceNeg, and_self, addF_i, subF_i, modF_i, fdivF_i, eqF_int, neF_int, ltF_i, leF_i, gtF_i, geF_i, lenF_t, lenF_l, List.length_map, List.length_cons, List.length_nil, itemsD_t, itemsD_l, decide_true, decide_false, Bool.not_true, Bool.not_false, ixV_dd, ixF_t, ixF_l, tupF_t, tupF_l, min2F_i, max2F_i, dmF_i, absF_i, setO_l, inDF_t, inDF_l, notInDF_t, notInDF_l, ite_true, ite_false, a0, a1, ix_net]
    refine ⟨by omega, _, rfl, by rw [List.length_map]; have := ball_len hp (.refl _ : IsDeed n (List.range n)) k; omega, ?_⟩
    refine lc_fm tN (fun d => decide (d ∈ ballL p s l)) tN (ballL p (List.range n) k) [] (fun d hd N2 h1 h2 => ?_) ?_
    · simp only [dSeq, dSet, dAsg, dDrop, dRet, dRetN, dIf, dB, dAnd, dOr, dNot, dAndV, dOrV, dNotV, dIfE, dVar, dC, dO2, dChn, dC1, dC2, dIx, dSl, dP, dNoP, dCall, dCons, dNil, dPure, dMut, dDisp, dTup, dLRg, dTRg, dR1, dR2, gN, gTp, gsNil, gsCons, dNext, dNever, dIsi, dNeg, dL1, dFor, dIt, dIRg1, dIRg2, dEn, dLc0, dYes, dMt, dMt0, dFzE, gIx, dCat, dRep, dSlL, dD0, dD1, dDictP, dPar, dPar3, dRevT, dRevS, dRevL, dIvals, dSortSet, dLkL, dForM, dFzs, dSortSetT, List.map_cons, List.map_nil, List.replicate, List.append_nil, List.cons_append, List.nil_append, List.getElem?_cons_zero, List.getElem?_cons_succ, List.set_cons_zero, List.set_cons_succ, Option.some.injEq, exists_eq_left', exists_eq_left, exists_and_left, and_assoc, or_false, false_or, see_d, isiF, Va.dat.injEq, PyData.bool.injEq, PyData.int.injEq, PyData.str.injEq, PyData.tuple.injEq, PyData.list.injEq, seeL, Option.map_some, wipeD, List.cons.injEq, and_true, true_and, if_true, Bool.false_eq_true, if_false, reduceCtorEq, Int.reduceLT, Int.reduceLE, Int.reduceNeg, and_self, addF_i, subF_i, modF_i, fdivF_i, eqF_int, neF_int, ltF_i, leF_i, gtF_i, geF_i, lenF_t, lenF_l, List.length_map, List.length_cons, List.length_nil, itemsD_t, itemsD_l, decide_true, decide_false, Bool.not_true, Bool.not_false, ixV_dd, ixF_t, ixF_l, tupF_t, tupF_l, min2F_i, max2F_i, dmF_i, absF_i, setO_l, inDF_t, inDF_l, notInDF_t, notInDF_l, ite_true, ite_false, a1, ix_net, in_tNs, Option.map_some, Option.some.injEq, exists_eq_left']
      cases e : decide (d ∈ ballL p s l) with
      | true => rw [if_pos rfl]; exact h1 e
      | false => rw [if_neg Bool.false_ne_true]; exact h2 e
    · rw [List.nil_append]
      refine ⟨_, seeL_map tN _, by omega, _, ne_nil _, ?_⟩
      rw [meet_nil, Bool.not_not]
      have rp := rep_paper hp hs hk4 hl4
      have eD : paperD p n s k l = if meetB (ballL p (List.range n) k) (ballL p s l) = true then PyData.none else PyData.tuple [tNet (netL p (List.range n) k), tNet (netL p s l)] := rfl
      refine ⟨_, rfl, ?_⟩
      have kb : ∀ G6 : Gp, (∀ b o, G5 b = some o → G6 b = some o) → Box G6 a := fun G6 k6 => by
        obtain ⟨z, hz⟩ := b5
        exact ⟨z, k6 _ _ hz⟩
      cases hm : meetB (ballL p (List.range n) k) (ballL p s l) with
      | true =>
        rw [hm, if_pos rfl] at eD
        rw [eD] at rp
        rw [if_pos rfl]
        refine net_paper_ok hp hs hk4 hl4 fun G6 k6 => ?_
        rw [eD]
        refine ⟨_, rfl, _, rp, _, rp, _, neF_str _, false, rfl, ?_⟩
        rw [if_neg Bool.false_ne_true]
        exact hN _ _ ⟨kb G6 k6, _, _, _, _, _, rfl⟩
      | false =>
        rw [hm, if_neg Bool.false_ne_true] at eD
        rw [eD] at rp
        rw [if_neg Bool.false_ne_true]
        refine net_paper_ok hp hs hk4 hl4 fun G6 k6 => ?_
        rw [eD]
        refine ⟨_, rfl, _, rp, _, rp, _, neF_str _, false, rfl, ?_⟩
        rw [if_neg Bool.false_ne_true]
        exact hN _ _ ⟨kb G6 k6, _, _, _, _, _, rfl⟩
  · rintro τ' G' ⟨b0, w5, w6, w7, w8, w9, rfl⟩
    exact h _ _ _ _ _ _
theorem law_ok : ∀ xs G Q, spLaw xs G Q → sp_law xs G Q := by
  rintro xs G Q ⟨ns, rfl, hz, h⟩
  refine ⟨rfl, ?_⟩
  have hsz : 1000000 ≤ sizeLine := by rw [sizeLine_eq]; decide
  simp only [eq_rdlaw, dSeq, dSet, dAsg, dDrop, dRet, dRetN, dIf, dB, dAnd, dOr, dNot, dAndV, dOrV, dNotV, dIfE, dVar, dC, dO2, dChn, dC1, dC2, dIx, dSl, dP, dNoP, dCall, dCons, dNil, dPure, dMut, dDisp, dTup, dLRg, dTRg, dR1, dR2, gN, gTp, gsNil, gsCons, dNext, dNever, dIsi, dNeg, dL1, dFor, dIt, dIRg1, dIRg2, dEn, dLc0, dYes, dMt, dMt0, dFzE, gIx, dCat, dRep, dSlL, dD0, dD1, dDictP, dPar, dPar3, dRevT, dRevS, dRevL, dIvals, dSortSet, dLkL, dForM, dFzs, dSortSetT, List.map_cons, List.map_nil, List.replicate, List.append_nil, List.cons_append, List.nil_append, List.getElem?_cons_zero, List.getElem?_cons_succ, List.set_cons_zero, List.set_cons_succ, Option.some.injEq, exists_eq_left', exists_eq_left, exists_and_left, and_assoc, or_false, false_or, see_d, isiF, Va.dat.injEq, PyData.bool.injEq, PyData.int.injEq, PyData.str.injEq, PyData.tuple.injEq, PyData.list.injEq, seeL, Option.map_some, wipeD, List.cons.injEq, and_true, true_and, if_true, Bool.false_eq_true, if_false, reduceCtorEq, Int.reduceLT, Int.reduceLE, Int.reduceNeg, and_self, addF_i, subF_i, modF_i, fdivF_i, eqF_int, neF_int, ltF_i, leF_i, gtF_i, geF_i, lenF_t, lenF_l, List.length_map, List.length_cons, List.length_nil, itemsD_t, itemsD_l, decide_true, decide_false, Bool.not_true, Bool.not_false, ixV_dd, ixF_t, ixF_l, tupF_t, tupF_l, min2F_i, max2F_i, dmF_i, absF_i, setO_l, inDF_t, inDF_l, notInDF_t, notInDF_l, ite_true, ite_false]
  obtain ⟨m, hm, hm3⟩ := rounds ns 3 (by decide)
  rw [show ((3 : Nat) : Int) = 3 from rfl] at hm
  rw [hm]
  refine ⟨by omega, by omega, by omega, ?_⟩
  refine loop_rg (n := m) rfl (fun i τ' _ => ∃ v1 v2 v3 v4 v5 v6 v7 v8 v9, τ' = [some (.dat (.list (ns.map PyData.int))), v1, v2, v3, v4, v5, v6, v7, v8, v9]) ⟨none, none, none, none, none, none, none, none, none, rfl⟩ ?_ ?_
  · rintro i τ' G' hi ⟨v1, v2, v3, v4, v5, v6, v7, v8, v9, rfl⟩ N hN
    simp only [dSeq, dSet, dAsg, dDrop, dRet, dRetN, dIf, dB, dAnd, dOr, dNot, dAndV, dOrV, dNotV, dIfE, dVar, dC, dO2, dChn, dC1, dC2, dIx, dSl, dP, dNoP, dCall, dCons, dNil, dPure, dMut, dDisp, dTup, dLRg, dTRg, dR1, dR2, gN, gTp, gsNil, gsCons, dNext, dNever, dIsi, dNeg, dL1, dFor, dIt, dIRg1, dIRg2, dEn, dLc0, dYes, dMt, dMt0, dFzE, gIx, dCat, dRep, dSlL, dD0, dD1, dDictP, dPar, dPar3, dRevT, dRevS, dRevL, dIvals, dSortSet, dLkL, dForM, dFzs, dSortSetT, List.map_cons, List.map_nil, List.replicate, List.append_nil, List.cons_append, List.nil_append, List.getElem?_cons_zero, List.getElem?_cons_succ, List.set_cons_zero, List.set_cons_succ, Option.some.injEq, exists_eq_left', exists_eq_left, exists_and_left, and_assoc, or_false, false_or, see_d, isiF, Va.dat.injEq, PyData.bool.injEq, PyData.int.injEq, PyData.str.injEq, PyData.tuple.injEq, PyData.list.injEq, seeL, Option.map_some, wipeD, List.cons.injEq, and_true, true_and, if_true, Bool.false_eq_true, if_false, reduceCtorEq, Int.reduceLT, Int.reduceLE, Int.reduceNeg, and_self, addF_i, subF_i, modF_i, fdivF_i, eqF_int, neF_int, ltF_i, leF_i, gtF_i, geF_i, lenF_t, lenF_l, List.length_map, List.length_cons, List.length_nil, itemsD_t, itemsD_l, decide_true, decide_false, Bool.not_true, Bool.not_false, ixV_dd, ixF_t, ixF_l, tupF_t, tupF_l, min2F_i, max2F_i, dmF_i, absF_i, setO_l, inDF_t, inDF_l, notInDF_t, notInDF_l, ite_true, ite_false]
    refine box_ok fun a G1 _ hb _ => ?_
    refine drawn_puzzle_ok (most := 5) hb (by decide) (by decide) fun n p G2 _ hp b2 => ?_
    refine law_home_ok hp ?_
    refine drawn_word_ok (m := 8) b2.box hp (by decide) fun w G3 hw hl b3 => ?_
    refine law_done_ok hp (.refl _) hw fun G4 k4 => ?_
    have b4 : Box G4 a := by
      obtain ⟨z, hz⟩ := b3.box
      exact ⟨z, k4 _ _ hz⟩
    exact L25_ok hp (bh_deed hp hw.ok (.refl _)) b4 fun u5 u6 u7 u8 u9 G5 => hN _ _ ⟨_, _, _, _, _, _, _, _, _, rfl⟩
  · rintro τ' G' ⟨v1, v2, v3, v4, v5, v6, v7, v8, v9, rfl⟩
    try simp only [dSeq, dSet, dAsg, dDrop, dRet, dRetN, dIf, dB, dAnd, dOr, dNot, dAndV, dOrV, dNotV, dIfE, dVar, dC, dO2, dChn, dC1, dC2, dIx, dSl, dP, dNoP, dCall, dCons, dNil, dPure, dMut, dDisp, dTup, dLRg, dTRg, dR1, dR2, gN, gTp, gsNil, gsCons, dNext, dNever, dIsi, dNeg, dL1, dFor, dIt, dIRg1, dIRg2, dEn, dLc0, dYes, dMt, dMt0, dFzE, gIx, dCat, dRep, dSlL, dD0, dD1, dDictP, dPar, dPar3, dRevT, dRevS, dRevL, dIvals, dSortSet, dLkL, dForM, dFzs, dSortSetT, List.map_cons, List.map_nil, List.replicate, List.append_nil, List.cons_append, List.nil_append, List.getElem?_cons_zero, List.getElem?_cons_succ, List.set_cons_zero, List.set_cons_succ, Option.some.injEq, exists_eq_left', exists_eq_left, exists_and_left, and_assoc, or_false, false_or, see_d, isiF, Va.dat.injEq, PyData.bool.injEq, PyData.int.injEq, PyData.str.injEq, PyData.tuple.injEq, PyData.list.injEq, seeL, Option.map_some, wipeD, List.cons.injEq, and_true, true_and, if_true, Bool.false_eq_true, if_false, reduceCtorEq, Int.reduceLT, Int.reduceLE, Int.reduceNeg, and_self, addF_i, subF_i, modF_i, fdivF_i, eqF_int, neF_int, ltF_i, leF_i, gtF_i, geF_i, lenF_t, lenF_l, List.length_map, List.length_cons, List.length_nil, itemsD_t, itemsD_l, decide_true, decide_false, Bool.not_true, Bool.not_false, ixV_dd, ixF_t, ixF_l, tupF_t, tupF_l, min2F_i, max2F_i, dmF_i, absF_i, setO_l, inDF_t, inDF_l, notInDF_t, notInDF_l, ite_true, ite_false]
    exact ret_ok (h _)

end DL.R

namespace DL.R
open PySem PySem.Spec PyProof.Rows L2 DL

def top (i : Nat) : Stmt := PySem.Challenge.pw_shortdeeds_k25_least_net_papers.main.body.getD i (.Pass ⟨0, 0, 0, 0⟩)
abbrev s__law_cell : Stmt := top 30
abbrev s__law_mix : Stmt := top 31
abbrev s__law_box : Stmt := top 32
abbrev s__law_take : Stmt := top 33
abbrev s__law_drawn_deed : Stmt := top 34
abbrev s__law_drawn_puzzle : Stmt := top 35
abbrev s__law_undone : Stmt := top 40
abbrev s__law_deeds : Stmt := top 41
abbrev s__law_moved : Stmt := top 39
abbrev s__law_done : Stmt := top 42
abbrev s__law_home : Stmt := top 43
abbrev s__law_letters : Stmt := top 37
abbrev s__law_drawn_word : Stmt := top 38
abbrev s__law_drawn_stand : Stmt := top 36
abbrev s__law_least_net : Stmt := top 44
abbrev s_is_whole : Stmt := top 10
abbrev s_is_deed : Stmt := top 11
abbrev s_is_puzzle : Stmt := top 12
abbrev s_need_puzzle : Stmt := top 13
abbrev s_is_stand_of : Stmt := top 14
abbrev s_need_stand : Stmt := top 15
abbrev s_need_number : Stmt := top 17
abbrev s_need_asked : Stmt := top 26
abbrev s_moved_by : Stmt := top 21
abbrev s_undone : Stmt := top 19
abbrev s_letter_deed : Stmt := top 20
abbrev s_letters_of : Stmt := top 16
abbrev s_further : Stmt := top 24
abbrev s_net_of : Stmt := top 25
abbrev s_meet : Stmt := top 27
abbrev s_home_of : Stmt := top 18
abbrev s_net_paper : Stmt := top 28
abbrev s_law : Stmt := top 45
theorem bt_abs : bootBuiltins "abs" = some (.builtin "abs") := by first | rfl | with_unfolding_all rfl | kernel_rfl
theorem bt_all : bootBuiltins "all" = some (.builtin "all") := by first | rfl | with_unfolding_all rfl | kernel_rfl
theorem bt_any : bootBuiltins "any" = some (.builtin "any") := by first | rfl | with_unfolding_all rfl | kernel_rfl
theorem bt_bool : bootBuiltins "bool" = some (.type "bool") := by first | rfl | with_unfolding_all rfl | kernel_rfl
theorem bt_dict : bootBuiltins "dict" = some (.type "dict") := by first | rfl | with_unfolding_all rfl | kernel_rfl
theorem bt_divmod : bootBuiltins "divmod" = some (.builtin "divmod") := by first | rfl | with_unfolding_all rfl | kernel_rfl
theorem bt_int : bootBuiltins "int" = some (.type "int") := by first | rfl | with_unfolding_all rfl | kernel_rfl
theorem bt_isinstance : bootBuiltins "isinstance" = some (.builtin "isinstance") := by first | rfl | with_unfolding_all rfl | kernel_rfl
theorem bt_len : bootBuiltins "len" = some (.builtin "len") := by first | rfl | with_unfolding_all rfl | kernel_rfl
theorem bt_list : bootBuiltins "list" = some (.type "list") := by first | rfl | with_unfolding_all rfl | kernel_rfl
theorem bt_max : bootBuiltins "max" = some (.builtin "max") := by first | rfl | with_unfolding_all rfl | kernel_rfl
theorem bt_min : bootBuiltins "min" = some (.builtin "min") := by first | rfl | with_unfolding_all rfl | kernel_rfl
theorem bt_range : bootBuiltins "range" = some (.type "range") := by first | rfl | with_unfolding_all rfl | kernel_rfl
theorem bt_repr : bootBuiltins "repr" = some (.builtin "repr") := by first | rfl | with_unfolding_all rfl | kernel_rfl
theorem bt_set : bootBuiltins "set" = some (.type "set") := by first | rfl | with_unfolding_all rfl | kernel_rfl
theorem bt_sorted : bootBuiltins "sorted" = some (.builtin "sorted") := by first | rfl | with_unfolding_all rfl | kernel_rfl
theorem bt_tuple : bootBuiltins "tuple" = some (.type "tuple") := by first | rfl | with_unfolding_all rfl | kernel_rfl
structure Txt (K : PySem.W.Frag) (mg : Str → Option Value) : Prop where
  b_dummy : True
  b_abs : mg "abs" = none
  b_all : mg "all" = none
  b_any : mg "any" = none
  b_bool : mg "bool" = none
  b_dict : mg "dict" = none
  b_divmod : mg "divmod" = none
  b_int : mg "int" = none
  b_isinstance : mg "isinstance" = none
  b_len : mg "len" = none
  b_list : mg "list" = none
  b_max : mg "max" = none
  b_min : mg "min" = none
  b_range : mg "range" = none
  b_repr : mg "repr" = none
  b_set : mg "set" = none
  b_sorted : mg "sorted" = none
  b_tuple : mg "tuple" = none
  k_GREAT : GTup K mg "GREAT" [(("X" : Str)), (("Y" : Str)), (("Z" : Str))]
  k_MOST_DEEDS : ∃ t, mg "MOST_DEEDS" = some (.int 3 t)
  k_MOST_HERE : ∃ t, mg "MOST_HERE" = some (.int 4 t)
  k_MOST_PLACES : ∃ t, mg "MOST_PLACES" = some (.int 5 t)
  k_SMALL : GTup K mg "SMALL" [(("x" : Str)), (("y" : Str)), (("z" : Str))]
section
variable {P : Program} {w : World} {K : PySem.W.Frag} {mg : Str → Option Value} {base : Heap}
abbrev N__law_cell : List Str := ["_law_script", "_law_k"]
theorem sc__law_cell : FnScope N__law_cell ["_law_script", "_law_k"] (defScope s__law_cell) := ⟨rfl, rfl, rfl, by decide +kernel, rfl, by decide +kernel, by decide +kernel⟩
theorem ok__law_cell {f : Addr} {fd : FuncData} (F : Fun K "_law_cell" "_law_cell" s__law_cell f fd) (T : Txt K mg) : FnD P w K mg base 1 f fd ["_law_script", "_law_k"] sp__law_cell :=
  fn_mk F sc__law_cell (fun _ _ _ h => h.1) (fun cdv A outer s H hr hgd =>
    (qss_cons (qs_if (qt_cmp (o_lt hr) (qv 1) (q_c1B c_lenD T.b_len bt_len (qv 0)) (by with_unfolding_all rfl)) (qss_one (qs_ret (q_ix hr (qv 0) (qv 1)))) qss_nil)
    (qss_one (qs_ret q_int)))) (fun _ _ _ h => h.2)

abbrev N__law_mix : List Str := ["_law_cell_here", "_law_k", "_law_some", "_law_stir"]
theorem sc__law_mix : FnScope N__law_mix ["_law_cell_here", "_law_k"] (defScope s__law_mix) := ⟨rfl, rfl, rfl, by decide +kernel, rfl, by decide +kernel, by decide +kernel⟩
theorem ok__law_mix {f : Addr} {fd : FuncData} (F : Fun K "_law_mix" "_law_mix" s__law_mix f fd) (T : Txt K mg) : FnD P w K mg base 1 f fd ["_law_cell_here", "_law_k"] sp__law_mix :=
  fn_mk F sc__law_mix (fun _ _ _ h => h.1) (fun cdv A outer s H hr hgd =>
    (qss_cons (qs_set (i := 2) sc__law_mix.nd (q_pure (ql_disp (qa_cons q_int (qa_cons q_int (qa_cons q_int (qa_cons q_int (qa_cons q_int (qa_cons q_int (qa_cons q_int (qa_cons q_int (qa_cons q_int (qa_cons q_int (qa_cons q_int (qa_cons q_int (qa_cons q_int qa_nil))))))))))))))))
    (qss_cons (qs_set (i := 3) sc__law_mix.nd (q_bin o_add (q_bin o_add (q_bin o_mulI (q_bin o_add (q_bin o_mod (qv 0) q_int) q_int) (q_ix hr (qv 2) (q_bin o_mod (qv 1) q_int))) (q_bin o_mulI q_int (qv 1))) (q_bin o_mulI q_int (q_bin o_fdiv (qv 1) q_int))))
    (qss_cons (qs_set (i := 3) sc__law_mix.nd (q_bin o_mod (qv 3) q_int))
    (qss_one (qs_ret (q_bin o_fdiv (q_bin o_mod (q_bin o_add (q_bin o_mulI (qv 3) (qv 3)) (q_bin o_mulI q_int (qv 1))) q_int) q_int))))))) (fun _ _ _ h => h.2)

abbrev N__law_box : List Str := ["_law_script", "_law_k", "_law_cell_here", "_law_number", "_law_j"]
theorem sc__law_box : FnScope N__law_box ["_law_script", "_law_k"] (defScope s__law_box) := ⟨rfl, rfl, rfl, by decide +kernel, rfl, by decide +kernel, by decide +kernel⟩
theorem ok__law_box {f : Addr} {fd : FuncData} (F : Fun K "_law_box" "_law_box" s__law_box f fd) (T : Txt K mg) (h__law_cell : Fd P w K mg base 1 "_law_cell" ["_law_script", "_law_k"] sp__law_cell) (h__law_mix : Fd P w K mg base 1 "_law_mix" ["_law_cell_here", "_law_k"] sp__law_mix) : FnD P w K mg base 2 f fd ["_law_script", "_law_k"] sp__law_box :=
  fn_mk F sc__law_box (fun _ _ _ h => h.1) (fun cdv A outer s H hr hgd =>
    (qss_cons (qs_set (i := 2) sc__law_box.nd (q_def h__law_cell hr hgd (by decide) (qa_cons (qv 0) (qa_cons (qv 1) qa_nil))))
    (qss_cons (qs_if (qt_cmp (o_eq hr) (q_bin o_mod (qv 2) q_int) q_int (by with_unfolding_all rfl)) (qss_one (qs_ret (q_mut (ql_disp (qa_cons (q_bin o_fdiv (q_c1B c_abs T.b_abs bt_abs (qv 2)) q_int) qa_nil))))) qss_nil)
    (qss_cons (qs_set (i := 3) sc__law_box.nd q_int)
    (qss_cons (qs_for PassesOwn.never rfl (qi_rg1 T.b_range q_int) (qg_name (i := 4) sc__law_box.nd)
    (qss_one (qs_set (i := 3) sc__law_box.nd (q_bin o_add (q_bin o_mulI (qv 3) q_int) (q_def h__law_mix hr hgd (by decide) (qa_cons (qv 2) (qa_cons (qv 4) qa_nil)))))))
    (qss_one (qs_ret (q_mut (ql_disp (qa_cons (qv 3) qa_nil)))))))))) (fun _ _ _ h => h.2)

abbrev N__law_take : List Str := ["_law_box_here", "_law_many", "_law_left", "_law_digit"]
theorem sc__law_take : FnScope N__law_take ["_law_box_here", "_law_many"] (defScope s__law_take) := ⟨rfl, rfl, rfl, by decide +kernel, rfl, by decide +kernel, by decide +kernel⟩
theorem ok__law_take {f : Addr} {fd : FuncData} (F : Fun K "_law_take" "_law_take" s__law_take f fd) (T : Txt K mg) : FnD P w K mg base 1 f fd ["_law_box_here", "_law_many"] sp__law_take :=
  fn_mk F sc__law_take (fun _ _ _ h => h.1) (fun cdv A outer s H hr hgd =>
    (qss_cons (qs_asg (q_c2B c_divmod T.b_divmod bt_divmod (q_ix hr (qv 0) q_int) (qv 1)) (qg_tup rfl (qgs_cons (qg_name (i := 2) sc__law_take.nd) (qgs_cons (qg_name (i := 3) sc__law_take.nd) qgs_nil))))
    (qss_cons (qs_asg (qv 2) (qg_ix hr (qv 0) q_int))
    (qss_one (qs_ret (qv 3)))))) (fun _ _ _ h => h.2)

abbrev N__law_drawn_deed : List Str := ["_law_box_here", "_law_many", "_law_left", "_law_way", "_law_drawn", "_law_found", "_law_size", "_law_at", "_law_place"]
theorem sc__law_drawn_deed : FnScope N__law_drawn_deed ["_law_box_here", "_law_many"] (defScope s__law_drawn_deed) := ⟨rfl, rfl, rfl, by decide +kernel, rfl, by decide +kernel, by decide +kernel⟩
theorem ok__law_drawn_deed {f : Addr} {fd : FuncData} (F : Fun K "_law_drawn_deed" "_law_drawn_deed" s__law_drawn_deed f fd) (T : Txt K mg) (h__law_take : Fd P w K mg base 1 "_law_take" ["_law_box_here", "_law_many"] sp__law_take) : FnD P w K mg base 2 f fd ["_law_box_here", "_law_many"] sp__law_drawn_deed :=
  fn_mk F sc__law_drawn_deed (fun _ _ _ h => h.1) (fun cdv A outer s H hr hgd =>
    (qss_cons (qs_set (i := 2) sc__law_drawn_deed.nd (q_mut (ql_listRg rfl T.b_list (qr_1 T.b_range (qv 1)))))
    (qss_cons (qs_set (i := 3) sc__law_drawn_deed.nd (q_def h__law_take hr hgd (by decide) (qa_cons (qv 0) (qa_cons q_int qa_nil))))
    (qss_cons (qs_setLcP (i := 4) (own := [("_law_place", 8)]) rfl sc__law_drawn_deed.nd (qi_rg1 T.b_range (qv 1)) (blkOk_by (N := N__law_drawn_deed) (sc := defScope s__law_drawn_deed) (by decide +kernel)) (fun _ _ _ _ _ => (qgw_name (i := 8) sc__law_drawn_deed.nd (by decide))) (fun _ _ _ _ _ => qts_nil) (fun _ _ _ _ _ => (q_popAt (qv 2) (q_def h__law_take hr hgd (by decide) (qa_cons (qv 0) (qa_cons (q_c1B c_lenD T.b_len bt_len (qv 2)) qa_nil))))))
    (qss_cons (qs_set (i := 5) sc__law_drawn_deed.nd (q_mut (ql_listRg rfl T.b_list (qr_1 T.b_range (qv 1)))))
    (qss_cons (qs_if (PW.pt (qw_or (qt_cmp (o_eq hr) (qv 3) q_int (by with_unfolding_all rfl)) (qw_or1 (qt_cmp (o_eq hr) (qv 1) q_int (by with_unfolding_all rfl))))) (qss_one (qs_ret (q_c1T c_tuple T.b_tuple bt_tuple (qv 4)))) qss_nil)
    (qss_cons (qs_set (i := 6) sc__law_drawn_deed.nd (q_c2B (c_min2 rfl) T.b_min bt_min (qv 1) (q_ix hr (q_pure (ql_disp (qa_cons q_int (qa_cons q_int (qa_cons (qv 1) (qa_cons q_int qa_nil)))))) (q_bin o_sub (qv 3) q_int))))
    (qss_cons (qs_for PassesOwn.never rfl (qi_rg1 T.b_range (qv 6)) (qg_name (i := 7) sc__law_drawn_deed.nd)
    (qss_one (qs_asg (q_ix hr (qv 4) (q_bin o_mod (q_bin o_add (qv 7) q_int) (qv 6))) (qg_ix hr (qv 5) (q_ix hr (qv 4) (qv 7))))))
    (qss_one (qs_ret (q_c1T c_tuple T.b_tuple bt_tuple (qv 5)))))))))))) (fun _ _ _ h => h.2)

abbrev N__law_drawn_puzzle : List Str := ["_law_box_here", "_law_most", "_law_many", "_law_found", "_law_turn"]
theorem sc__law_drawn_puzzle : FnScope N__law_drawn_puzzle ["_law_box_here", "_law_most"] (defScope s__law_drawn_puzzle) := ⟨rfl, rfl, rfl, by decide +kernel, rfl, by decide +kernel, by decide +kernel⟩
theorem ok__law_drawn_puzzle {f : Addr} {fd : FuncData} (F : Fun K "_law_drawn_puzzle" "_law_drawn_puzzle" s__law_drawn_puzzle f fd) (T : Txt K mg) (h__law_take : Fd P w K mg base 1 "_law_take" ["_law_box_here", "_law_many"] sp__law_take) (h__law_drawn_deed : Fd P w K mg base 2 "_law_drawn_deed" ["_law_box_here", "_law_many"] sp__law_drawn_deed) : FnD P w K mg base 3 f fd ["_law_box_here", "_law_most"] sp__law_drawn_puzzle :=
  fn_mk F sc__law_drawn_puzzle (fun _ _ _ h => h.1) (fun cdv A outer s H hr hgd =>
    (qss_cons (qs_set (i := 2) sc__law_drawn_puzzle.nd (q_bin o_add q_int (q_def h__law_take hr hgd (by decide) (qa_cons (qv 0) (qa_cons (qv 1) qa_nil)))))
    (qss_cons (qs_set (i := 3) sc__law_drawn_puzzle.nd (q_mut (ql_disp qa_nil)))
    (qss_cons (qs_for PassesOwn.never rfl (qi_rg1 T.b_range (q_bin o_add q_int (q_def h__law_take hr hgd (by decide) (qa_cons (qv 0) (qa_cons q_int qa_nil))))) (qg_name (i := 4) sc__law_drawn_puzzle.nd)
    (qss_one (qs_expr (q_append (qv 3) (q_def h__law_drawn_deed hr hgd (by decide) (qa_cons (qv 0) (qa_cons (qv 2) qa_nil)))))))
    (qss_one (qs_ret (q_c1T c_tuple T.b_tuple bt_tuple (qv 3)))))))) (fun _ _ _ h => h.2)

abbrev N__law_undone : List Str := ["_law_deed", "_law_found", "_law_place"]
theorem sc__law_undone : FnScope N__law_undone ["_law_deed"] (defScope s__law_undone) := ⟨rfl, rfl, rfl, by decide +kernel, rfl, by decide +kernel, by decide +kernel⟩
theorem ok__law_undone {f : Addr} {fd : FuncData} (F : Fun K "_law_undone" "_law_undone" s__law_undone f fd) (T : Txt K mg) : FnD P w K mg base 1 f fd ["_law_deed"] sp__law_undone :=
  fn_mk F sc__law_undone (fun _ _ _ h => h.1) (fun cdv A outer s H hr hgd =>
    (qss_cons (qs_set (i := 1) sc__law_undone.nd (q_mut (ql_rep (q_mut (ql_disp (qa_cons q_int qa_nil))) (q_c1B c_lenD T.b_len bt_len (qv 0)))))
    (qss_cons (qs_for PassesOwn.never rfl (qi_rg1 T.b_range (q_c1B c_lenD T.b_len bt_len (qv 0))) (qg_name (i := 2) sc__law_undone.nd)
    (qss_one (qs_asg (qv 2) (qg_ix hr (qv 1) (q_ix hr (qv 0) (qv 2))))))
    (qss_one (qs_ret (q_c1T c_tuple T.b_tuple bt_tuple (qv 1))))))) (fun _ _ _ h => h.2)

abbrev N__law_deeds : List Str := ["_law_puzzle", "_law_found", "_law_at"]
theorem sc__law_deeds : FnScope N__law_deeds ["_law_puzzle"] (defScope s__law_deeds) := ⟨rfl, rfl, rfl, by decide +kernel, rfl, by decide +kernel, by decide +kernel⟩
theorem ok__law_deeds {f : Addr} {fd : FuncData} (F : Fun K "_law_deeds" "_law_deeds" s__law_deeds f fd) (T : Txt K mg) (h__law_undone : Fd P w K mg base 1 "_law_undone" ["_law_deed"] sp__law_undone) : FnD P w K mg base 2 f fd ["_law_puzzle"] sp__law_deeds :=
  fn_mk F sc__law_deeds (fun _ _ _ h => h.1) (fun cdv A outer s H hr hgd =>
    (qss_cons (qs_setLcP (i := 1) (own := [("_law_at", 2)]) rfl sc__law_deeds.nd (qi_rg1 T.b_range (q_c1B c_lenD T.b_len bt_len (qv 0))) (blkOk_by (N := N__law_deeds) (sc := defScope s__law_deeds) (by decide +kernel)) (fun _ _ _ _ _ => (qgw_name (i := 2) sc__law_deeds.nd (by decide))) (fun _ _ _ _ _ => qts_nil) (fun _ _ _ _ _ => (q_tup (qa_cons (q_ix hr (q_pure (ql_disp (qa_cons q_str (qa_cons q_str (qa_cons q_str qa_nil))))) (qv 2)) (qa_cons (q_def h__law_undone hr hgd (by decide) (qa_cons (q_ix hr (qv 0) (qv 2)) qa_nil)) qa_nil)))))
    (qss_one (qs_ret (q_pure (ql_cat (qv 1) (q_pure (ql_lc (own := [("_law_at", 2)]) rfl sc__law_deeds.nd (qi_rg1 T.b_range (q_c1B c_lenD T.b_len bt_len (qv 0))) (blkOk_by (N := N__law_deeds) (sc := defScope s__law_deeds) (by decide +kernel)) (fun _ _ _ _ _ => (qgw_name (i := 2) sc__law_deeds.nd (by decide))) (fun _ _ _ _ _ => qts_nil) (fun _ _ _ _ _ => (q_tup (qa_cons (q_ix hr (q_pure (ql_disp (qa_cons q_str (qa_cons q_str (qa_cons q_str qa_nil))))) (qv 2)) (qa_cons (q_ix hr (qv 0) (qv 2)) qa_nil)))))))))))) (fun _ _ _ h => h.2)

abbrev N__law_moved : List Str := ["_law_stand", "_law_deed", "_law_place"]
theorem sc__law_moved : FnScope N__law_moved ["_law_stand", "_law_deed"] (defScope s__law_moved) := ⟨rfl, rfl, rfl, by decide +kernel, rfl, by decide +kernel, by decide +kernel⟩
theorem ok__law_moved {f : Addr} {fd : FuncData} (F : Fun K "_law_moved" "_law_moved" s__law_moved f fd) (T : Txt K mg) : FnD P w K mg base 1 f fd ["_law_stand", "_law_deed"] sp__law_moved :=
  fn_mk F sc__law_moved (fun _ _ _ h => h.1) (fun cdv A outer s H hr hgd =>
    (qss_one (qs_ret (q_c1T c_tuple T.b_tuple bt_tuple (q_pure (ql_lc (own := [("_law_place", 2)]) rfl sc__law_moved.nd (qi_data (qv 1)) (blkOk_by (N := N__law_moved) (sc := defScope s__law_moved) (by decide +kernel)) (fun _ _ _ _ _ => (qgw_name (i := 2) sc__law_moved.nd (by decide))) (fun _ _ _ _ _ => qts_nil) (fun _ _ _ _ _ => (q_ix hr (qv 0) (qv 2))))))))) (fun _ _ _ h => h.2)

abbrev N__law_done : List Str := ["_law_puzzle", "_law_stand", "_law_word", "_law_deeds_here", "_law_letter"]
theorem sc__law_done : FnScope N__law_done ["_law_puzzle", "_law_stand", "_law_word"] (defScope s__law_done) := ⟨rfl, rfl, rfl, by decide +kernel, rfl, by decide +kernel, by decide +kernel⟩
theorem ok__law_done {f : Addr} {fd : FuncData} (F : Fun K "_law_done" "_law_done" s__law_done f fd) (T : Txt K mg) (h__law_deeds : Fd P w K mg base 2 "_law_deeds" ["_law_puzzle"] sp__law_deeds) (h__law_moved : Fd P w K mg base 1 "_law_moved" ["_law_stand", "_law_deed"] sp__law_moved) : FnD P w K mg base 3 f fd ["_law_puzzle", "_law_stand", "_law_word"] sp__law_done :=
  fn_mk F sc__law_done (fun _ _ _ h => h.1) (fun cdv A outer s H hr hgd =>
    (qss_cons (qs_set (i := 3) sc__law_done.nd (q_fz (q_dictP hr rfl T.b_dict bt_dict (q_def h__law_deeds hr hgd (by decide) (qa_cons (qv 0) qa_nil)))))
    (qss_cons (qs_for PassesOwn.never rfl (qi_data (qv 2)) (qg_name (i := 4) sc__law_done.nd)
    (qss_one (qs_set (i := 1) sc__law_done.nd (q_def h__law_moved hr hgd (by decide) (qa_cons (qv 1) (qa_cons (q_ix hr (qv 3) (qv 4)) qa_nil))))))
    (qss_one (qs_ret (qv 1)))))) (fun _ _ _ h => h.2)

abbrev N__law_home : List Str := ["_law_puzzle"]
theorem sc__law_home : FnScope N__law_home ["_law_puzzle"] (defScope s__law_home) := ⟨rfl, rfl, rfl, by decide +kernel, rfl, by decide +kernel, by decide +kernel⟩
theorem ok__law_home {f : Addr} {fd : FuncData} (F : Fun K "_law_home" "_law_home" s__law_home f fd) (T : Txt K mg) : FnD P w K mg base 1 f fd ["_law_puzzle"] sp__law_home :=
  fn_mk F sc__law_home (fun _ _ _ h => h.1) (fun cdv A outer s H hr hgd =>
    (qss_one (qs_ret (q_tupRg rfl T.b_tuple (qr_1 T.b_range (q_c1B c_lenD T.b_len bt_len (q_ix hr (qv 0) q_int))))))) (fun _ _ _ h => h.2)

abbrev N__law_letters : List Str := ["_law_puzzle"]
theorem sc__law_letters : FnScope N__law_letters ["_law_puzzle"] (defScope s__law_letters) := ⟨rfl, rfl, rfl, by decide +kernel, rfl, by decide +kernel, by decide +kernel⟩
theorem ok__law_letters {f : Addr} {fd : FuncData} (F : Fun K "_law_letters" "_law_letters" s__law_letters f fd) (T : Txt K mg) : FnD P w K mg base 1 f fd ["_law_puzzle"] sp__law_letters :=
  fn_mk F sc__law_letters (fun _ _ _ h => h.1) (fun cdv A outer s H hr hgd =>
    (qss_one (qs_ret (q_pure (ql_cat (q_pure (ql_sl (q_pure (ql_disp (qa_cons q_str (qa_cons q_str (qa_cons q_str qa_nil))))) qo_none (qo_some (q_c1B c_lenD T.b_len bt_len (qv 0))))) (q_pure (ql_sl (q_pure (ql_disp (qa_cons q_str (qa_cons q_str (qa_cons q_str qa_nil))))) qo_none (qo_some (q_c1B c_lenD T.b_len bt_len (qv 0)))))))))) (fun _ _ _ h => h.2)

abbrev N__law_drawn_word : List Str := ["_law_box_here", "_law_puzzle", "_law_most", "_law_found", "_law_turn"]
theorem sc__law_drawn_word : FnScope N__law_drawn_word ["_law_box_here", "_law_puzzle", "_law_most"] (defScope s__law_drawn_word) := ⟨rfl, rfl, rfl, by decide +kernel, rfl, by decide +kernel, by decide +kernel⟩
theorem ok__law_drawn_word {f : Addr} {fd : FuncData} (F : Fun K "_law_drawn_word" "_law_drawn_word" s__law_drawn_word f fd) (T : Txt K mg) (h__law_take : Fd P w K mg base 1 "_law_take" ["_law_box_here", "_law_many"] sp__law_take) (h__law_letters : Fd P w K mg base 1 "_law_letters" ["_law_puzzle"] sp__law_letters) : FnD P w K mg base 2 f fd ["_law_box_here", "_law_puzzle", "_law_most"] sp__law_drawn_word :=
  fn_mk F sc__law_drawn_word (fun _ _ _ h => h.1) (fun cdv A outer s H hr hgd =>
    (qss_cons (qs_set (i := 3) sc__law_drawn_word.nd q_str)
    (qss_cons (qs_for PassesOwn.never rfl (qi_rg1 T.b_range (q_def h__law_take hr hgd (by decide) (qa_cons (qv 0) (qa_cons (q_bin o_add (qv 2) q_int) qa_nil)))) (qg_name (i := 4) sc__law_drawn_word.nd)
    (qss_one (qs_set (i := 3) sc__law_drawn_word.nd (q_bin o_add (qv 3) (q_ix hr (q_def h__law_letters hr hgd (by decide) (qa_cons (qv 1) qa_nil)) (q_def h__law_take hr hgd (by decide) (qa_cons (qv 0) (qa_cons (q_bin o_mulI q_int (q_c1B c_lenD T.b_len bt_len (qv 1))) qa_nil))))))))
    (qss_one (qs_ret (qv 3)))))) (fun _ _ _ h => h.2)

abbrev N__law_drawn_stand : List Str := ["_law_box_here", "_law_puzzle", "_law_left", "_law_found"]
theorem sc__law_drawn_stand : FnScope N__law_drawn_stand ["_law_box_here", "_law_puzzle"] (defScope s__law_drawn_stand) := ⟨rfl, rfl, rfl, by decide +kernel, rfl, by decide +kernel, by decide +kernel⟩
theorem ok__law_drawn_stand {f : Addr} {fd : FuncData} (F : Fun K "_law_drawn_stand" "_law_drawn_stand" s__law_drawn_stand f fd) (T : Txt K mg) (h__law_take : Fd P w K mg base 1 "_law_take" ["_law_box_here", "_law_many"] sp__law_take) : FnD P w K mg base 2 f fd ["_law_box_here", "_law_puzzle"] sp__law_drawn_stand :=
  fn_mk F sc__law_drawn_stand (fun _ _ _ h => h.1) (fun cdv A outer s H hr hgd =>
    (qss_cons (qs_set (i := 2) sc__law_drawn_stand.nd (q_mut (ql_listRg rfl T.b_list (qr_1 T.b_range (q_c1B c_lenD T.b_len bt_len (q_ix hr (qv 1) q_int))))))
    (qss_cons (qs_set (i := 3) sc__law_drawn_stand.nd (q_mut (ql_disp qa_nil)))
    (qss_cons (qs_while PassesOwn.never (qt_cmp (o_ne hr) (qv 2) (q_pure (ql_disp qa_nil)) (by with_unfolding_all rfl)) (qss_one (qs_expr (q_append (qv 3) (q_popAt (qv 2) (q_def h__law_take hr hgd (by decide) (qa_cons (qv 0) (qa_cons (q_c1B c_lenD T.b_len bt_len (qv 2)) qa_nil))))))))
    (qss_one (qs_ret (q_c1T c_tuple T.b_tuple bt_tuple (qv 3)))))))) (fun _ _ _ h => h.2)

abbrev N__law_least_net : List Str := ["_law_puzzle", "_law_stand", "_law_number", "_law_found", "_law_turn", "_law_later", "_law_one", "_law_letter", "_law_deed"]
theorem sc__law_least_net : FnScope N__law_least_net ["_law_puzzle", "_law_stand", "_law_number"] (defScope s__law_least_net) := ⟨rfl, rfl, rfl, by decide +kernel, rfl, by decide +kernel, by decide +kernel⟩
theorem ok__law_least_net {f : Addr} {fd : FuncData} (F : Fun K "_law_least_net" "_law_least_net" s__law_least_net f fd) (T : Txt K mg) (h__law_moved : Fd P w K mg base 1 "_law_moved" ["_law_stand", "_law_deed"] sp__law_moved) (h__law_deeds : Fd P w K mg base 2 "_law_deeds" ["_law_puzzle"] sp__law_deeds) : FnD P w K mg base 3 f fd ["_law_puzzle", "_law_stand", "_law_number"] sp__law_least_net :=
  fn_mk F sc__law_least_net (fun _ _ _ h => h.1) (fun cdv A outer s H hr hgd =>
    (qss_cons (qs_set (i := 3) sc__law_least_net.nd (q_mut (ql_disp (qa_cons (q_tup (qa_cons (qv 1) qa_nil)) qa_nil))))
    (qss_cons (qs_for PassesOwn.never rfl (qi_rg1 T.b_range (qv 2)) (qg_name (i := 4) sc__law_least_net.nd)
    (qss_cons (qs_set (i := 5) sc__law_least_net.nd (q_pure (ql_l1T (c_list rfl) T.b_list bt_list (q_ix hr (qv 3) (q_neg q_int)))))
    (qss_cons (qs_for PassesOwn.never rfl (qi_data (q_ix hr (qv 3) (q_neg q_int))) (qg_name (i := 6) sc__law_least_net.nd)
    (qss_one (qs_set (i := 5) sc__law_least_net.nd (q_pure (ql_cat (qv 5) (q_pure (ql_lc (own := [("_law_letter", 7), ("_law_deed", 8)]) rfl sc__law_least_net.nd (qi_data (q_def h__law_deeds hr hgd (by decide) (qa_cons (qv 0) qa_nil))) (blkOk_by (N := N__law_least_net) (sc := defScope s__law_least_net) (by decide +kernel)) (fun _ _ _ _ _ => (qgw_tup rfl (qgsw_cons (qgw_name (i := 7) sc__law_least_net.nd (by decide)) (qgsw_cons (qgw_name (i := 8) sc__law_least_net.nd (by decide)) qgsw_nil)))) (fun _ _ _ _ _ => qts_nil) (fun _ _ _ _ _ => (q_def h__law_moved hr hgd (by decide) (qa_cons (qv 6) (qa_cons (qv 8) qa_nil)))))))))))
    (qss_one (qs_expr (q_append (qv 3) (q_c1T c_tuple T.b_tuple bt_tuple (q_pure (ql_sortsetT rfl hr T.b_sorted bt_sorted T.b_set bt_set (qv 5))))))))))
    (qss_one (qs_ret (q_c1T c_tuple T.b_tuple bt_tuple (qv 3))))))) (fun _ _ _ h => h.2)

abbrev N_is_whole : List Str := ["thing"]
theorem sc_is_whole : FnScope N_is_whole ["thing"] (defScope s_is_whole) := ⟨rfl, rfl, rfl, by decide +kernel, rfl, by decide +kernel, by decide +kernel⟩
theorem ok_is_whole {f : Addr} {fd : FuncData} (F : Fun K "is_whole" "is_whole" s_is_whole f fd) (T : Txt K mg) : FnD P w K mg base 1 f fd ["thing"] sp_is_whole :=
  fn_mk F sc_is_whole (fun _ _ _ h => h.1) (fun cdv A outer s H hr hgd =>
    (qss_one (qs_ret (q_and (q_isi (T := "int") T.b_isinstance bt_isinstance T.b_int bt_int (qv 0)) (q_one (q_not (q_isi (T := "bool") T.b_isinstance bt_isinstance T.b_bool bt_bool (qv 0)))))))) (fun _ _ _ h => h.2)

abbrev N_is_deed : List Str := ["thing", "one"]
theorem sc_is_deed : FnScope N_is_deed ["thing"] (defScope s_is_deed) := ⟨rfl, rfl, rfl, by decide +kernel, rfl, by decide +kernel, by decide +kernel⟩
theorem ok_is_deed {f : Addr} {fd : FuncData} (F : Fun K "is_deed" "is_deed" s_is_deed f fd) (T : Txt K mg) (h_is_whole : Fd P w K mg base 1 "is_whole" ["thing"] sp_is_whole) : FnD P w K mg base 2 f fd ["thing"] sp_is_deed :=
  fn_mk F sc_is_deed (fun _ _ _ h => h.1) (fun cdv A outer s H hr hgd =>
    (qss_cons (qs_if (PW.pt (qw_or (qt_not (qt_val (q_isi (T := "tuple") T.b_isinstance bt_isinstance T.b_tuple bt_tuple (qv 0)))) (qw_or1 (qt_not (qt_chain o_le o_le q_int (q_c1B c_lenD T.b_len bt_len (qv 0)) (q_gint T.k_MOST_PLACES)))))) (qss_one (qs_ret q_bl)) qss_nil)
    (qss_one (qs_ret (q_and (q_c1B (c_all rfl) T.b_all bt_all (q_pure (ql_lc (own := [("one", 1)]) rfl sc_is_deed.nd (qi_data (qv 0)) (blkOk_by (N := N_is_deed) (sc := defScope s_is_deed) (by decide +kernel)) (fun _ _ _ _ _ => (qgw_name (i := 1) sc_is_deed.nd (by decide))) (fun _ _ _ _ _ => qts_nil) (fun _ _ _ _ _ => (q_def h_is_whole hr hgd (by decide) (qa_cons (qv 1) qa_nil)))))) (q_one (q_cmp (o_eq hr) (q_pure (ql_l1B (c_sorted rfl hr) T.b_sorted bt_sorted (qv 0))) (q_pure (ql_listRg rfl T.b_list (qr_1 T.b_range (q_c1B c_lenD T.b_len bt_len (qv 0))))) (by with_unfolding_all rfl)))))))) (fun _ _ _ h => h.2)

abbrev N_is_puzzle : List Str := ["thing", "one"]
theorem sc_is_puzzle : FnScope N_is_puzzle ["thing"] (defScope s_is_puzzle) := ⟨rfl, rfl, rfl, by decide +kernel, rfl, by decide +kernel, by decide +kernel⟩
theorem ok_is_puzzle {f : Addr} {fd : FuncData} (F : Fun K "is_puzzle" "is_puzzle" s_is_puzzle f fd) (T : Txt K mg) (h_is_deed : Fd P w K mg base 2 "is_deed" ["thing"] sp_is_deed) : FnD P w K mg base 3 f fd ["thing"] sp_is_puzzle :=
  fn_mk F sc_is_puzzle (fun _ _ _ h => h.1) (fun cdv A outer s H hr hgd =>
    (qss_cons (qs_if (PW.pt (qw_or (qt_not (qt_val (q_isi (T := "tuple") T.b_isinstance bt_isinstance T.b_tuple bt_tuple (qv 0)))) (qw_or (qt_not (qt_chain o_le o_le q_int (q_c1B c_lenD T.b_len bt_len (qv 0)) (q_gint T.k_MOST_DEEDS))) (qw_or1 (qt_not (qt_val (q_c1B (c_all rfl) T.b_all bt_all (q_pure (ql_lc (own := [("one", 1)]) rfl sc_is_puzzle.nd (qi_data (qv 0)) (blkOk_by (N := N_is_puzzle) (sc := defScope s_is_puzzle) (by decide +kernel)) (fun _ _ _ _ _ => (qgw_name (i := 1) sc_is_puzzle.nd (by decide))) (fun _ _ _ _ _ => qts_nil) (fun _ _ _ _ _ => (q_def h_is_deed hr hgd (by decide) (qa_cons (qv 1) qa_nil)))))))))))) (qss_one (qs_ret q_bl)) qss_nil)
    (qss_one (qs_ret (q_c1B (c_all rfl) T.b_all bt_all (q_pure (ql_lc (own := [("one", 1)]) rfl sc_is_puzzle.nd (qi_data (qv 0)) (blkOk_by (N := N_is_puzzle) (sc := defScope s_is_puzzle) (by decide +kernel)) (fun _ _ _ _ _ => (qgw_name (i := 1) sc_is_puzzle.nd (by decide))) (fun _ _ _ _ _ => qts_nil) (fun _ _ _ _ _ => (q_cmp (o_eq hr) (q_c1B c_lenD T.b_len bt_len (qv 1)) (q_c1B c_lenD T.b_len bt_len (q_ix hr (qv 0) q_int)) (by with_unfolding_all rfl)))))))))) (fun _ _ _ h => h.2)

abbrev N_need_puzzle : List Str := ["puzzle"]
theorem sc_need_puzzle : FnScope N_need_puzzle ["puzzle"] (defScope s_need_puzzle) := ⟨rfl, rfl, rfl, by decide +kernel, rfl, by decide +kernel, by decide +kernel⟩
theorem ok_need_puzzle {f : Addr} {fd : FuncData} (F : Fun K "need_puzzle" "need_puzzle" s_need_puzzle f fd) (T : Txt K mg) (h_is_puzzle : Fd P w K mg base 3 "is_puzzle" ["thing"] sp_is_puzzle) : FnD P w K mg base 4 f fd ["puzzle"] sp_need_puzzle :=
  fn_mk F sc_need_puzzle (fun _ _ _ h => h.1) (fun cdv A outer s H hr hgd =>
    (qss_one (qs_if (qt_not (qt_val (q_def h_is_puzzle hr hgd (by decide) (qa_cons (qv 0) qa_nil)))) (qss_one qs_never) qss_nil))) (fun _ _ _ h => h.2)

abbrev N_is_stand_of : List Str := ["thing", "puzzle"]
theorem sc_is_stand_of : FnScope N_is_stand_of ["thing", "puzzle"] (defScope s_is_stand_of) := ⟨rfl, rfl, rfl, by decide +kernel, rfl, by decide +kernel, by decide +kernel⟩
theorem ok_is_stand_of {f : Addr} {fd : FuncData} (F : Fun K "is_stand_of" "is_stand_of" s_is_stand_of f fd) (T : Txt K mg) (h_is_deed : Fd P w K mg base 2 "is_deed" ["thing"] sp_is_deed) : FnD P w K mg base 3 f fd ["thing", "puzzle"] sp_is_stand_of :=
  fn_mk F sc_is_stand_of (fun _ _ _ h => h.1) (fun cdv A outer s H hr hgd =>
    (qss_one (qs_ret (q_and (q_def h_is_deed hr hgd (by decide) (qa_cons (qv 0) qa_nil)) (q_one (q_cmp (o_eq hr) (q_c1B c_lenD T.b_len bt_len (qv 0)) (q_c1B c_lenD T.b_len bt_len (q_ix hr (qv 1) q_int)) (by with_unfolding_all rfl))))))) (fun _ _ _ h => h.2)

abbrev N_need_stand : List Str := ["puzzle", "stand"]
theorem sc_need_stand : FnScope N_need_stand ["puzzle", "stand"] (defScope s_need_stand) := ⟨rfl, rfl, rfl, by decide +kernel, rfl, by decide +kernel, by decide +kernel⟩
theorem ok_need_stand {f : Addr} {fd : FuncData} (F : Fun K "need_stand" "need_stand" s_need_stand f fd) (T : Txt K mg) (h_is_stand_of : Fd P w K mg base 3 "is_stand_of" ["thing", "puzzle"] sp_is_stand_of) : FnD P w K mg base 4 f fd ["puzzle", "stand"] sp_need_stand :=
  fn_mk F sc_need_stand (fun _ _ _ h => h.1) (fun cdv A outer s H hr hgd =>
    (qss_one (qs_if (qt_not (qt_val (q_def h_is_stand_of hr hgd (by decide) (qa_cons (qv 1) (qa_cons (qv 0) qa_nil))))) (qss_one qs_never) qss_nil))) (fun _ _ _ h => h.2)

abbrev N_need_number : List Str := ["number", "most"]
theorem sc_need_number : FnScope N_need_number ["number", "most"] (defScope s_need_number) := ⟨rfl, rfl, rfl, by decide +kernel, rfl, by decide +kernel, by decide +kernel⟩
theorem ok_need_number {f : Addr} {fd : FuncData} (F : Fun K "need_number" "need_number" s_need_number f fd) (T : Txt K mg) (h_is_whole : Fd P w K mg base 1 "is_whole" ["thing"] sp_is_whole) : FnD P w K mg base 2 f fd ["number", "most"] sp_need_number :=
  fn_mk F sc_need_number (fun _ _ _ h => h.1) (fun cdv A outer s H hr hgd =>
    (qss_one (qs_if (PW.pt (qw_or (qt_not (qt_val (q_def h_is_whole hr hgd (by decide) (qa_cons (qv 0) qa_nil)))) (qw_or1 (qt_not (qt_chain o_le o_le q_int (qv 0) (qv 1)))))) (qss_one qs_never) qss_nil))) (fun _ _ _ h => h.2)

abbrev N_need_asked : List Str := ["puzzle", "stand", "number"]
theorem sc_need_asked : FnScope N_need_asked ["puzzle", "stand", "number"] (defScope s_need_asked) := ⟨rfl, rfl, rfl, by decide +kernel, rfl, by decide +kernel, by decide +kernel⟩
theorem ok_need_asked {f : Addr} {fd : FuncData} (F : Fun K "need_asked" "need_asked" s_need_asked f fd) (T : Txt K mg) (h_need_puzzle : Fd P w K mg base 4 "need_puzzle" ["puzzle"] sp_need_puzzle) (h_need_stand : Fd P w K mg base 4 "need_stand" ["puzzle", "stand"] sp_need_stand) (h_need_number : Fd P w K mg base 2 "need_number" ["number", "most"] sp_need_number) : FnD P w K mg base 5 f fd ["puzzle", "stand", "number"] sp_need_asked :=
  fn_mk F sc_need_asked (fun _ _ _ h => h.1) (fun cdv A outer s H hr hgd =>
    (qss_cons (qs_expr (q_def h_need_puzzle hr hgd (by decide) (qa_cons (qv 0) qa_nil)))
    (qss_cons (qs_expr (q_def h_need_stand hr hgd (by decide) (qa_cons (qv 0) (qa_cons (qv 1) qa_nil))))
    (qss_one (qs_expr (q_def h_need_number hr hgd (by decide) (qa_cons (qv 2) (qa_cons (q_gint T.k_MOST_HERE) qa_nil)))))))) (fun _ _ _ h => h.2)

abbrev N_moved_by : List Str := ["stand", "deed", "place"]
theorem sc_moved_by : FnScope N_moved_by ["stand", "deed"] (defScope s_moved_by) := ⟨rfl, rfl, rfl, by decide +kernel, rfl, by decide +kernel, by decide +kernel⟩
theorem ok_moved_by {f : Addr} {fd : FuncData} (F : Fun K "moved_by" "moved_by" s_moved_by f fd) (T : Txt K mg) : FnD P w K mg base 1 f fd ["stand", "deed"] sp_moved_by :=
  fn_mk F sc_moved_by (fun _ _ _ h => h.1) (fun cdv A outer s H hr hgd =>
    (qss_one (qs_ret (q_c1T c_tuple T.b_tuple bt_tuple (q_pure (ql_lc (own := [("place", 2)]) rfl sc_moved_by.nd (qi_data (qv 1)) (blkOk_by (N := N_moved_by) (sc := defScope s_moved_by) (by decide +kernel)) (fun _ _ _ _ _ => (qgw_name (i := 2) sc_moved_by.nd (by decide))) (fun _ _ _ _ _ => qts_nil) (fun _ _ _ _ _ => (q_ix hr (qv 0) (qv 2))))))))) (fun _ _ _ h => h.2)

abbrev N_undone : List Str := ["deed", "place"]
theorem sc_undone : FnScope N_undone ["deed"] (defScope s_undone) := ⟨rfl, rfl, rfl, by decide +kernel, rfl, by decide +kernel, by decide +kernel⟩
theorem ok_undone {f : Addr} {fd : FuncData} (F : Fun K "undone" "undone" s_undone f fd) (T : Txt K mg) : FnD P w K mg base 1 f fd ["deed"] sp_undone :=
  fn_mk F sc_undone (fun _ _ _ h => h.1) (fun cdv A outer s H hr hgd =>
    (qss_one (qs_ret (q_c1T c_tuple T.b_tuple bt_tuple (q_pure (ql_lc (own := [("place", 1)]) rfl sc_undone.nd (qi_rg1 T.b_range (q_c1B c_lenD T.b_len bt_len (qv 0))) (blkOk_by (N := N_undone) (sc := defScope s_undone) (by decide +kernel)) (fun _ _ _ _ _ => (qgw_name (i := 1) sc_undone.nd (by decide))) (fun _ _ _ _ _ => qts_nil) (fun _ _ _ _ _ => (q_tindex (qv 0) (qv 1))))))))) (fun _ _ _ h => h.2)

abbrev N_letter_deed : List Str := ["puzzle", "letter"]
theorem sc_letter_deed : FnScope N_letter_deed ["puzzle", "letter"] (defScope s_letter_deed) := ⟨rfl, rfl, rfl, by decide +kernel, rfl, by decide +kernel, by decide +kernel⟩
theorem ok_letter_deed {f : Addr} {fd : FuncData} (F : Fun K "letter_deed" "letter_deed" s_letter_deed f fd) (T : Txt K mg) (h_undone : Fd P w K mg base 1 "undone" ["deed"] sp_undone) : FnD P w K mg base 2 f fd ["puzzle", "letter"] sp_letter_deed :=
  fn_mk F sc_letter_deed (fun _ _ _ h => h.1) (fun cdv A outer s H hr hgd =>
    (qss_cons (qs_if (qt_cmp (o_inD hr) (qv 1) (q_gtup T.k_SMALL) (by with_unfolding_all rfl)) (qss_one (qs_ret (q_ix hr (qv 0) (q_tindex (q_gtup T.k_SMALL) (qv 1))))) qss_nil)
    (qss_one (qs_ret (q_def h_undone hr hgd (by decide) (qa_cons (q_ix hr (qv 0) (q_tindex (q_gtup T.k_GREAT) (qv 1))) qa_nil)))))) (fun _ _ _ h => h.2)

abbrev N_letters_of : List Str := ["puzzle"]
theorem sc_letters_of : FnScope N_letters_of ["puzzle"] (defScope s_letters_of) := ⟨rfl, rfl, rfl, by decide +kernel, rfl, by decide +kernel, by decide +kernel⟩
theorem ok_letters_of {f : Addr} {fd : FuncData} (F : Fun K "letters_of" "letters_of" s_letters_of f fd) (T : Txt K mg) : FnD P w K mg base 1 f fd ["puzzle"] sp_letters_of :=
  fn_mk F sc_letters_of (fun _ _ _ h => h.1) (fun cdv A outer s H hr hgd =>
    (qss_one (qs_ret (q_bin o_add (q_sl (q_gtup T.k_GREAT) qo_none (qo_some (q_c1B c_lenD T.b_len bt_len (qv 0)))) (q_sl (q_gtup T.k_SMALL) qo_none (qo_some (q_c1B c_lenD T.b_len bt_len (qv 0)))))))) (fun _ _ _ h => h.2)

abbrev N_further : List Str := ["puzzle", "stands", "found", "stand", "letter"]
theorem sc_further : FnScope N_further ["puzzle", "stands"] (defScope s_further) := ⟨rfl, rfl, rfl, by decide +kernel, rfl, by decide +kernel, by decide +kernel⟩
theorem ok_further {f : Addr} {fd : FuncData} (F : Fun K "further" "further" s_further f fd) (T : Txt K mg) (h_moved_by : Fd P w K mg base 1 "moved_by" ["stand", "deed"] sp_moved_by) (h_letter_deed : Fd P w K mg base 2 "letter_deed" ["puzzle", "letter"] sp_letter_deed) (h_letters_of : Fd P w K mg base 1 "letters_of" ["puzzle"] sp_letters_of) : FnD P w K mg base 3 f fd ["puzzle", "stands"] sp_further :=
  fn_mk F sc_further (fun _ _ _ h => h.1) (fun cdv A outer s H hr hgd =>
    (qss_cons (qs_set (i := 2) sc_further.nd (q_mut (ql_l1T (c_list rfl) T.b_list bt_list (qv 1))))
    (qss_cons (qs_for PassesOwn.never rfl (qi_data (qv 1)) (qg_name (i := 3) sc_further.nd)
    (qss_one (qs_expr (q_extend (qv 2) (q_mut (ql_lc (own := [("letter", 4)]) rfl sc_further.nd (qi_data (q_def h_letters_of hr hgd (by decide) (qa_cons (qv 0) qa_nil))) (blkOk_by (N := N_further) (sc := defScope s_further) (by decide +kernel)) (fun _ _ _ _ _ => (qgw_name (i := 4) sc_further.nd (by decide))) (fun _ _ _ _ _ => qts_nil) (fun _ _ _ _ _ => (q_def h_moved_by hr hgd (by decide) (qa_cons (qv 3) (qa_cons (q_def h_letter_deed hr hgd (by decide) (qa_cons (qv 0) (qa_cons (qv 4) qa_nil))) qa_nil))))))))))
    (qss_one (qs_ret (q_c1T c_tuple T.b_tuple bt_tuple (q_pure (ql_sortsetT rfl hr T.b_sorted bt_sorted T.b_set bt_set (qv 2))))))))) (fun _ _ _ h => h.2)

abbrev N_net_of : List Str := ["puzzle", "stand", "number", "found", "turn"]
theorem sc_net_of : FnScope N_net_of ["puzzle", "stand", "number"] (defScope s_net_of) := ⟨rfl, rfl, rfl, by decide +kernel, rfl, by decide +kernel, by decide +kernel⟩
theorem ok_net_of {f : Addr} {fd : FuncData} (F : Fun K "net_of" "net_of" s_net_of f fd) (T : Txt K mg) (h_further : Fd P w K mg base 3 "further" ["puzzle", "stands"] sp_further) : FnD P w K mg base 4 f fd ["puzzle", "stand", "number"] sp_net_of :=
  fn_mk F sc_net_of (fun _ _ _ h => h.1) (fun cdv A outer s H hr hgd =>
    (qss_cons (qs_set (i := 3) sc_net_of.nd (q_mut (ql_disp (qa_cons (q_tup (qa_cons (qv 1) qa_nil)) qa_nil))))
    (qss_cons (qs_for PassesOwn.never rfl (qi_rg1 T.b_range (qv 2)) (qg_name (i := 4) sc_net_of.nd)
    (qss_one (qs_expr (q_append (qv 3) (q_def h_further hr hgd (by decide) (qa_cons (qv 0) (qa_cons (q_ix hr (qv 3) (q_neg q_int)) qa_nil)))))))
    (qss_one (qs_ret (q_c1T c_tuple T.b_tuple bt_tuple (qv 3))))))) (fun _ _ _ h => h.2)

abbrev N_meet : List Str := ["one", "other", "thing"]
theorem sc_meet : FnScope N_meet ["one", "other"] (defScope s_meet) := ⟨rfl, rfl, rfl, by decide +kernel, rfl, by decide +kernel, by decide +kernel⟩
theorem ok_meet {f : Addr} {fd : FuncData} (F : Fun K "meet" "meet" s_meet f fd) (T : Txt K mg) : FnD P w K mg base 1 f fd ["one", "other"] sp_meet :=
  fn_mk F sc_meet (fun _ _ _ h => h.1) (fun cdv A outer s H hr hgd =>
    (qss_one (qs_ret (q_c1B (c_any rfl) T.b_any bt_any (q_pure (ql_lc (own := [("thing", 2)]) rfl sc_meet.nd (qi_data (qv 0)) (blkOk_by (N := N_meet) (sc := defScope s_meet) (by decide +kernel)) (fun _ _ _ _ _ => (qgw_name (i := 2) sc_meet.nd (by decide))) (fun _ _ _ _ _ => qts_nil) (fun _ _ _ _ _ => (q_cmp (o_inD hr) (qv 2) (qv 1) (by with_unfolding_all rfl))))))))) (fun _ _ _ h => h.2)

abbrev N_home_of : List Str := ["puzzle"]
theorem sc_home_of : FnScope N_home_of ["puzzle"] (defScope s_home_of) := ⟨rfl, rfl, rfl, by decide +kernel, rfl, by decide +kernel, by decide +kernel⟩
theorem ok_home_of {f : Addr} {fd : FuncData} (F : Fun K "home_of" "home_of" s_home_of f fd) (T : Txt K mg) : FnD P w K mg base 1 f fd ["puzzle"] sp_home_of :=
  fn_mk F sc_home_of (fun _ _ _ h => h.1) (fun cdv A outer s H hr hgd =>
    (qss_one (qs_ret (q_tupRg rfl T.b_tuple (qr_1 T.b_range (q_c1B c_lenD T.b_len bt_len (q_ix hr (qv 0) q_int))))))) (fun _ _ _ h => h.2)

abbrev N_net_paper : List Str := ["puzzle", "stand", "number", "other", "found"]
theorem sc_net_paper : FnScope N_net_paper ["puzzle", "stand", "number", "other"] (defScope s_net_paper) := ⟨rfl, rfl, rfl, by decide +kernel, rfl, by decide +kernel, by decide +kernel⟩
theorem ok_net_paper {f : Addr} {fd : FuncData} (F : Fun K "net_paper" "net_paper" s_net_paper f fd) (T : Txt K mg) (h_need_asked : Fd P w K mg base 5 "need_asked" ["puzzle", "stand", "number"] sp_need_asked) (h_need_number : Fd P w K mg base 2 "need_number" ["number", "most"] sp_need_number) (h_net_of : Fd P w K mg base 4 "net_of" ["puzzle", "stand", "number"] sp_net_of) (h_meet : Fd P w K mg base 1 "meet" ["one", "other"] sp_meet) (h_home_of : Fd P w K mg base 1 "home_of" ["puzzle"] sp_home_of) : FnD P w K mg base 6 f fd ["puzzle", "stand", "number", "other"] sp_net_paper :=
  fn_mk F sc_net_paper (fun _ _ _ h => h.1) (fun cdv A outer s H hr hgd =>
    (qss_cons (qs_expr (q_def h_need_asked hr hgd (by decide) (qa_cons (qv 0) (qa_cons (qv 1) (qa_cons (qv 2) qa_nil)))))
    (qss_cons (qs_expr (q_def h_need_number hr hgd (by decide) (qa_cons (qv 3) (qa_cons (q_gint T.k_MOST_HERE) qa_nil))))
    (qss_cons (qs_set (i := 4) sc_net_paper.nd (q_tup (qa_cons (q_def h_net_of hr hgd (by decide) (qa_cons (qv 0) (qa_cons (q_def h_home_of hr hgd (by decide) (qa_cons (qv 0) qa_nil)) (qa_cons (qv 2) qa_nil)))) (qa_cons (q_def h_net_of hr hgd (by decide) (qa_cons (qv 0) (qa_cons (qv 1) (qa_cons (qv 3) qa_nil)))) qa_nil))))
    (qss_one (qs_ret (q_ifExp (qt_val (q_def h_meet hr hgd (by decide) (qa_cons (q_ix hr (q_ix hr (qv 4) q_int) (q_neg q_int)) (qa_cons (q_ix hr (q_ix hr (qv 4) q_int) (q_neg q_int)) qa_nil)))) q_non (qv 4)))))))) (fun _ _ _ h => h.2)

abbrev N_law : List Str := ["_law_script", "_law_k", "_law_box_here", "_law_puzzle", "_law_there", "_law_stand", "_law_due", "_law_number", "_law_other", "_law_one"]
theorem sc_law : FnScope N_law ["_law_script"] (defScope s_law) := ⟨rfl, rfl, rfl, by decide +kernel, rfl, by decide +kernel, by decide +kernel⟩
theorem ok_law {f : Addr} {fd : FuncData} (F : Fun K "law" "law" s_law f fd) (T : Txt K mg) (h__law_box : Fd P w K mg base 2 "_law_box" ["_law_script", "_law_k"] sp__law_box) (h__law_drawn_puzzle : Fd P w K mg base 3 "_law_drawn_puzzle" ["_law_box_here", "_law_most"] sp__law_drawn_puzzle) (h__law_done : Fd P w K mg base 3 "_law_done" ["_law_puzzle", "_law_stand", "_law_word"] sp__law_done) (h__law_home : Fd P w K mg base 1 "_law_home" ["_law_puzzle"] sp__law_home) (h__law_drawn_word : Fd P w K mg base 2 "_law_drawn_word" ["_law_box_here", "_law_puzzle", "_law_most"] sp__law_drawn_word) (h__law_drawn_stand : Fd P w K mg base 2 "_law_drawn_stand" ["_law_box_here", "_law_puzzle"] sp__law_drawn_stand) (h__law_take : Fd P w K mg base 1 "_law_take" ["_law_box_here", "_law_many"] sp__law_take) (h__law_least_net : Fd P w K mg base 3 "_law_least_net" ["_law_puzzle", "_law_stand", "_law_number"] sp__law_least_net) (h_net_paper : Fd P w K mg base 6 "net_paper" ["puzzle", "stand", "number", "other"] sp_net_paper) : FnD P w K mg base 7 f fd ["_law_script"] sp_law :=
  fn_mk F sc_law (fun _ _ _ h => h.1) (fun cdv A outer s H hr hgd =>
    (qss_cons (qs_for PassesOwn.never rfl (qi_rg1 T.b_range (q_c2B (c_max2 rfl) T.b_max bt_max q_int (q_c2B (c_min2 rfl) T.b_min bt_min (q_c1B c_lenD T.b_len bt_len (qv 0)) q_int))) (qg_name (i := 1) sc_law.nd)
    (qss_cons (qs_set (i := 2) sc_law.nd (q_def h__law_box hr hgd (by decide) (qa_cons (qv 0) (qa_cons (qv 1) qa_nil))))
    (qss_cons (qs_set (i := 3) sc_law.nd (q_def h__law_drawn_puzzle hr hgd (by decide) (qa_cons (qv 2) (qa_cons q_int qa_nil))))
    (qss_cons (qs_set (i := 4) sc_law.nd (q_def h__law_done hr hgd (by decide) (qa_cons (qv 3) (qa_cons (q_def h__law_home hr hgd (by decide) (qa_cons (qv 3) qa_nil)) (qa_cons (q_def h__law_drawn_word hr hgd (by decide) (qa_cons (qv 2) (qa_cons (qv 3) (qa_cons q_int qa_nil)))) qa_nil)))))
    (qss_one (qs_for PassesOwn.never rfl (qi_data (q_pure (ql_disp (qa_cons (q_def h__law_drawn_stand hr hgd (by decide) (qa_cons (qv 2) (qa_cons (qv 3) qa_nil))) (qa_cons (qv 4) qa_nil))))) (qg_name (i := 5) sc_law.nd)
    (qss_cons (qs_par (i := 7) (j := 8) rfl sc_law.nd (qa_cons (q_def h__law_take hr hgd (by decide) (qa_cons (qv 2) (qa_cons q_int qa_nil))) (qa_cons (q_def h__law_take hr hgd (by decide) (qa_cons (qv 2) (qa_cons q_int qa_nil))) qa_nil)))
    (qss_cons (qs_set (i := 6) sc_law.nd (q_tup (qa_cons (q_def h__law_least_net hr hgd (by decide) (qa_cons (qv 3) (qa_cons (q_def h__law_home hr hgd (by decide) (qa_cons (qv 3) qa_nil)) (qa_cons (qv 7) qa_nil)))) (qa_cons (q_def h__law_least_net hr hgd (by decide) (qa_cons (qv 3) (qa_cons (qv 5) (qa_cons (qv 8) qa_nil)))) qa_nil))))
    (qss_cons (qs_if (qt_cmp (o_ne hr) (q_pure (ql_lc (own := [("_law_one", 9)]) rfl sc_law.nd (qi_data (q_ix hr (q_ix hr (qv 6) q_int) (q_neg q_int))) (blkOk_by (N := N_law) (sc := defScope s_law) (by decide +kernel)) (fun _ _ _ _ _ => (qgw_name (i := 9) sc_law.nd (by decide))) (fun _ _ _ _ _ => (qts_one (qt_cmp (o_inD hr) (qv 9) (q_ix hr (q_ix hr (qv 6) q_int) (q_neg q_int)) (by with_unfolding_all rfl)))) (fun _ _ _ _ _ => (qv 9)))) (q_pure (ql_disp qa_nil)) (by with_unfolding_all rfl)) (qss_one (qs_set (i := 6) sc_law.nd q_non)) qss_nil)
    (qss_one (qs_if (qt_cmp (o_ne hr) (q_c1B (c_repr hr hgd) T.b_repr bt_repr (q_def h_net_paper hr hgd (by decide) (qa_cons (qv 3) (qa_cons (qv 5) (qa_cons (qv 7) (qa_cons (qv 8) qa_nil)))))) (q_c1B (c_repr hr hgd) T.b_repr bt_repr (qv 6)) (by with_unfolding_all rfl)) (qss_one (qs_ret q_bl)) qss_nil)))))))))))
    (qss_one (qs_ret q_bl)))) (fun _ _ _ h => h.2)
end
theorem all_mk {l : PySem.W.OpenLaw} {w : World} {K : PySem.W.Frag} {h : Heap} {mg : Str → Option Value} {fa : Addr} (X : K.In h) (G : h.Ns mainGlobals mg) (hfa : mg "law" = some (.ref fa))
    {f0 : Addr} {od0 an0 : Option Addr} {sl0 : Array (Option Value)} {oc0 kV0 dc0 pm0 cd0 ct0 : Value} {f1 : Addr} {od1 an1 : Option Addr} {sl1 : Array (Option Value)} {oc1 kV1 dc1 pm1 cd1 ct1 : Value} {f2 : Addr} {od2 an2 : Option Addr} {sl2 : Array (Option Value)} {oc2 kV2 dc2 pm2 cd2 ct2 : Value} {f3 : Addr} {od3 an3 : Option Addr} {sl3 : Array (Option Value)} {oc3 kV3 dc3 pm3 cd3 ct3 : Value} {f4 : Addr} {od4 an4 : Option Addr} {sl4 : Array (Option Value)} {oc4 kV4 dc4 pm4 cd4 ct4 : Value} {f5 : Addr} {od5 an5 : Option Addr} {sl5 : Array (Option Value)} {oc5 kV5 dc5 pm5 cd5 ct5 : Value} {f6 : Addr} {od6 an6 : Option Addr} {sl6 : Array (Option Value)} {oc6 kV6 dc6 pm6 cd6 ct6 : Value} {f7 : Addr} {od7 an7 : Option Addr} {sl7 : Array (Option Value)} {oc7 kV7 dc7 pm7 cd7 ct7 : Value} {f8 : Addr} {od8 an8 : Option Addr} {sl8 : Array (Option Value)} {oc8 kV8 dc8 pm8 cd8 ct8 : Value} {f9 : Addr} {od9 an9 : Option Addr} {sl9 : Array (Option Value)} {oc9 kV9 dc9 pm9 cd9 ct9 : Value} {f10 : Addr} {od10 an10 : Option Addr} {sl10 : Array (Option Value)} {oc10 kV10 dc10 pm10 cd10 ct10 : Value} {f11 : Addr} {od11 an11 : Option Addr} {sl11 : Array (Option Value)} {oc11 kV11 dc11 pm11 cd11 ct11 : Value} {f12 : Addr} {od12 an12 : Option Addr} {sl12 : Array (Option Value)} {oc12 kV12 dc12 pm12 cd12 ct12 : Value} {f13 : Addr} {od13 an13 : Option Addr} {sl13 : Array (Option Value)} {oc13 kV13 dc13 pm13 cd13 ct13 : Value} {f14 : Addr} {od14 an14 : Option Addr} {sl14 : Array (Option Value)} {oc14 kV14 dc14 pm14 cd14 ct14 : Value} {f15 : Addr} {od15 an15 : Option Addr} {sl15 : Array (Option Value)} {oc15 kV15 dc15 pm15 cd15 ct15 : Value} {f16 : Addr} {od16 an16 : Option Addr} {sl16 : Array (Option Value)} {oc16 kV16 dc16 pm16 cd16 ct16 : Value} {f17 : Addr} {od17 an17 : Option Addr} {sl17 : Array (Option Value)} {oc17 kV17 dc17 pm17 cd17 ct17 : Value} {f18 : Addr} {od18 an18 : Option Addr} {sl18 : Array (Option Value)} {oc18 kV18 dc18 pm18 cd18 ct18 : Value} {f19 : Addr} {od19 an19 : Option Addr} {sl19 : Array (Option Value)} {oc19 kV19 dc19 pm19 cd19 ct19 : Value} {f20 : Addr} {od20 an20 : Option Addr} {sl20 : Array (Option Value)} {oc20 kV20 dc20 pm20 cd20 ct20 : Value} {f21 : Addr} {od21 an21 : Option Addr} {sl21 : Array (Option Value)} {oc21 kV21 dc21 pm21 cd21 ct21 : Value} {f22 : Addr} {od22 an22 : Option Addr} {sl22 : Array (Option Value)} {oc22 kV22 dc22 pm22 cd22 ct22 : Value} {f23 : Addr} {od23 an23 : Option Addr} {sl23 : Array (Option Value)} {oc23 kV23 dc23 pm23 cd23 ct23 : Value} {f24 : Addr} {od24 an24 : Option Addr} {sl24 : Array (Option Value)} {oc24 kV24 dc24 pm24 cd24 ct24 : Value} {f25 : Addr} {od25 an25 : Option Addr} {sl25 : Array (Option Value)} {oc25 kV25 dc25 pm25 cd25 ct25 : Value} {f26 : Addr} {od26 an26 : Option Addr} {sl26 : Array (Option Value)} {oc26 kV26 dc26 pm26 cd26 ct26 : Value} {f27 : Addr} {od27 an27 : Option Addr} {sl27 : Array (Option Value)} {oc27 kV27 dc27 pm27 cd27 ct27 : Value} {f28 : Addr} {od28 an28 : Option Addr} {sl28 : Array (Option Value)} {oc28 kV28 dc28 pm28 cd28 ct28 : Value} {f29 : Addr} {od29 an29 : Option Addr} {sl29 : Array (Option Value)} {oc29 kV29 dc29 pm29 cd29 ct29 : Value} {f30 : Addr} {od30 an30 : Option Addr} {sl30 : Array (Option Value)} {oc30 kV30 dc30 pm30 cd30 ct30 : Value} {f31 : Addr} {od31 an31 : Option Addr} {sl31 : Array (Option Value)} {oc31 kV31 dc31 pm31 cd31 ct31 : Value} {f32 : Addr} {od32 an32 : Option Addr} {sl32 : Array (Option Value)} {oc32 kV32 dc32 pm32 cd32 ct32 : Value} {p_GREAT : Addr} {n_GREAT : Nat} {sl_GREAT : Array (Option Value)} {t0_GREAT t1_GREAT t2_GREAT : Tok} {t_MOST_DEEDS : Tok} {t_MOST_HERE : Tok} {t_MOST_PLACES : Tok} {p_SMALL : Addr} {n_SMALL : Nat} {sl_SMALL : Array (Option Value)} {t0_SMALL t1_SMALL t2_SMALL : Tok}
    (a0 : PySem.W.nsIn K mainGlobals "_law_cell" = some (some (.ref f0)))
    (l0 : K.lookup f0 = some ⟨oc0, od0, .func (PySem.W.fnOf "_law_cell" "_law_cell" (defArgs s__law_cell) (defBody s__law_cell) (defScope s__law_cell) .none kV0 dc0 pm0 an0 cd0 ct0), sl0⟩)
    (c0 : PySem.W.codeIn K cd0 "_law_cell" = true)
    (k0 : PySem.W.keepIn K (.ref f0) = true)
    (a1 : PySem.W.nsIn K mainGlobals "_law_mix" = some (some (.ref f1)))
    (l1 : K.lookup f1 = some ⟨oc1, od1, .func (PySem.W.fnOf "_law_mix" "_law_mix" (defArgs s__law_mix) (defBody s__law_mix) (defScope s__law_mix) .none kV1 dc1 pm1 an1 cd1 ct1), sl1⟩)
    (c1 : PySem.W.codeIn K cd1 "_law_mix" = true)
    (k1 : PySem.W.keepIn K (.ref f1) = true)
    (a2 : PySem.W.nsIn K mainGlobals "_law_box" = some (some (.ref f2)))
    (l2 : K.lookup f2 = some ⟨oc2, od2, .func (PySem.W.fnOf "_law_box" "_law_box" (defArgs s__law_box) (defBody s__law_box) (defScope s__law_box) .none kV2 dc2 pm2 an2 cd2 ct2), sl2⟩)
    (c2 : PySem.W.codeIn K cd2 "_law_box" = true)
    (k2 : PySem.W.keepIn K (.ref f2) = true)
    (a3 : PySem.W.nsIn K mainGlobals "_law_take" = some (some (.ref f3)))
    (l3 : K.lookup f3 = some ⟨oc3, od3, .func (PySem.W.fnOf "_law_take" "_law_take" (defArgs s__law_take) (defBody s__law_take) (defScope s__law_take) .none kV3 dc3 pm3 an3 cd3 ct3), sl3⟩)
    (c3 : PySem.W.codeIn K cd3 "_law_take" = true)
    (k3 : PySem.W.keepIn K (.ref f3) = true)
    (a4 : PySem.W.nsIn K mainGlobals "_law_drawn_deed" = some (some (.ref f4)))
    (l4 : K.lookup f4 = some ⟨oc4, od4, .func (PySem.W.fnOf "_law_drawn_deed" "_law_drawn_deed" (defArgs s__law_drawn_deed) (defBody s__law_drawn_deed) (defScope s__law_drawn_deed) .none kV4 dc4 pm4 an4 cd4 ct4), sl4⟩)
    (c4 : PySem.W.codeIn K cd4 "_law_drawn_deed" = true)
    (k4 : PySem.W.keepIn K (.ref f4) = true)
    (a5 : PySem.W.nsIn K mainGlobals "_law_drawn_puzzle" = some (some (.ref f5)))
    (l5 : K.lookup f5 = some ⟨oc5, od5, .func (PySem.W.fnOf "_law_drawn_puzzle" "_law_drawn_puzzle" (defArgs s__law_drawn_puzzle) (defBody s__law_drawn_puzzle) (defScope s__law_drawn_puzzle) .none kV5 dc5 pm5 an5 cd5 ct5), sl5⟩)
    (c5 : PySem.W.codeIn K cd5 "_law_drawn_puzzle" = true)
    (k5 : PySem.W.keepIn K (.ref f5) = true)
    (a6 : PySem.W.nsIn K mainGlobals "_law_undone" = some (some (.ref f6)))
    (l6 : K.lookup f6 = some ⟨oc6, od6, .func (PySem.W.fnOf "_law_undone" "_law_undone" (defArgs s__law_undone) (defBody s__law_undone) (defScope s__law_undone) .none kV6 dc6 pm6 an6 cd6 ct6), sl6⟩)
    (c6 : PySem.W.codeIn K cd6 "_law_undone" = true)
    (k6 : PySem.W.keepIn K (.ref f6) = true)
    (a7 : PySem.W.nsIn K mainGlobals "_law_deeds" = some (some (.ref f7)))
    (l7 : K.lookup f7 = some ⟨oc7, od7, .func (PySem.W.fnOf "_law_deeds" "_law_deeds" (defArgs s__law_deeds) (defBody s__law_deeds) (defScope s__law_deeds) .none kV7 dc7 pm7 an7 cd7 ct7), sl7⟩)
    (c7 : PySem.W.codeIn K cd7 "_law_deeds" = true)
    (k7 : PySem.W.keepIn K (.ref f7) = true)
    (a8 : PySem.W.nsIn K mainGlobals "_law_moved" = some (some (.ref f8)))
    (l8 : K.lookup f8 = some ⟨oc8, od8, .func (PySem.W.fnOf "_law_moved" "_law_moved" (defArgs s__law_moved) (defBody s__law_moved) (defScope s__law_moved) .none kV8 dc8 pm8 an8 cd8 ct8), sl8⟩)
    (c8 : PySem.W.codeIn K cd8 "_law_moved" = true)
    (k8 : PySem.W.keepIn K (.ref f8) = true)
    (a9 : PySem.W.nsIn K mainGlobals "_law_done" = some (some (.ref f9)))
    (l9 : K.lookup f9 = some ⟨oc9, od9, .func (PySem.W.fnOf "_law_done" "_law_done" (defArgs s__law_done) (defBody s__law_done) (defScope s__law_done) .none kV9 dc9 pm9 an9 cd9 ct9), sl9⟩)
    (c9 : PySem.W.codeIn K cd9 "_law_done" = true)
    (k9 : PySem.W.keepIn K (.ref f9) = true)
    (a10 : PySem.W.nsIn K mainGlobals "_law_home" = some (some (.ref f10)))
    (l10 : K.lookup f10 = some ⟨oc10, od10, .func (PySem.W.fnOf "_law_home" "_law_home" (defArgs s__law_home) (defBody s__law_home) (defScope s__law_home) .none kV10 dc10 pm10 an10 cd10 ct10), sl10⟩)
    (c10 : PySem.W.codeIn K cd10 "_law_home" = true)
    (k10 : PySem.W.keepIn K (.ref f10) = true)
    (a11 : PySem.W.nsIn K mainGlobals "_law_letters" = some (some (.ref f11)))
    (l11 : K.lookup f11 = some ⟨oc11, od11, .func (PySem.W.fnOf "_law_letters" "_law_letters" (defArgs s__law_letters) (defBody s__law_letters) (defScope s__law_letters) .none kV11 dc11 pm11 an11 cd11 ct11), sl11⟩)
    (c11 : PySem.W.codeIn K cd11 "_law_letters" = true)
    (k11 : PySem.W.keepIn K (.ref f11) = true)
    (a12 : PySem.W.nsIn K mainGlobals "_law_drawn_word" = some (some (.ref f12)))
    (l12 : K.lookup f12 = some ⟨oc12, od12, .func (PySem.W.fnOf "_law_drawn_word" "_law_drawn_word" (defArgs s__law_drawn_word) (defBody s__law_drawn_word) (defScope s__law_drawn_word) .none kV12 dc12 pm12 an12 cd12 ct12), sl12⟩)
    (c12 : PySem.W.codeIn K cd12 "_law_drawn_word" = true)
    (k12 : PySem.W.keepIn K (.ref f12) = true)
    (a13 : PySem.W.nsIn K mainGlobals "_law_drawn_stand" = some (some (.ref f13)))
    (l13 : K.lookup f13 = some ⟨oc13, od13, .func (PySem.W.fnOf "_law_drawn_stand" "_law_drawn_stand" (defArgs s__law_drawn_stand) (defBody s__law_drawn_stand) (defScope s__law_drawn_stand) .none kV13 dc13 pm13 an13 cd13 ct13), sl13⟩)
    (c13 : PySem.W.codeIn K cd13 "_law_drawn_stand" = true)
    (k13 : PySem.W.keepIn K (.ref f13) = true)
    (a14 : PySem.W.nsIn K mainGlobals "_law_least_net" = some (some (.ref f14)))
    (l14 : K.lookup f14 = some ⟨oc14, od14, .func (PySem.W.fnOf "_law_least_net" "_law_least_net" (defArgs s__law_least_net) (defBody s__law_least_net) (defScope s__law_least_net) .none kV14 dc14 pm14 an14 cd14 ct14), sl14⟩)
    (c14 : PySem.W.codeIn K cd14 "_law_least_net" = true)
    (k14 : PySem.W.keepIn K (.ref f14) = true)
    (a15 : PySem.W.nsIn K mainGlobals "is_whole" = some (some (.ref f15)))
    (l15 : K.lookup f15 = some ⟨oc15, od15, .func (PySem.W.fnOf "is_whole" "is_whole" (defArgs s_is_whole) (defBody s_is_whole) (defScope s_is_whole) .none kV15 dc15 pm15 an15 cd15 ct15), sl15⟩)
    (c15 : PySem.W.codeIn K cd15 "is_whole" = true)
    (k15 : PySem.W.keepIn K (.ref f15) = true)
    (a16 : PySem.W.nsIn K mainGlobals "is_deed" = some (some (.ref f16)))
    (l16 : K.lookup f16 = some ⟨oc16, od16, .func (PySem.W.fnOf "is_deed" "is_deed" (defArgs s_is_deed) (defBody s_is_deed) (defScope s_is_deed) .none kV16 dc16 pm16 an16 cd16 ct16), sl16⟩)
    (c16 : PySem.W.codeIn K cd16 "is_deed" = true)
    (k16 : PySem.W.keepIn K (.ref f16) = true)
    (a17 : PySem.W.nsIn K mainGlobals "is_puzzle" = some (some (.ref f17)))
    (l17 : K.lookup f17 = some ⟨oc17, od17, .func (PySem.W.fnOf "is_puzzle" "is_puzzle" (defArgs s_is_puzzle) (defBody s_is_puzzle) (defScope s_is_puzzle) .none kV17 dc17 pm17 an17 cd17 ct17), sl17⟩)
    (c17 : PySem.W.codeIn K cd17 "is_puzzle" = true)
    (k17 : PySem.W.keepIn K (.ref f17) = true)
    (a18 : PySem.W.nsIn K mainGlobals "need_puzzle" = some (some (.ref f18)))
    (l18 : K.lookup f18 = some ⟨oc18, od18, .func (PySem.W.fnOf "need_puzzle" "need_puzzle" (defArgs s_need_puzzle) (defBody s_need_puzzle) (defScope s_need_puzzle) .none kV18 dc18 pm18 an18 cd18 ct18), sl18⟩)
    (c18 : PySem.W.codeIn K cd18 "need_puzzle" = true)
    (k18 : PySem.W.keepIn K (.ref f18) = true)
    (a19 : PySem.W.nsIn K mainGlobals "is_stand_of" = some (some (.ref f19)))
    (l19 : K.lookup f19 = some ⟨oc19, od19, .func (PySem.W.fnOf "is_stand_of" "is_stand_of" (defArgs s_is_stand_of) (defBody s_is_stand_of) (defScope s_is_stand_of) .none kV19 dc19 pm19 an19 cd19 ct19), sl19⟩)
    (c19 : PySem.W.codeIn K cd19 "is_stand_of" = true)
    (k19 : PySem.W.keepIn K (.ref f19) = true)
    (a20 : PySem.W.nsIn K mainGlobals "need_stand" = some (some (.ref f20)))
    (l20 : K.lookup f20 = some ⟨oc20, od20, .func (PySem.W.fnOf "need_stand" "need_stand" (defArgs s_need_stand) (defBody s_need_stand) (defScope s_need_stand) .none kV20 dc20 pm20 an20 cd20 ct20), sl20⟩)
    (c20 : PySem.W.codeIn K cd20 "need_stand" = true)
    (k20 : PySem.W.keepIn K (.ref f20) = true)
    (a21 : PySem.W.nsIn K mainGlobals "need_number" = some (some (.ref f21)))
    (l21 : K.lookup f21 = some ⟨oc21, od21, .func (PySem.W.fnOf "need_number" "need_number" (defArgs s_need_number) (defBody s_need_number) (defScope s_need_number) .none kV21 dc21 pm21 an21 cd21 ct21), sl21⟩)
    (c21 : PySem.W.codeIn K cd21 "need_number" = true)
    (k21 : PySem.W.keepIn K (.ref f21) = true)
    (a22 : PySem.W.nsIn K mainGlobals "need_asked" = some (some (.ref f22)))
    (l22 : K.lookup f22 = some ⟨oc22, od22, .func (PySem.W.fnOf "need_asked" "need_asked" (defArgs s_need_asked) (defBody s_need_asked) (defScope s_need_asked) .none kV22 dc22 pm22 an22 cd22 ct22), sl22⟩)
    (c22 : PySem.W.codeIn K cd22 "need_asked" = true)
    (k22 : PySem.W.keepIn K (.ref f22) = true)
    (a23 : PySem.W.nsIn K mainGlobals "moved_by" = some (some (.ref f23)))
    (l23 : K.lookup f23 = some ⟨oc23, od23, .func (PySem.W.fnOf "moved_by" "moved_by" (defArgs s_moved_by) (defBody s_moved_by) (defScope s_moved_by) .none kV23 dc23 pm23 an23 cd23 ct23), sl23⟩)
    (c23 : PySem.W.codeIn K cd23 "moved_by" = true)
    (k23 : PySem.W.keepIn K (.ref f23) = true)
    (a24 : PySem.W.nsIn K mainGlobals "undone" = some (some (.ref f24)))
    (l24 : K.lookup f24 = some ⟨oc24, od24, .func (PySem.W.fnOf "undone" "undone" (defArgs s_undone) (defBody s_undone) (defScope s_undone) .none kV24 dc24 pm24 an24 cd24 ct24), sl24⟩)
    (c24 : PySem.W.codeIn K cd24 "undone" = true)
    (k24 : PySem.W.keepIn K (.ref f24) = true)
    (a25 : PySem.W.nsIn K mainGlobals "letter_deed" = some (some (.ref f25)))
    (l25 : K.lookup f25 = some ⟨oc25, od25, .func (PySem.W.fnOf "letter_deed" "letter_deed" (defArgs s_letter_deed) (defBody s_letter_deed) (defScope s_letter_deed) .none kV25 dc25 pm25 an25 cd25 ct25), sl25⟩)
    (c25 : PySem.W.codeIn K cd25 "letter_deed" = true)
    (k25 : PySem.W.keepIn K (.ref f25) = true)
    (a26 : PySem.W.nsIn K mainGlobals "letters_of" = some (some (.ref f26)))
    (l26 : K.lookup f26 = some ⟨oc26, od26, .func (PySem.W.fnOf "letters_of" "letters_of" (defArgs s_letters_of) (defBody s_letters_of) (defScope s_letters_of) .none kV26 dc26 pm26 an26 cd26 ct26), sl26⟩)
    (c26 : PySem.W.codeIn K cd26 "letters_of" = true)
    (k26 : PySem.W.keepIn K (.ref f26) = true)
    (a27 : PySem.W.nsIn K mainGlobals "further" = some (some (.ref f27)))
    (l27 : K.lookup f27 = some ⟨oc27, od27, .func (PySem.W.fnOf "further" "further" (defArgs s_further) (defBody s_further) (defScope s_further) .none kV27 dc27 pm27 an27 cd27 ct27), sl27⟩)
    (c27 : PySem.W.codeIn K cd27 "further" = true)
    (k27 : PySem.W.keepIn K (.ref f27) = true)
    (a28 : PySem.W.nsIn K mainGlobals "net_of" = some (some (.ref f28)))
    (l28 : K.lookup f28 = some ⟨oc28, od28, .func (PySem.W.fnOf "net_of" "net_of" (defArgs s_net_of) (defBody s_net_of) (defScope s_net_of) .none kV28 dc28 pm28 an28 cd28 ct28), sl28⟩)
    (c28 : PySem.W.codeIn K cd28 "net_of" = true)
    (k28 : PySem.W.keepIn K (.ref f28) = true)
    (a29 : PySem.W.nsIn K mainGlobals "meet" = some (some (.ref f29)))
    (l29 : K.lookup f29 = some ⟨oc29, od29, .func (PySem.W.fnOf "meet" "meet" (defArgs s_meet) (defBody s_meet) (defScope s_meet) .none kV29 dc29 pm29 an29 cd29 ct29), sl29⟩)
    (c29 : PySem.W.codeIn K cd29 "meet" = true)
    (k29 : PySem.W.keepIn K (.ref f29) = true)
    (a30 : PySem.W.nsIn K mainGlobals "home_of" = some (some (.ref f30)))
    (l30 : K.lookup f30 = some ⟨oc30, od30, .func (PySem.W.fnOf "home_of" "home_of" (defArgs s_home_of) (defBody s_home_of) (defScope s_home_of) .none kV30 dc30 pm30 an30 cd30 ct30), sl30⟩)
    (c30 : PySem.W.codeIn K cd30 "home_of" = true)
    (k30 : PySem.W.keepIn K (.ref f30) = true)
    (a31 : PySem.W.nsIn K mainGlobals "net_paper" = some (some (.ref f31)))
    (l31 : K.lookup f31 = some ⟨oc31, od31, .func (PySem.W.fnOf "net_paper" "net_paper" (defArgs s_net_paper) (defBody s_net_paper) (defScope s_net_paper) .none kV31 dc31 pm31 an31 cd31 ct31), sl31⟩)
    (c31 : PySem.W.codeIn K cd31 "net_paper" = true)
    (k31 : PySem.W.keepIn K (.ref f31) = true)
    (a32 : PySem.W.nsIn K mainGlobals "law" = some (some (.ref f32)))
    (l32 : K.lookup f32 = some ⟨oc32, od32, .func (PySem.W.fnOf "law" "law" (defArgs s_law) (defBody s_law) (defScope s_law) .none kV32 dc32 pm32 an32 cd32 ct32), sl32⟩)
    (c32 : PySem.W.codeIn K cd32 "law" = true)
    (k32 : PySem.W.keepIn K (.ref f32) = true)
    (z_abs : PySem.W.nsIn K mainGlobals "abs" = some none)
    (z_all : PySem.W.nsIn K mainGlobals "all" = some none)
    (z_any : PySem.W.nsIn K mainGlobals "any" = some none)
    (z_bool : PySem.W.nsIn K mainGlobals "bool" = some none)
    (z_dict : PySem.W.nsIn K mainGlobals "dict" = some none)
    (z_divmod : PySem.W.nsIn K mainGlobals "divmod" = some none)
    (z_int : PySem.W.nsIn K mainGlobals "int" = some none)
    (z_isinstance : PySem.W.nsIn K mainGlobals "isinstance" = some none)
    (z_len : PySem.W.nsIn K mainGlobals "len" = some none)
    (z_list : PySem.W.nsIn K mainGlobals "list" = some none)
    (z_max : PySem.W.nsIn K mainGlobals "max" = some none)
    (z_min : PySem.W.nsIn K mainGlobals "min" = some none)
    (z_range : PySem.W.nsIn K mainGlobals "range" = some none)
    (z_repr : PySem.W.nsIn K mainGlobals "repr" = some none)
    (z_set : PySem.W.nsIn K mainGlobals "set" = some none)
    (z_sorted : PySem.W.nsIn K mainGlobals "sorted" = some none)
    (z_tuple : PySem.W.nsIn K mainGlobals "tuple" = some none)
    (g_GREAT : PySem.W.nsIn K mainGlobals "GREAT" = some (some (.ref p_GREAT)))
    (gl_GREAT : K.lookup p_GREAT = some ⟨.type "tuple", none, .seq #[.str (("X" : Str)) t0_GREAT, .str (("Y" : Str)) t1_GREAT, .str (("Z" : Str)) t2_GREAT] n_GREAT, sl_GREAT⟩)
    (g_MOST_DEEDS : PySem.W.nsIn K mainGlobals "MOST_DEEDS" = some (some (.int 3 t_MOST_DEEDS)))
    (g_MOST_HERE : PySem.W.nsIn K mainGlobals "MOST_HERE" = some (some (.int 4 t_MOST_HERE)))
    (g_MOST_PLACES : PySem.W.nsIn K mainGlobals "MOST_PLACES" = some (some (.int 5 t_MOST_PLACES)))
    (g_SMALL : PySem.W.nsIn K mainGlobals "SMALL" = some (some (.ref p_SMALL)))
    (gl_SMALL : K.lookup p_SMALL = some ⟨.type "tuple", none, .seq #[.str (("x" : Str)) t0_SMALL, .str (("y" : Str)) t1_SMALL, .str (("z" : Str)) t2_SMALL] n_SMALL, sl_SMALL⟩) :
    ∃ fd : FuncData, (∀ (s : Shared) (v : Value), BindsTo s fd ⟨[v], []⟩ [("_law_script", v)]) ∧ ∀ base : Heap, K.In base → base.Ns mainGlobals mg → FnD l.prog w K mg base 7 fa fd ["_law_script"] spLaw := by
  have e := hfa.symm.trans (PySem.W.mg_of X G a32)
  cases e
  have T : Txt K mg := ⟨trivial, PySem.W.mg_none_of X G z_abs, PySem.W.mg_none_of X G z_all, PySem.W.mg_none_of X G z_any, PySem.W.mg_none_of X G z_bool, PySem.W.mg_none_of X G z_dict, PySem.W.mg_none_of X G z_divmod, PySem.W.mg_none_of X G z_int, PySem.W.mg_none_of X G z_isinstance, PySem.W.mg_none_of X G z_len, PySem.W.mg_none_of X G z_list, PySem.W.mg_none_of X G z_max, PySem.W.mg_none_of X G z_min, PySem.W.mg_none_of X G z_range, PySem.W.mg_none_of X G z_repr, PySem.W.mg_none_of X G z_set, PySem.W.mg_none_of X G z_sorted, PySem.W.mg_none_of X G z_tuple, gtup_of (PySem.W.mg_of X G g_GREAT) gl_GREAT (show 3 ≤ sizeLine by decide) (.cons ⟨_, rfl⟩ (.cons ⟨_, rfl⟩ (.cons ⟨_, rfl⟩ (.nil)))), ⟨_, PySem.W.mg_of X G g_MOST_DEEDS⟩, ⟨_, PySem.W.mg_of X G g_MOST_HERE⟩, ⟨_, PySem.W.mg_of X G g_MOST_PLACES⟩, gtup_of (PySem.W.mg_of X G g_SMALL) gl_SMALL (show 3 ≤ sizeLine by decide) (.cons ⟨_, rfl⟩ (.cons ⟨_, rfl⟩ (.cons ⟨_, rfl⟩ (.nil))))⟩
  refine ⟨PySem.W.fnOf "law" "law" (defArgs s_law) (defBody s_law) (defScope s_law) .none kV32 dc32 pm32 an32 cd32 ct32, fun s v => .of_eq rfl, fun base _ _ => ?_⟩
  have F0 := fun_mk (st := s__law_cell) l0 c0 k0
  have h__law_cell : Fd l.prog w K mg base 1 "_law_cell" ["_law_script", "_law_k"] sp__law_cell := fd_of (ok__law_cell F0 T ) (PySem.W.mg_of X G a0) k0 (F0.binds (ps := ["_law_script", "_law_k"]) fun _ _ _ _ _ _ us hl => match us, hl with | [_, _], _ => rfl)
  have F1 := fun_mk (st := s__law_mix) l1 c1 k1
  have h__law_mix : Fd l.prog w K mg base 1 "_law_mix" ["_law_cell_here", "_law_k"] sp__law_mix := fd_of (ok__law_mix F1 T ) (PySem.W.mg_of X G a1) k1 (F1.binds (ps := ["_law_cell_here", "_law_k"]) fun _ _ _ _ _ _ us hl => match us, hl with | [_, _], _ => rfl)
  have F2 := fun_mk (st := s__law_box) l2 c2 k2
  have h__law_box : Fd l.prog w K mg base 2 "_law_box" ["_law_script", "_law_k"] sp__law_box := fd_of (ok__law_box F2 T h__law_cell h__law_mix) (PySem.W.mg_of X G a2) k2 (F2.binds (ps := ["_law_script", "_law_k"]) fun _ _ _ _ _ _ us hl => match us, hl with | [_, _], _ => rfl)
  have F3 := fun_mk (st := s__law_take) l3 c3 k3
  have h__law_take : Fd l.prog w K mg base 1 "_law_take" ["_law_box_here", "_law_many"] sp__law_take := fd_of (ok__law_take F3 T ) (PySem.W.mg_of X G a3) k3 (F3.binds (ps := ["_law_box_here", "_law_many"]) fun _ _ _ _ _ _ us hl => match us, hl with | [_, _], _ => rfl)
  have F4 := fun_mk (st := s__law_drawn_deed) l4 c4 k4
  have h__law_drawn_deed : Fd l.prog w K mg base 2 "_law_drawn_deed" ["_law_box_here", "_law_many"] sp__law_drawn_deed := fd_of (ok__law_drawn_deed F4 T h__law_take) (PySem.W.mg_of X G a4) k4 (F4.binds (ps := ["_law_box_here", "_law_many"]) fun _ _ _ _ _ _ us hl => match us, hl with | [_, _], _ => rfl)
  have F5 := fun_mk (st := s__law_drawn_puzzle) l5 c5 k5
  have h__law_drawn_puzzle : Fd l.prog w K mg base 3 "_law_drawn_puzzle" ["_law_box_here", "_law_most"] sp__law_drawn_puzzle := fd_of (ok__law_drawn_puzzle F5 T h__law_take h__law_drawn_deed) (PySem.W.mg_of X G a5) k5 (F5.binds (ps := ["_law_box_here", "_law_most"]) fun _ _ _ _ _ _ us hl => match us, hl with | [_, _], _ => rfl)
  have F6 := fun_mk (st := s__law_undone) l6 c6 k6
  have h__law_undone : Fd l.prog w K mg base 1 "_law_undone" ["_law_deed"] sp__law_undone := fd_of (ok__law_undone F6 T ) (PySem.W.mg_of X G a6) k6 (F6.binds (ps := ["_law_deed"]) fun _ _ _ _ _ _ us hl => match us, hl with | [_], _ => rfl)
  have F7 := fun_mk (st := s__law_deeds) l7 c7 k7
  have h__law_deeds : Fd l.prog w K mg base 2 "_law_deeds" ["_law_puzzle"] sp__law_deeds := fd_of (ok__law_deeds F7 T h__law_undone) (PySem.W.mg_of X G a7) k7 (F7.binds (ps := ["_law_puzzle"]) fun _ _ _ _ _ _ us hl => match us, hl with | [_], _ => rfl)
  have F8 := fun_mk (st := s__law_moved) l8 c8 k8
  have h__law_moved : Fd l.prog w K mg base 1 "_law_moved" ["_law_stand", "_law_deed"] sp__law_moved := fd_of (ok__law_moved F8 T ) (PySem.W.mg_of X G a8) k8 (F8.binds (ps := ["_law_stand", "_law_deed"]) fun _ _ _ _ _ _ us hl => match us, hl with | [_, _], _ => rfl)
  have F9 := fun_mk (st := s__law_done) l9 c9 k9
  have h__law_done : Fd l.prog w K mg base 3 "_law_done" ["_law_puzzle", "_law_stand", "_law_word"] sp__law_done := fd_of (ok__law_done F9 T h__law_deeds h__law_moved) (PySem.W.mg_of X G a9) k9 (F9.binds (ps := ["_law_puzzle", "_law_stand", "_law_word"]) fun _ _ _ _ _ _ us hl => match us, hl with | [_, _, _], _ => rfl)
  have F10 := fun_mk (st := s__law_home) l10 c10 k10
  have h__law_home : Fd l.prog w K mg base 1 "_law_home" ["_law_puzzle"] sp__law_home := fd_of (ok__law_home F10 T ) (PySem.W.mg_of X G a10) k10 (F10.binds (ps := ["_law_puzzle"]) fun _ _ _ _ _ _ us hl => match us, hl with | [_], _ => rfl)
  have F11 := fun_mk (st := s__law_letters) l11 c11 k11
  have h__law_letters : Fd l.prog w K mg base 1 "_law_letters" ["_law_puzzle"] sp__law_letters := fd_of (ok__law_letters F11 T ) (PySem.W.mg_of X G a11) k11 (F11.binds (ps := ["_law_puzzle"]) fun _ _ _ _ _ _ us hl => match us, hl with | [_], _ => rfl)
  have F12 := fun_mk (st := s__law_drawn_word) l12 c12 k12
  have h__law_drawn_word : Fd l.prog w K mg base 2 "_law_drawn_word" ["_law_box_here", "_law_puzzle", "_law_most"] sp__law_drawn_word := fd_of (ok__law_drawn_word F12 T h__law_take h__law_letters) (PySem.W.mg_of X G a12) k12 (F12.binds (ps := ["_law_box_here", "_law_puzzle", "_law_most"]) fun _ _ _ _ _ _ us hl => match us, hl with | [_, _, _], _ => rfl)
  have F13 := fun_mk (st := s__law_drawn_stand) l13 c13 k13
  have h__law_drawn_stand : Fd l.prog w K mg base 2 "_law_drawn_stand" ["_law_box_here", "_law_puzzle"] sp__law_drawn_stand := fd_of (ok__law_drawn_stand F13 T h__law_take) (PySem.W.mg_of X G a13) k13 (F13.binds (ps := ["_law_box_here", "_law_puzzle"]) fun _ _ _ _ _ _ us hl => match us, hl with | [_, _], _ => rfl)
  have F14 := fun_mk (st := s__law_least_net) l14 c14 k14
  have h__law_least_net : Fd l.prog w K mg base 3 "_law_least_net" ["_law_puzzle", "_law_stand", "_law_number"] sp__law_least_net := fd_of (ok__law_least_net F14 T h__law_moved h__law_deeds) (PySem.W.mg_of X G a14) k14 (F14.binds (ps := ["_law_puzzle", "_law_stand", "_law_number"]) fun _ _ _ _ _ _ us hl => match us, hl with | [_, _, _], _ => rfl)
  have F15 := fun_mk (st := s_is_whole) l15 c15 k15
  have h_is_whole : Fd l.prog w K mg base 1 "is_whole" ["thing"] sp_is_whole := fd_of (ok_is_whole F15 T ) (PySem.W.mg_of X G a15) k15 (F15.binds (ps := ["thing"]) fun _ _ _ _ _ _ us hl => match us, hl with | [_], _ => rfl)
  have F16 := fun_mk (st := s_is_deed) l16 c16 k16
  have h_is_deed : Fd l.prog w K mg base 2 "is_deed" ["thing"] sp_is_deed := fd_of (ok_is_deed F16 T h_is_whole) (PySem.W.mg_of X G a16) k16 (F16.binds (ps := ["thing"]) fun _ _ _ _ _ _ us hl => match us, hl with | [_], _ => rfl)
  have F17 := fun_mk (st := s_is_puzzle) l17 c17 k17
  have h_is_puzzle : Fd l.prog w K mg base 3 "is_puzzle" ["thing"] sp_is_puzzle := fd_of (ok_is_puzzle F17 T h_is_deed) (PySem.W.mg_of X G a17) k17 (F17.binds (ps := ["thing"]) fun _ _ _ _ _ _ us hl => match us, hl with | [_], _ => rfl)
  have F18 := fun_mk (st := s_need_puzzle) l18 c18 k18
  have h_need_puzzle : Fd l.prog w K mg base 4 "need_puzzle" ["puzzle"] sp_need_puzzle := fd_of (ok_need_puzzle F18 T h_is_puzzle) (PySem.W.mg_of X G a18) k18 (F18.binds (ps := ["puzzle"]) fun _ _ _ _ _ _ us hl => match us, hl with | [_], _ => rfl)
  have F19 := fun_mk (st := s_is_stand_of) l19 c19 k19
  have h_is_stand_of : Fd l.prog w K mg base 3 "is_stand_of" ["thing", "puzzle"] sp_is_stand_of := fd_of (ok_is_stand_of F19 T h_is_deed) (PySem.W.mg_of X G a19) k19 (F19.binds (ps := ["thing", "puzzle"]) fun _ _ _ _ _ _ us hl => match us, hl with | [_, _], _ => rfl)
  have F20 := fun_mk (st := s_need_stand) l20 c20 k20
  have h_need_stand : Fd l.prog w K mg base 4 "need_stand" ["puzzle", "stand"] sp_need_stand := fd_of (ok_need_stand F20 T h_is_stand_of) (PySem.W.mg_of X G a20) k20 (F20.binds (ps := ["puzzle", "stand"]) fun _ _ _ _ _ _ us hl => match us, hl with | [_, _], _ => rfl)
  have F21 := fun_mk (st := s_need_number) l21 c21 k21
  have h_need_number : Fd l.prog w K mg base 2 "need_number" ["number", "most"] sp_need_number := fd_of (ok_need_number F21 T h_is_whole) (PySem.W.mg_of X G a21) k21 (F21.binds (ps := ["number", "most"]) fun _ _ _ _ _ _ us hl => match us, hl with | [_, _], _ => rfl)
  have F22 := fun_mk (st := s_need_asked) l22 c22 k22
  have h_need_asked : Fd l.prog w K mg base 5 "need_asked" ["puzzle", "stand", "number"] sp_need_asked := fd_of (ok_need_asked F22 T h_need_puzzle h_need_stand h_need_number) (PySem.W.mg_of X G a22) k22 (F22.binds (ps := ["puzzle", "stand", "number"]) fun _ _ _ _ _ _ us hl => match us, hl with | [_, _, _], _ => rfl)
  have F23 := fun_mk (st := s_moved_by) l23 c23 k23
  have h_moved_by : Fd l.prog w K mg base 1 "moved_by" ["stand", "deed"] sp_moved_by := fd_of (ok_moved_by F23 T ) (PySem.W.mg_of X G a23) k23 (F23.binds (ps := ["stand", "deed"]) fun _ _ _ _ _ _ us hl => match us, hl with | [_, _], _ => rfl)
  have F24 := fun_mk (st := s_undone) l24 c24 k24
  have h_undone : Fd l.prog w K mg base 1 "undone" ["deed"] sp_undone := fd_of (ok_undone F24 T ) (PySem.W.mg_of X G a24) k24 (F24.binds (ps := ["deed"]) fun _ _ _ _ _ _ us hl => match us, hl with | [_], _ => rfl)
  have F25 := fun_mk (st := s_letter_deed) l25 c25 k25
  have h_letter_deed : Fd l.prog w K mg base 2 "letter_deed" ["puzzle", "letter"] sp_letter_deed := fd_of (ok_letter_deed F25 T h_undone) (PySem.W.mg_of X G a25) k25 (F25.binds (ps := ["puzzle", "letter"]) fun _ _ _ _ _ _ us hl => match us, hl with | [_, _], _ => rfl)
  have F26 := fun_mk (st := s_letters_of) l26 c26 k26
  have h_letters_of : Fd l.prog w K mg base 1 "letters_of" ["puzzle"] sp_letters_of := fd_of (ok_letters_of F26 T ) (PySem.W.mg_of X G a26) k26 (F26.binds (ps := ["puzzle"]) fun _ _ _ _ _ _ us hl => match us, hl with | [_], _ => rfl)
  have F27 := fun_mk (st := s_further) l27 c27 k27
  have h_further : Fd l.prog w K mg base 3 "further" ["puzzle", "stands"] sp_further := fd_of (ok_further F27 T h_moved_by h_letter_deed h_letters_of) (PySem.W.mg_of X G a27) k27 (F27.binds (ps := ["puzzle", "stands"]) fun _ _ _ _ _ _ us hl => match us, hl with | [_, _], _ => rfl)
  have F28 := fun_mk (st := s_net_of) l28 c28 k28
  have h_net_of : Fd l.prog w K mg base 4 "net_of" ["puzzle", "stand", "number"] sp_net_of := fd_of (ok_net_of F28 T h_further) (PySem.W.mg_of X G a28) k28 (F28.binds (ps := ["puzzle", "stand", "number"]) fun _ _ _ _ _ _ us hl => match us, hl with | [_, _, _], _ => rfl)
  have F29 := fun_mk (st := s_meet) l29 c29 k29
  have h_meet : Fd l.prog w K mg base 1 "meet" ["one", "other"] sp_meet := fd_of (ok_meet F29 T ) (PySem.W.mg_of X G a29) k29 (F29.binds (ps := ["one", "other"]) fun _ _ _ _ _ _ us hl => match us, hl with | [_, _], _ => rfl)
  have F30 := fun_mk (st := s_home_of) l30 c30 k30
  have h_home_of : Fd l.prog w K mg base 1 "home_of" ["puzzle"] sp_home_of := fd_of (ok_home_of F30 T ) (PySem.W.mg_of X G a30) k30 (F30.binds (ps := ["puzzle"]) fun _ _ _ _ _ _ us hl => match us, hl with | [_], _ => rfl)
  have F31 := fun_mk (st := s_net_paper) l31 c31 k31
  have h_net_paper : Fd l.prog w K mg base 6 "net_paper" ["puzzle", "stand", "number", "other"] sp_net_paper := fd_of (ok_net_paper F31 T h_need_asked h_need_number h_net_of h_meet h_home_of) (PySem.W.mg_of X G a31) k31 (F31.binds (ps := ["puzzle", "stand", "number", "other"]) fun _ _ _ _ _ _ us hl => match us, hl with | [_, _, _, _], _ => rfl)
  exact (ok_law (fun_mk (st := s_law) l32 c32 k32) T h__law_box h__law_drawn_puzzle h__law_done h__law_home h__law_drawn_word h__law_drawn_stand h__law_take h__law_least_net h_net_paper).weak law_ok

end DL.R

open PySem PySem.W PyProof.Rows in
set_option maxRecDepth 100000 in
set_option maxHeartbeats 0 in
theorem PySem.Challenge.cw_shortdeeds_k25_least_net_papers_holds : PySem.Challenge.rw_shortdeeds_k25_least_net_papers.Holds := by
  w_on; o_law; k_head; (case hw => w_witness2)
  k_fill
  refine DL.walkD (k := 7) (x := "_law_script") (l := PySem.Challenge.rw_shortdeeds_k25_least_net_papers) rfl rfl ⟨rfl, by decide, by decide⟩ (fun w h Y => PySem.W.kIn_of Y) (fun w => by kernel_rfl) ?F
  case F =>
    intro w mg fa h KX G hmg
    refine' DL.R.all_mk KX G hmg ?a0 ?l0 ?c0 ?k0 ?a1 ?l1 ?c1 ?k1 ?a2 ?l2 ?c2 ?k2 ?a3 ?l3 ?c3 ?k3 ?a4 ?l4 ?c4 ?k4 ?a5 ?l5 ?c5 ?k5 ?a6 ?l6 ?c6 ?k6 ?a7 ?l7 ?c7 ?k7 ?a8 ?l8 ?c8 ?k8 ?a9 ?l9 ?c9 ?k9 ?a10 ?l10 ?c10 ?k10 ?a11 ?l11 ?c11 ?k11 ?a12 ?l12 ?c12 ?k12 ?a13 ?l13 ?c13 ?k13 ?a14 ?l14 ?c14 ?k14 ?a15 ?l15 ?c15 ?k15 ?a16 ?l16 ?c16 ?k16 ?a17 ?l17 ?c17 ?k17 ?a18 ?l18 ?c18 ?k18 ?a19 ?l19 ?c19 ?k19 ?a20 ?l20 ?c20 ?k20 ?a21 ?l21 ?c21 ?k21 ?a22 ?l22 ?c22 ?k22 ?a23 ?l23 ?c23 ?k23 ?a24 ?l24 ?c24 ?k24 ?a25 ?l25 ?c25 ?k25 ?a26 ?l26 ?c26 ?k26 ?a27 ?l27 ?c27 ?k27 ?a28 ?l28 ?c28 ?k28 ?a29 ?l29 ?c29 ?k29 ?a30 ?l30 ?c30 ?k30 ?a31 ?l31 ?c31 ?k31 ?a32 ?l32 ?c32 ?k32 ?z_abs ?z_all ?z_any ?z_bool ?z_dict ?z_divmod ?z_int ?z_isinstance ?z_len ?z_list ?z_max ?z_min ?z_range ?z_repr ?z_set ?z_sorted ?z_tuple ?g_GREAT ?gl_GREAT ?g_MOST_DEEDS ?g_MOST_HERE ?g_MOST_PLACES ?g_SMALL ?gl_SMALL
    (case a0 => k_is)
    (case l0 => k_is)
    (case c0 => k_is)
    (case k0 => k_is)
    (case a1 => k_is)
    (case l1 => k_is)
    (case c1 => k_is)
    (case k1 => k_is)
    (case a2 => k_is)
    (case l2 => k_is)
    (case c2 => k_is)
    (case k2 => k_is)
    (case a3 => k_is)
    (case l3 => k_is)
    (case c3 => k_is)
    (case k3 => k_is)
    (case a4 => k_is)
    (case l4 => k_is)
    (case c4 => k_is)
    (case k4 => k_is)
    (case a5 => k_is)
    (case l5 => k_is)
    (case c5 => k_is)
    (case k5 => k_is)
    (case a6 => k_is)
    (case l6 => k_is)
    (case c6 => k_is)
    (case k6 => k_is)
    (case a7 => k_is)
    (case l7 => k_is)
    (case c7 => k_is)
    (case k7 => k_is)
    (case a8 => k_is)
    (case l8 => k_is)
    (case c8 => k_is)
    (case k8 => k_is)
    (case a9 => k_is)
    (case l9 => k_is)
    (case c9 => k_is)
    (case k9 => k_is)
    (case a10 => k_is)
    (case l10 => k_is)
    (case c10 => k_is)
    (case k10 => k_is)
    (case a11 => k_is)
    (case l11 => k_is)
    (case c11 => k_is)
    (case k11 => k_is)
    (case a12 => k_is)
    (case l12 => k_is)
    (case c12 => k_is)
    (case k12 => k_is)
    (case a13 => k_is)
    (case l13 => k_is)
    (case c13 => k_is)
    (case k13 => k_is)
    (case a14 => k_is)
    (case l14 => k_is)
    (case c14 => k_is)
    (case k14 => k_is)
    (case a15 => k_is)
    (case l15 => k_is)
    (case c15 => k_is)
    (case k15 => k_is)
    (case a16 => k_is)
    (case l16 => k_is)
    (case c16 => k_is)
    (case k16 => k_is)
    (case a17 => k_is)
    (case l17 => k_is)
    (case c17 => k_is)
    (case k17 => k_is)
    (case a18 => k_is)
    (case l18 => k_is)
    (case c18 => k_is)
    (case k18 => k_is)
    (case a19 => k_is)
    (case l19 => k_is)
    (case c19 => k_is)
    (case k19 => k_is)
    (case a20 => k_is)
    (case l20 => k_is)
    (case c20 => k_is)
    (case k20 => k_is)
    (case a21 => k_is)
    (case l21 => k_is)
    (case c21 => k_is)
    (case k21 => k_is)
    (case a22 => k_is)
    (case l22 => k_is)
    (case c22 => k_is)
    (case k22 => k_is)
    (case a23 => k_is)
    (case l23 => k_is)
    (case c23 => k_is)
    (case k23 => k_is)
    (case a24 => k_is)
    (case l24 => k_is)
    (case c24 => k_is)
    (case k24 => k_is)
    (case a25 => k_is)
    (case l25 => k_is)
    (case c25 => k_is)
    (case k25 => k_is)
    (case a26 => k_is)
    (case l26 => k_is)
    (case c26 => k_is)
    (case k26 => k_is)
    (case a27 => k_is)
    (case l27 => k_is)
    (case c27 => k_is)
    (case k27 => k_is)
    (case a28 => k_is)
    (case l28 => k_is)
    (case c28 => k_is)
    (case k28 => k_is)
    (case a29 => k_is)
    (case l29 => k_is)
    (case c29 => k_is)
    (case k29 => k_is)
    (case a30 => k_is)
    (case l30 => k_is)
    (case c30 => k_is)
    (case k30 => k_is)
    (case a31 => k_is)
    (case l31 => k_is)
    (case c31 => k_is)
    (case k31 => k_is)
    (case a32 => k_is)
    (case l32 => k_is)
    (case c32 => k_is)
    (case k32 => k_is)
    (case z_abs => k_is)
    (case z_all => k_is)
    (case z_any => k_is)
    (case z_bool => k_is)
    (case z_dict => k_is)
    (case z_divmod => k_is)
    (case z_int => k_is)
    (case z_isinstance => k_is)
    (case z_len => k_is)
    (case z_list => k_is)
    (case z_max => k_is)
    (case z_min => k_is)
    (case z_range => k_is)
    (case z_repr => k_is)
    (case z_set => k_is)
    (case z_sorted => k_is)
    (case z_tuple => k_is)
    (case g_GREAT => k_is)
    (case gl_GREAT => k_is)
    (case g_MOST_DEEDS => k_is)
    (case g_MOST_HERE => k_is)
    (case g_MOST_PLACES => k_is)
    (case g_SMALL => k_is)
    (case gl_SMALL => k_is)

