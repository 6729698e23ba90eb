import PyProof.Rows.All
import HandS.ForMost
import HandS.TupAny
import HandS.TupLe
import HandS.TupMul
import HandS.Wide
import HandS.WideBits
import HandS.Zip
import HandS.DictTup
import HandS.Conv
import HandS.Deep
import HandS.Flow
import HandS.Style
import HandS.Exc
import KE.SortData
import KE.DataMinMax
import HandS.IsInst
import KE.KTupSum
import KE.KDictSum
import PyProof.ReprRoads
import HandS.TupLen
import KE.KDictPairs
import KE.KDictCopyH
import PyProof.Transfer
import HandS.ForSpec
import HandS.Zip0
import Wide.All
import OpenK.AllK
import Wide.FinOn
import PySem.Challenge.RW_counterpane_k41_points
set_option Elab.async false
set_option linter.all false
set_option maxRecDepth 100000
set_option maxHeartbeats 4000000
/-! DV1: values without addresses (D), a store of the mutable objects (Sto), what it means that an abstract heap bears them. -/
namespace DV
open PySem PySem.Spec PyProof.Rows L2

/-- a value: tuples are trees; cst: a tuple that may be a constant of the module; fup: a tuple that is known to its object; loc: a mutable object, by its number -/
inductive D where
  | non | bl (b : Bool) | int (i : Int) | str (x : Str) | tup (ds : List D) | cst (ds : List D) | fup (ds : List D) | loc (n : Nat)
/-- a mutable object -/
inductive MO where
  | lst (ds : List D)
  | ro (ds : List D)
  | dK (kvs : List (Key × D))
  | dT (kvs : List (List Key × D))
  /-- dicts that are locked -/
  | rK (kvs : List (Key × D))
  | rT (kvs : List (List Key × D))
  | ins (C : Addr) (fs : List (Str × D))
abbrev Sto := List MO
abbrev AEnv := List (Option D)

/-- a tuple of the written part -/
def KTup (K : PySem.W.Frag) (a : Addr) (vs : List V) : Prop := SqT K (fun _ => none) a vs
theorem KTup.sq {K : PySem.W.Frag} {H : Hp} {a : Addr} {vs : List V} (h : KTup K a vs) : SqT K H a vs := by
  rcases h with (h | ⟨o, h⟩) | h
  · cases h
  · cases h
  · exact .inr h

/-- a tuple that is read -/
def TupR (K : PySem.W.Frag) (H : Hp) (a : Addr) (vs : List V) : Prop := H a = some (.tup vs) ∨ (∃ o, H a = some (.frz o (.tup vs))) ∨ KTup K a vs
theorem TupR.sq {K : PySem.W.Frag} {H : Hp} {a : Addr} {vs : List V} (h : TupR K H a vs) : SqT K H a vs := by
  rcases h with h | h | h
  · exact .inl (.inl h)
  · exact .inl (.inr h)
  · exact h.sq
/-- tuples stay -/
structure TGrow (H H' : Hp) : Prop where
  t : ∀ a vs, H a = some (.tup vs) → H' a = some (.tup vs)
  f : ∀ a o vs, H a = some (.frz o (.tup vs)) → H' a = some (.frz o (.tup vs))
theorem TGrow.refl (H : Hp) : TGrow H H := ⟨fun _ _ h => h, fun _ _ _ h => h⟩
theorem TupR.mono {K : PySem.W.Frag} {H H' : Hp} {a : Addr} {vs : List V} (g : TGrow H H') (h : TupR K H a vs) : TupR K H' a vs :=
  h.imp (g.t _ _) fun h => h.imp (fun ⟨o, h⟩ => ⟨o, g.f _ _ _ h⟩) id
/-- a change at something else than a tuple -/
theorem TGrow.upd {H : Hp} {a : Addr} {o u : HO} (h : H a = some u) (h1 : ∀ xs, u ≠ .tup xs) (h2 : ∀ o xs, u ≠ .frz o (.tup xs)) : TGrow H (L2.upd H a o) :=
  ⟨fun b vs e => by rw [upd_ne (fun z => by subst z; rw [h] at e; exact h1 _ (Option.some.inj e))]; exact e, fun b o vs e => by rw [upd_ne (fun z => by subst z; rw [h] at e; exact h2 _ _ (Option.some.inj e))]; exact e⟩
mutual
inductive RV (K : PySem.W.Frag) (r : List Addr) (H : Hp) : D → V → Prop
  | non : RV K r H .non .non
  | bl (b : Bool) : RV K r H (.bl b) (.bl b)
  | int (i : Int) : RV K r H (.int i) (.int i)
  | str (x : Str) : RV K r H (.str x) (.str x)
  | tup {ds : List D} {vs : List V} {a : Addr} : H a = some (.tup vs) → RVs K r H ds vs → RV K r H (.tup ds) (.ref a)
  | cst {ds : List D} {vs : List V} {a : Addr} : TupR K H a vs → RVs K r H ds vs → RV K r H (.cst ds) (.ref a)
  | fup {ds : List D} {vs : List V} {a : Addr} {o : Obj} : H a = some (.frz o (.tup vs)) → o.dict = none → RVs K r H ds vs → RV K r H (.fup ds) (.ref a)
  | loc {n : Nat} {a : Addr} : r[n]? = some a → RV K r H (.loc n) (.ref a)
inductive RVs (K : PySem.W.Frag) (r : List Addr) (H : Hp) : List D → List V → Prop
  | nil : RVs K r H [] []
  | cons {d : D} {v : V} {ds : List D} {vs : List V} : RV K r H d v → RVs K r H ds vs → RVs K r H (d :: ds) (v :: vs)
end

section
variable {K : PySem.W.Frag} {r r' : List Addr} {H H' : Hp}
mutual
theorem RV.mono (ht : TGrow H H') (hr : ∀ (n : Nat) a, r[n]? = some a → r'[n]? = some a) : ∀ {d : D} {v : V}, RV K r H d v → RV K r' H' d v
  | _, _, .non => .non
  | _, _, .bl b => .bl b
  | _, _, .int i => .int i
  | _, _, .str x => .str x
  | _, _, .tup h q => .tup (ht.t _ _ h) (RVs.mono ht hr q)
  | _, _, .cst h q => .cst (h.mono ht) (RVs.mono ht hr q)
  | _, _, .fup h hd q => .fup (ht.f _ _ _ h) hd (RVs.mono ht hr q)
  | _, _, .loc h => .loc (hr _ _ h)
theorem RVs.mono (ht : TGrow H H') (hr : ∀ (n : Nat) a, r[n]? = some a → r'[n]? = some a) : ∀ {ds : List D} {vs : List V}, RVs K r H ds vs → RVs K r' H' ds vs
  | _, _, .nil => .nil
  | _, _, .cons h q => .cons (RV.mono ht hr h) (RVs.mono ht hr q)
end
theorem RVs.length : ∀ {ds : List D} {vs : List V}, RVs K r H ds vs → ds.length = vs.length
  | _, _, .nil => rfl
  | _, _, .cons _ q => by simp [RVs.length q]
theorem RVs.get : ∀ {ds : List D} {vs : List V} {i : Nat} {d : D}, RVs K r H ds vs → ds[i]? = some d → ∃ v, vs[i]? = some v ∧ RV K r H d v
  | _, _, _, _, .nil, e => by simp at e
  | _, _, 0, _, .cons h _, e => by simp at e; subst e; exact ⟨_, rfl, h⟩
  | _, _, i + 1, d, .cons _ q, e => by
    obtain ⟨v, h1, h2⟩ := RVs.get (i := i) (d := d) q (by simpa using e)
    exact ⟨v, by simpa using h1, h2⟩
theorem RVs.get' : ∀ {ds : List D} {vs : List V} {i : Nat} {v : V}, RVs K r H ds vs → vs[i]? = some v → ∃ d, ds[i]? = some d ∧ RV K r H d v
  | _, _, _, _, .nil, e => by simp at e
  | _, _, 0, _, .cons h _, e => by simp at e; subst e; exact ⟨_, rfl, h⟩
  | _, _, i + 1, v, .cons _ q, e => by
    obtain ⟨d, h1, h2⟩ := RVs.get' (i := i) (v := v) q (by simpa using e)
    exact ⟨d, by simpa using h1, h2⟩
theorem RVs.append : ∀ {ds es : List D} {vs us : List V}, RVs K r H ds vs → RVs K r H es us → RVs K r H (ds ++ es) (vs ++ us)
  | _, _, _, _, .nil, q => q
  | _, _, _, _, .cons h t, q => .cons h (RVs.append t q)
theorem RVs.set {d : D} {v : V} (h : RV K r H d v) : ∀ {ds : List D} {vs : List V} (i : Nat), RVs K r H ds vs → RVs K r H (ds.set i d) (vs.set i v)
  | _, _, _, .nil => .nil
  | _, _, 0, .cons _ t => .cons h t
  | _, _, i + 1, .cons q t => .cons q (RVs.set h i t)
theorem RVs.take : ∀ {ds : List D} {vs : List V} (n : Nat), RVs K r H ds vs → RVs K r H (ds.take n) (vs.take n)
  | _, _, 0, _ => .nil
  | _, _, _ + 1, .nil => .nil
  | _, _, n + 1, .cons h t => .cons h (RVs.take n t)
theorem RVs.drop : ∀ {ds : List D} {vs : List V} (n : Nat), RVs K r H ds vs → RVs K r H (ds.drop n) (vs.drop n)
  | _, _, 0, q => q
  | _, _, _ + 1, .nil => .nil
  | _, _, n + 1, .cons _ t => RVs.drop n t
theorem RVs.reverse {ds : List D} {vs : List V} (h : RVs K r H ds vs) : RVs K r H ds.reverse vs.reverse := by
  have go : ∀ (ds es : List D) (vs us : List V), RVs K r H ds vs → RVs K r H es us → RVs K r H (ds.reverseAux es) (vs.reverseAux us) := by
    intro ds
    induction ds with
    | nil => intro es vs us h q; cases h; exact q
    | cons d ds ih =>
      intro es vs us h q
      cases h with
      | cons a b =>
        have z := ih (d :: es) _ _ b (RVs.cons a q)
        exact z
  exact go _ _ _ _ h .nil
theorem RVs.erase : ∀ {ds : List D} {vs : List V} (i : Nat), RVs K r H ds vs → RVs K r H (ds.eraseIdx i) (vs.eraseIdx i)
  | _, _, _, .nil => .nil
  | _, _, 0, .cons _ t => t
  | _, _, i + 1, .cons q t => .cons q (RVs.erase i t)
theorem RVs.ints : ∀ (ns : List Int), RVs K r H (ns.map D.int) (ns.map V.int)
  | [] => .nil
  | n :: ns => .cons (.int n) (RVs.ints ns)
theorem RVs.ints_inv : ∀ {ns : List Int} {vs : List V}, RVs K r H (ns.map D.int) vs → vs = ns.map V.int
  | [], _, .nil => rfl
  | n :: ns, _, .cons h t => by cases h; rw [RVs.ints_inv t]; rfl
theorem RVs.bls_inv : ∀ {ns : List Bool} {vs : List V}, RVs K r H (ns.map D.bl) vs → vs = ns.map V.bl
  | [], _, .nil => rfl
  | n :: ns, _, .cons h t => by cases h; rw [RVs.bls_inv t]; rfl
theorem RVs.strs_inv : ∀ {ns : List Str} {vs : List V}, RVs K r H (ns.map D.str) vs → vs = ns.map V.str
  | [], _, .nil => rfl
  | n :: ns, _, .cons h t => by cases h; rw [RVs.strs_inv t]; rfl
def kD : Key → D
  | .inl i => .int i
  | .inr x => .str x
theorem RVs.keys_inv : ∀ {ks : List Key} {vs : List V}, RVs K r H (ks.map kD) vs → vs = ks.map kV
  | [], _, .nil => rfl
  | .inl i :: ks, _, .cons h t => by cases h; rw [RVs.keys_inv t]; rfl
  | .inr i :: ks, _, .cons h t => by cases h; rw [RVs.keys_inv t]; rfl
theorem RVs.keys : ∀ (ks : List Key), RVs K r H (ks.map kD) (ks.map kV)
  | [] => .nil
  | .inl i :: ks => .cons (.int i) (RVs.keys ks)
  | .inr i :: ks => .cons (.str i) (RVs.keys ks)
end

/-- what of the heap lies outside the store stays; the store's addresses grow -/
structure Ext (r : List Addr) (H : Hp) (r' : List Addr) (H' : Hp) : Prop where
  pre : ∃ t, r' = r ++ t
  keep : ∀ a o, a ∉ r → H a = some o → H' a = some o ∧ a ∉ r'
  fr : ∀ a, H' a = none → H a = none
  frz : ∀ a o u, H a = some (.frz o u) → H' a = some (.frz o u)
theorem Ext.refl (r : List Addr) (H : Hp) : Ext r H r H := ⟨⟨[], by simp⟩, fun _ _ h e => ⟨e, h⟩, fun _ h => h, fun _ _ _ h => h⟩
theorem Ext.trans {r r1 r2 : List Addr} {H H1 H2 : Hp} (a : Ext r H r1 H1) (b : Ext r1 H1 r2 H2) : Ext r H r2 H2 :=
  ⟨let ⟨t, e⟩ := a.pre; let ⟨u, e'⟩ := b.pre; ⟨t ++ u, by rw [e', e, List.append_assoc]⟩, fun c o h e => let ⟨h1, h2⟩ := a.keep c o h e; b.keep c o h2 h1, fun c h => a.fr c (b.fr c h), fun c o u h => b.frz c o u (a.frz c o u h)⟩
theorem upd_fr {H : Hp} {p : Addr} {o : HO} : ∀ a, upd H p o a = none → H a = none := fun a h => by
  unfold upd at h
  split at h
  · cases h
  · exact h
theorem Ext.get {r r' : List Addr} {H H' : Hp} (a : Ext r H r' H') {n : Nat} {x : Addr} (h : r[n]? = some x) : r'[n]? = some x := by
  obtain ⟨t, e⟩ := a.pre
  rw [e, List.getElem?_append_left (List.getElem?_eq_some_iff.mp h).1]; exact h

def PKV (K : PySem.W.Frag) (r : List Addr) (H : Hp) {κ : Type} : List (κ × D) → List (κ × V) → Prop := Paired fun (p : κ × D) (q : κ × V) => p.1 = q.1 ∧ RV K r H p.2 q.2
def RO (K : PySem.W.Frag) (r : List Addr) (H : Hp) : MO → Addr → Prop
  | .lst ds, a => ∃ vs, H a = some (.lst vs) ∧ RVs K r H ds vs
  | .ro ds, a => ∃ o vs, H a = some (.frz o (.lst vs)) ∧ RVs K r H ds vs
  | .dK kvs, a => ∃ kvs', H a = some (.dK kvs') ∧ PKV K r H kvs kvs'
  | .dT kvs, a => ∃ kvs', H a = some (.dT kvs') ∧ PKV K r H kvs kvs'
  | .rK kvs, a => ∃ o kvs', H a = some (.frz o (.dK kvs')) ∧ PKV K r H kvs kvs'
  | .rT kvs, a => ∃ o kvs', H a = some (.frz o (.dT kvs')) ∧ PKV K r H kvs kvs'
  | .ins C fs, a => ∃ dx fs', H a = some (.ins C dx fs') ∧ PKV K r H fs fs'
/-- the abstract heap bears the store -/
structure RSt (K : PySem.W.Frag) (r : List Addr) (H : Hp) (S : Sto) : Prop where
  len : r.length = S.length
  nd : r.Nodup
  at_ : ∀ (n : Nat) o, S[n]? = some o → ∃ a, r[n]? = some a ∧ RO K r H o a

section
variable {K : PySem.W.Frag} {r r' : List Addr} {H H' : Hp} {S S' : Sto}
theorem PKV.mono {κ : Type} {kvs : List (κ × D)} {kvs' : List (κ × V)} (ht : TGrow H H') (hr : ∀ (n : Nat) a, r[n]? = some a → r'[n]? = some a) (h : PKV K r H kvs kvs') : PKV K r' H' kvs kvs' :=
  Paired.mapP h fun _ _ ⟨a, b⟩ => ⟨a, b.mono ht hr⟩
theorem RO.mono {o : MO} {a : Addr} (ht : TGrow H H') (hr : ∀ (n : Nat) a, r[n]? = some a → r'[n]? = some a) (ha : H' a = H a) (h : RO K r H o a) : RO K r' H' o a := by
  cases o with
  | lst ds => obtain ⟨vs, e, q⟩ := h; exact ⟨vs, ha.trans e, q.mono ht hr⟩
  | ro ds => obtain ⟨o, vs, e, q⟩ := h; exact ⟨o, vs, ha.trans e, q.mono ht hr⟩
  | dK kvs => obtain ⟨vs, e, q⟩ := h; exact ⟨vs, ha.trans e, q.mono ht hr⟩
  | dT kvs => obtain ⟨vs, e, q⟩ := h; exact ⟨vs, ha.trans e, q.mono ht hr⟩
  | rK kvs => obtain ⟨o, vs, e, q⟩ := h; exact ⟨o, vs, ha.trans e, q.mono ht hr⟩
  | rT kvs => obtain ⟨o, vs, e, q⟩ := h; exact ⟨o, vs, ha.trans e, q.mono ht hr⟩
  | ins C fs => obtain ⟨dx, vs, e, q⟩ := h; exact ⟨dx, vs, ha.trans e, q.mono ht hr⟩
theorem RO.some {o : MO} {a : Addr} (h : RO K r H o a) : ∃ u, H a = Option.some u ∧ ∀ xs, u ≠ .tup xs := by
  cases o with
  | lst ds => obtain ⟨vs, e, q⟩ := h; exact ⟨_, e, fun _ z => nomatch z⟩
  | ro ds => obtain ⟨o, vs, e, q⟩ := h; exact ⟨_, e, fun _ z => nomatch z⟩
  | dK kvs => obtain ⟨vs, e, q⟩ := h; exact ⟨_, e, fun _ z => nomatch z⟩
  | dT kvs => obtain ⟨vs, e, q⟩ := h; exact ⟨_, e, fun _ z => nomatch z⟩
  | rK kvs => obtain ⟨o, vs, e, q⟩ := h; exact ⟨_, e, fun _ z => nomatch z⟩
  | rT kvs => obtain ⟨o, vs, e, q⟩ := h; exact ⟨_, e, fun _ z => nomatch z⟩
  | ins C fs => obtain ⟨dx, vs, e, q⟩ := h; exact ⟨_, e, fun _ z => nomatch z⟩
theorem RSt.mem (R : RSt K r H S) {a : Addr} (h : a ∈ r) : ∃ u, H a = some u ∧ ∀ xs, u ≠ .tup xs := by
  obtain ⟨n, hn, e⟩ := List.mem_iff_getElem.mp h
  have h1 : n < S.length := R.len ▸ hn
  obtain ⟨b, e1, q⟩ := R.at_ n S[n] (List.getElem?_eq_getElem h1)
  have e2 : b = a := by rw [List.getElem?_eq_getElem hn, e] at e1; exact (Option.some.inj e1).symm
  subst e2
  exact q.some
theorem RSt.nmem (R : RSt K r H S) {a : Addr} (h : H a = none) : a ∉ r := fun z => by
  obtain ⟨u, e, _⟩ := R.mem z
  rw [h] at e; cases e
theorem RSt.ntup (R : RSt K r H S) {a : Addr} {xs : List V} (h : H a = some (.tup xs)) : a ∉ r := fun z => by
  obtain ⟨u, e, q⟩ := R.mem z
  rw [h] at e; cases e; exact q _ rfl
theorem RSt.tups (R : RSt K r H S) (x : Ext r H r' H') : TGrow H H' := ⟨fun a vs e => (x.keep a _ (R.ntup e) e).1, fun a o vs e => x.frz a o _ e⟩
theorem RV.ext {d : D} {v : V} (h : RV K r H d v) (R : RSt K r H S) (x : Ext r H r' H') : RV K r' H' d v := h.mono (R.tups x) fun _ _ e => x.get e
theorem RVs.ext {d : List D} {v : List V} (h : RVs K r H d v) (R : RSt K r H S) (x : Ext r H r' H') : RVs K r' H' d v := h.mono (R.tups x) fun _ _ e => x.get e
/-- a new object outside the store -/
theorem RSt.new (R : RSt K r H S) {p : Addr} {o : HO} (hp : H p = none) : RSt K r (upd H p o) S ∧ Ext r H r (upd H p o) := by
  have x : Ext r H r (upd H p o) := ⟨⟨[], by simp⟩, fun a u h e => ⟨by rw [upd_ne (ne_of_none e hp)]; exact e, h⟩, upd_fr, fun a o u e => by rw [upd_ne (ne_of_none e hp)]; exact e⟩
  refine ⟨⟨R.len, R.nd, fun n u e => ?_⟩, x⟩
  obtain ⟨a, e1, q⟩ := R.at_ n u e
  obtain ⟨w, e2, _⟩ := q.some
  exact ⟨a, e1, q.mono (R.tups x) (fun _ _ z => z) (upd_ne (ne_of_none e2 hp))⟩
/-- a new object of the store -/
theorem RSt.alloc (R : RSt K r H S) {p : Addr} {o : HO} {m : MO} (hp : H p = none) (hm : RO K (r ++ [p]) (upd H p o) m p) : RSt K (r ++ [p]) (upd H p o) (S ++ [m]) ∧ Ext r H (r ++ [p]) (upd H p o) := by
  have x : Ext r H (r ++ [p]) (upd H p o) := ⟨⟨[p], rfl⟩, fun a u h e => ⟨by rw [upd_ne (ne_of_none e hp)]; exact e, by
    simp only [List.mem_append, List.mem_singleton, not_or]; exact ⟨h, ne_of_none e hp⟩⟩, upd_fr, fun a o u e => by rw [upd_ne (ne_of_none e hp)]; exact e⟩
  refine ⟨⟨by simp [R.len], ?_, fun n u e => ?_⟩, x⟩
  · rw [List.nodup_append]
    refine ⟨R.nd, by simp, fun a ha b hb => ?_⟩
    have : b = p := by simpa using hb
    subst this
    intro z; subst z; exact R.nmem hp ha
  · by_cases hn : n < S.length
    · rw [List.getElem?_append_left hn] at e
      obtain ⟨a, e1, q⟩ := R.at_ n u e
      obtain ⟨w, e2, _⟩ := q.some
      exact ⟨a, x.get e1, q.mono (R.tups x) (fun _ _ z => x.get z) (upd_ne (ne_of_none e2 hp))⟩
    · rw [List.getElem?_append_right (by omega)] at e
      have hz : n - S.length = 0 := by
        cases hk : n - S.length with
        | zero => rfl
        | succ k => rw [hk] at e; simp at e
      rw [hz] at e
      have : m = u := by simpa using e
      subst this
      refine ⟨p, ?_, hm⟩
      have : n = r.length := by have := R.len; omega
      rw [this]; simp
/-- an object of the store changes -/
theorem RSt.put (R : RSt K r H S) {n : Nat} {a : Addr} {o : HO} {m : MO} (hn : r[n]? = some a) (hf : ∀ o u, H a ≠ some (.frz o u)) (hm : RO K r (upd H a o) m a) : RSt K r (upd H a o) (S.set n m) ∧ Ext r H r (upd H a o) := by
  have ha : a ∈ r := List.mem_of_getElem? hn
  have x : Ext r H r (upd H a o) := ⟨⟨[], by simp⟩, fun b u h e => ⟨by rw [upd_ne (fun z : b = a => h (by rw [z]; exact ha))]; exact e, h⟩, upd_fr, fun b o u e => by rw [upd_ne (fun z : b = a => hf o u (by rw [← z]; exact e))]; exact e⟩
  refine ⟨⟨by simp [R.len], R.nd, fun k u e => ?_⟩, x⟩
  by_cases hk : n = k
  · subst hk
    have hl : n < S.length := by
      rw [← R.len]; exact (List.getElem?_eq_some_iff.mp hn).1
    rw [List.getElem?_set_self hl] at e
    cases e
    exact ⟨a, hn, hm⟩
  · rw [List.getElem?_set_ne hk] at e
    obtain ⟨b, e1, q⟩ := R.at_ k u e
    refine ⟨b, e1, q.mono (R.tups x) (fun _ _ z => z) (upd_ne fun z => hk ?_)⟩
    subst z
    obtain ⟨h1, h2⟩ := List.getElem?_eq_some_iff.mp hn
    obtain ⟨h3, h4⟩ := List.getElem?_eq_some_iff.mp e1
    exact (List.getElem_inj R.nd).mp (h2.trans h4.symm)
end

/-- the names' slots and the store -/
structure RA (K : PySem.W.Frag) (r : List Addr) (H : Hp) (t : L2.St) (env : AEnv) (S : Sto) : Prop where
  st : RSt K r H S
  len : t.length = env.length
  sl : ∀ (i : Nat) d, env[i]? = some (some d) → ∃ v, t[i]? = some (some v) ∧ RV K r H d v
section
variable {K : PySem.W.Frag} {r r' : List Addr} {H H' : Hp} {S S' : Sto} {t : L2.St} {env : AEnv}
theorem RA.ext (R : RA K r H t env S) (x : Ext r H r' H') (R' : RSt K r' H' S') : RA K r' H' t env S' :=
  ⟨R', R.len, fun i d e => let ⟨v, e1, q⟩ := R.sl i d e; ⟨v, e1, q.ext R.st x⟩⟩
theorem RA.set (R : RA K r H t env S) {i : Nat} {d : D} {v : V} (q : RV K r H d v) : RA K r H (t.set i (some v)) (env.set i (some d)) S :=
  ⟨R.st, by simp [R.len], fun j e h => by
    by_cases hj : i = j
    · subst hj
      by_cases hl : i < env.length
      · rw [List.getElem?_set_self hl] at h
        cases h
        exact ⟨v, List.getElem?_set_self (by rw [R.len]; exact hl), q⟩
      · rw [List.getElem?_eq_none (by simpa using hl)] at h; cases h
    · rw [List.getElem?_set_ne hj] at h
      obtain ⟨u, e1, q1⟩ := R.sl j e h
      exact ⟨u, by rw [List.getElem?_set_ne hj]; exact e1, q1⟩⟩
end

/-- an exception: its class, its fields (none: it has no dict of its own) -/
structure Ex where
  C : Addr
  fs : Option (List (Str × D))
inductive Res (α : Type) where
  | ok (a : α) (S : Sto)
  | exc (c : Ex) (S : Sto)
  | bad
@[simp] def Res.bind {α β : Type} (x : Res α) (f : α → Sto → Res β) : Res β := match x with
  | .ok a S => f a S
  | .exc c S => .exc c S
  | .bad => .bad
inductive SRes where
  | nx (env : AEnv) (S : Sto)
  | ret (d : D) (S : Sto)
  | brk (env : AEnv) (S : Sto)
  | ct (env : AEnv) (S : Sto)
  | exc (c : Ex) (env : AEnv) (S : Sto)
  | bad
def RX (K : PySem.W.Frag) (r : List Addr) (H : Hp) (c : Ex) (cls : Value) (dx : Option Addr) : Prop :=
  cls = .ref c.C ∧ match c.fs with
    | none => dx = none
    | some fs => ∃ a fs', dx = some a ∧ a ∉ r ∧ H a = some (.xd fs') ∧ PKV K r H fs fs'
abbrev EvE := AEnv → Sto → Res D
abbrev EvS := AEnv → Sto → SRes
/-- how a result is borne: by the heap ahead (what is new), the addresses, the heap -/
abbrev Rel (α β : Type) := Hp → List Addr → Hp → α → β → Prop
structure Anti {α β : Type} (RR : Rel α β) : Prop where
  up : ∀ (H H1 : Hp) (r : List Addr) (H2 : Hp) (a : α) (b : β), (∀ c, H1 c = none → H c = none) → RR H1 r H2 a b → RR H r H2 a b
section
variable (K : PySem.W.Frag) (W : WX)
abbrev RVE : Rel D V := fun _ r H d v => RV K r H d v
abbrev RVA : Rel (List D) (List V) := fun _ r H d v => RVs K r H d v
abbrev RVT : Rel Bool Bool := fun _ _ _ a b => a = b
/-- a list that was made and that no name has -/
def RVL : Rel (List D) V := fun H0 r H ds v => ∃ a vs, v = .ref a ∧ H0 a = none ∧ a ∉ r ∧ H a = some (.lst vs) ∧ RVs K r H ds vs
def resP {α β : Type} (RR : Rel α β) (r : List Addr) (H : Hp) (t : L2.St) (x : Res α) (Q : β → Hp → Prop) : Prop := match x with
  | .ok a S' => ∀ r' H' b, Ext r H r' H' → RSt K r' H' S' → RR H r' H' a b → Q b H'
  | .exc c S' => ∀ r' H' cls dx, Ext r H r' H' → RSt K r' H' S' → RX K r' H' c cls dx → W cls dx t H'
  | .bad => False
def sresP (r : List Addr) (H : Hp) (x : SRes) (E : Ends) : Prop := match x with
  | .nx env S' => ∀ r' H' t', Ext r H r' H' → RA K r' H' t' env S' → E.nx t' H'
  | .ret d S' => ∀ r' H' v, Ext r H r' H' → RSt K r' H' S' → RV K r' H' d v → E.rt v H'
  | .brk env S' => ∀ r' H' t', Ext r H r' H' → RA K r' H' t' env S' → E.bk t' H'
  | .ct env S' => ∀ r' H' t', Ext r H r' H' → RA K r' H' t' env S' → E.ct t' H'
  | .exc c env S' => ∀ r' H' t' cls dx, Ext r H r' H' → RA K r' H' t' env S' → RX K r' H' c cls dx → W cls dx t' H'
  | .bad => False
def lift {α β : Type} (RR : Rel α β) (f : AEnv → Sto → Res α) (t : L2.St) (H : Hp) (Q : β → Hp → Prop) : Prop :=
  ∃ r env S, RA K r H t env S ∧ resP K W RR r H t (f env S) Q
def liftE (f : EvE) : TE := fun t H Q => lift K W (RVE K) f t H Q
def liftL (f : AEnv → Sto → Res (List D)) : TE := fun t H Q => lift K W (RVL K) f t H Q
def liftT (f : AEnv → Sto → Res Bool) : TT := fun t H Q => lift K W RVT f t H Q
def liftA (f : AEnv → Sto → Res (List D)) : TA := fun t H Q => lift K W (RVA K) f t H Q
def liftS (f : EvS) : TS := fun E t H => ∃ r env S, RA K r H t env S ∧ sresP K W r H (f env S) E
end
theorem anti_E {K : PySem.W.Frag} : Anti (RVE K) := ⟨fun _ _ _ _ _ _ _ h => h⟩
theorem anti_A {K : PySem.W.Frag} : Anti (RVA K) := ⟨fun _ _ _ _ _ _ _ h => h⟩
theorem anti_T : Anti RVT := ⟨fun _ _ _ _ _ _ _ h => h⟩
theorem anti_L {K : PySem.W.Frag} : Anti (RVL K) := ⟨fun _ _ _ _ _ _ k ⟨a, vs, e, n, h⟩ => ⟨a, vs, e, k _ n, h⟩⟩
structure DE (X : Cx) (W : WX) (e : Expr) (f : EvE) : Prop where
  pe : PE X e (liftE X.K W f)
/-- an expression that makes a new list -/
structure DL (X : Cx) (W : WX) (e : Expr) (f : AEnv → Sto → Res (List D)) : Prop where
  pe : PE X e (liftL X.K W f)
structure DT (X : Cx) (W : WX) (e : Expr) (f : AEnv → Sto → Res Bool) : Prop where
  pt : PT X e (liftT X.K W f)
structure DW (X : Cx) (W : WX) (e : Expr) (f : AEnv → Sto → Res Bool) : Prop where
  pw : PW X e (liftT X.K W f)
structure DA (X : Cx) (W : WX) (es : List Expr) (f : AEnv → Sto → Res (List D)) : Prop where
  pa : PA X es (liftA X.K W f)
structure DS (X : Cx) (W : WX) (s : Stmt) (f : EvS) : Prop where
  ps : PS X s (liftS X.K W f)
structure DSs (X : Cx) (W : WX) (s : List Stmt) (f : EvS) : Prop where
  ps : PSs X s (liftS X.K W f)

section
variable {K : PySem.W.Frag} {W : WX} {r r' : List Addr} {H H' : Hp} {S S' : Sto} {t : L2.St} {env : AEnv}
theorem resP.ext {α β : Type} {RR : Rel α β} (an : Anti RR) {x : Res α} {Q : β → Hp → Prop} (h : resP K W RR r H t x Q) (e : Ext r H r' H') : resP K W RR r' H' t x Q := by
  cases x with
  | ok a S' => exact fun r2 H2 b e2 R q => h r2 H2 b (e.trans e2) R (an.up _ _ _ _ _ _ e.fr q)
  | exc c S' => exact fun r2 H2 cls dx e2 R q => h r2 H2 cls dx (e.trans e2) R q
  | bad => exact h
theorem sresP.ext {x : SRes} {E : Ends} (h : sresP K W r H x E) (e : Ext r H r' H') : sresP K W r' H' x E := by
  cases x with
  | nx env S' => exact fun r2 H2 t2 e2 R => h r2 H2 t2 (e.trans e2) R
  | ret d S' => exact fun r2 H2 v e2 R q => h r2 H2 v (e.trans e2) R q
  | brk env S' => exact fun r2 H2 t2 e2 R => h r2 H2 t2 (e.trans e2) R
  | ct env S' => exact fun r2 H2 t2 e2 R => h r2 H2 t2 (e.trans e2) R
  | exc c env S' => exact fun r2 H2 t2 cls dx e2 R q => h r2 H2 t2 cls dx (e.trans e2) R q
  | bad => exact h
/-- one thing behind another -/
theorem lift_bind {α β γ δ : Type} {RR : Rel α β} {RR' : Rel γ δ} (an : Anti RR') {f : AEnv → Sto → Res α} {g : α → AEnv → Sto → Res γ} {Q : δ → Hp → Prop} {Q' : β → Hp → Prop}
    (R : RA K r H t env S) (h : resP K W RR' r H t ((f env S).bind fun a S1 => g a env S1) Q)
    (k : ∀ a S1 r1 H1 b, Ext r H r1 H1 → RA K r1 H1 t env S1 → RR H r1 H1 a b → resP K W RR' r1 H1 t (g a env S1) Q → Q' b H1) : lift K W RR f t H Q' := by
  refine ⟨r, env, S, R, ?_⟩
  cases hx : f env S with
  | ok a S1 =>
    rw [hx] at h
    exact fun r1 H1 b e1 R1 q1 => k a S1 r1 H1 b e1 (R.ext e1 R1) q1 (resP.ext an h e1)
  | exc c S1 => rw [hx] at h; exact h
  | bad => rw [hx] at h; exact h
/-- the last part: its own wish -/
theorem lift_map {α β γ δ : Type} {RR : Rel α β} {RR' : Rel γ δ} {f : AEnv → Sto → Res α} {g : α → AEnv → Sto → Res γ} {Q : δ → Hp → Prop} {Q' : β → Hp → Prop}
    (R : RA K r H t env S) (h : resP K W RR' r H t ((f env S).bind fun a S1 => g a env S1) Q)
    (k : ∀ a S1 r1 H1 b, Ext r H r1 H1 → RA K r1 H1 t env S1 → RR H r1 H1 a b → resP K W RR' r H t (g a env S1) Q → Q' b H1) : lift K W RR f t H Q' := by
  refine ⟨r, env, S, R, ?_⟩
  cases hx : f env S with
  | ok a S1 =>
    rw [hx] at h
    exact fun r1 H1 b e1 R1 q1 => k a S1 r1 H1 b e1 (R.ext e1 R1) q1 h
  | exc c S1 => rw [hx] at h; exact h
  | bad => rw [hx] at h; exact h
@[simp] def sbind {α : Type} (x : Res α) (env : AEnv) (g : α → Sto → SRes) : SRes := match x with
  | .ok a S => g a S
  | .exc c S => .exc c env S
  | .bad => .bad
theorem slift_bind {α β : Type} {RR : Rel α β} {f : AEnv → Sto → Res α} {g : α → Sto → SRes} {E : Ends} {Q' : β → Hp → Prop}
    (R : RA K r H t env S) (h : sresP K W r H (sbind (f env S) env g) E)
    (k : ∀ a S1 r1 H1 b, Ext r H r1 H1 → RA K r1 H1 t env S1 → RR H r1 H1 a b → sresP K W r1 H1 (g a S1) E → Q' b H1) : lift K W RR f t H Q' := by
  refine ⟨r, env, S, R, ?_⟩
  cases hx : f env S with
  | ok a S1 =>
    rw [hx] at h
    exact fun r1 H1 b e1 R1 q1 => k a S1 r1 H1 b e1 (R.ext e1 R1) q1 (sresP.ext h e1)
  | exc c S1 => rw [hx] at h; exact fun r2 H2 cls dx e2 R2 q2 => h r2 H2 t cls dx e2 (R.ext e2 R2) q2
  | bad => rw [hx] at h; exact h
theorem PE.imp {X : Cx} {e : Expr} {t t' : TE} (h : PE X e t) (k : ∀ s H Q, t' s H Q → t s H Q) : PE X e t' := ⟨fun pins s u H Q I q => h.run pins s u H Q I (k _ _ _ q)⟩
theorem PT.imp {X : Cx} {e : Expr} {t t' : TT} (h : PT X e t) (k : ∀ s H Q, t' s H Q → t s H Q) : PT X e t' := ⟨fun pins s u H Q I q => h.run pins s u H Q I (k _ _ _ q)⟩
theorem PW.imp {X : Cx} {e : Expr} {t t' : TT} (h : PW X e t) (k : ∀ s H Q, t' s H Q → t s H Q) : PW X e t' := ⟨fun w pins s u H Q I q => h.run w pins s u H Q I (k _ _ _ q)⟩
theorem PA.imp {X : Cx} {e : List Expr} {t t' : TA} (h : PA X e t) (k : ∀ s H Q, t' s H Q → t s H Q) : PA X e t' := ⟨fun pos pins s u H Q I q => h.run pos pins s u H Q I (k _ _ _ q)⟩
theorem PS.imp {X : Cx} {e : Stmt} {t t' : TS} (h : PS X e t) (k : ∀ E s H, t' E s H → t E s H) : PS X e t' := ⟨fun pins s u H E I q => h.run pins s u H E I (k _ _ _ q)⟩
theorem PSs.imp {X : Cx} {e : List Stmt} {t t' : TS} (h : PSs X e t) (k : ∀ E s H, t' E s H → t E s H) : PSs X e t' := ⟨fun pins s u H E I q => h.run pins s u H E I (k _ _ _ q)⟩
end
end DV
/-! DV2: expressions over D: names, constants, operators, comparisons, tests, displays. -/
namespace DV
open PySem PySem.Spec PyProof.Rows L2

/-- the largest length of a list that is made -/
abbrev LN : Nat := 16777216
theorem LN_line {n : Nat} (h : n ≤ LN) : n ≤ sizeLine := by rw [sizeLine_eq]; exact h
def D.seq? : D → Option (List D)
  | .tup ds => some ds
  | .cst ds => some ds
  | .fup ds => some ds
  | _ => none

section
variable {K : PySem.W.Frag} {W : WX} {r r' : List Addr} {H H' : Hp} {S S' : Sto} {t : L2.St} {env : AEnv}
theorem RV.seq {d : D} {ds : List D} {v : V} (h : RV K r H d v) (e : d.seq? = some ds) : ∃ a vs, v = .ref a ∧ SqT K H a vs ∧ RVs K r H ds vs := by
  cases h with
  | tup h q => simp [D.seq?] at e; subst e; exact ⟨_, _, rfl, .inl (.inl h), q⟩
  | cst h q => simp [D.seq?] at e; subst e; exact ⟨_, _, rfl, h.sq, q⟩
  | fup h hd q => simp [D.seq?] at e; subst e; exact ⟨_, _, rfl, .inl (.inr ⟨_, h⟩), q⟩
  | _ => simp [D.seq?] at e
end

/-! ### names, constants -/
section
variable {X : Cx} {W : WX}
@[simp] def eVar (i : Nat) : EvE := fun env S => match env[i]? with
  | some (some d) => .ok d S
  | _ => .bad
@[simp] def eC (d : D) : EvE := fun _ S => .ok d S
theorem d_pe {e : Expr} {f : EvE} {tt : TE} (h : PE X e tt) (k : ∀ s H Q, liftE X.K W f s H Q → tt s H Q) : DE X W e f := ⟨PE.imp h k⟩
theorem dv (i : Nat) {x : Str} {pos : Pos} (hN : X.N[i]? = some x := by rfl) (hv : Vis X.env.scope x := by first | exact Or.inl rfl | exact Or.inr (Or.inl rfl) | exact Or.inr (Or.inr rfl)) (hd : (x == ("__debug__" : Str)) = false := by decide)
    (hcd : (x == ("__classdict__" : Str)) = false := by decide) : DE X W (.Name x pos) (eVar i) := by
  refine d_pe (pe_var hN hv hd hcd) fun s H Q h => ?_
  obtain ⟨r, env, S, R, q⟩ := h
  simp only [eVar] at q
  split at q
  · rename_i d e
    obtain ⟨v, e1, rv⟩ := R.sl i d e
    exact ⟨v, e1, q r H v (Ext.refl r H) R.st rv⟩
  · exact q.elim
theorem d_c {e : Expr} {v : V} {d : D} (h : PE X e (tC v)) (rv : ∀ r H, RV X.K r H d v) : DE X W e (eC d) :=
  d_pe h fun s H Q ⟨r, env, S, R, q⟩ => q r H v (Ext.refl r H) R.st (rv r H)
theorem d_int {i j pos} : DE X W (.Constant (.int i) j pos) (eC (.int i)) := d_c pe_int fun _ _ => .int i
theorem d_bl {i j pos} : DE X W (.Constant (.bool i) j pos) (eC (.bl i)) := d_c pe_bl fun _ _ => .bl i
theorem d_non {j pos} : DE X W (.Constant .none j pos) (eC .non) := d_c pe_non fun _ _ => .non
theorem d_str {i j pos} : DE X W (.Constant (.str i) j pos) (eC (.str i)) := d_c pe_str fun _ _ => .str i
theorem d_gint {x : Str} {i : Int} {tk : Tok} {pos : Pos} (hg : Gl X x) (hm : X.mg x = some (.int i tk)) (hd : (x == ("__debug__" : Str)) = false := by decide) : DE X W (.Name x pos) (eC (.int i)) :=
  d_c (pe_glob (v := .int i) hg hm ⟨tk, rfl⟩ hd) fun _ _ => .int i
theorem d_gstr {x : Str} {i : Str} {tk : Tok} {pos : Pos} (hg : Gl X x) (hm : X.mg x = some (.str i tk)) (hd : (x == ("__debug__" : Str)) = false := by decide) : DE X W (.Name x pos) (eC (.str i)) :=
  d_c (pe_glob (v := .str i) hg hm ⟨tk, rfl⟩ hd) fun _ _ => .str i
theorem d_gcst {x : Str} {a : Addr} {ns : List Int} {pos : Pos} (hg : Gl X x) (hm : X.mg x = some (.ref a)) (kt : KTup X.K a (ns.map V.int)) (hd : (x == ("__debug__" : Str)) = false := by decide) : DE X W (.Name x pos) (eC (.cst (ns.map D.int))) :=
  d_c (pe_glob (v := .ref a) hg hm rfl hd) fun r H => .cst (.inr (.inr kt)) (RVs.ints ns)

/-! ### operators -/
/-- a result at a heap that has grown by things outside the store -/
def OutD (K : PySem.W.Frag) (r : List Addr) (H : Hp) (S : Sto) (o : Option D) (Q : VK) : Prop := match o with
  | some d => ∀ H' v, Ext r H r H' → RSt K r H' S → RV K r H' d v → Q v H'
  | none => False
def OpD (X : Cx) (f : Value → Value → Sem Value) (g : D → D → Option D) : Prop :=
  OpR X f fun x y H Q => ∃ r S d1 d2, RSt X.K r H S ∧ RV X.K r H d1 x ∧ RV X.K r H d2 y ∧ OutD X.K r H S (g d1 d2) Q
theorem OpR.imp {f : Value → Value → Sem Value} {q q' : R2} (h : OpR X f q) (k : ∀ x y H Q, q' x y H Q → q x y H Q) : OpR X f q' := fun pins s σ H x y v u Q I rx ry z => h pins s σ H x y v u Q I rx ry (k _ _ _ _ z)
theorem CallR.imp {f : Value} {q q' : List V → Hp → VK → Prop} (h : CallR X f q) (k : ∀ x H Q, q' x H Q → q x H Q) : CallR X f q' := fun pins s σ H x v Q I rx z => h pins s σ H x v Q I rx (k _ _ _ z)
@[simp] def ofO (o : Option D) (S : Sto) : Res D := match o with
  | some d => .ok d S
  | none => .bad
@[simp] def eBin (g : D → D → Option D) (fa fb : EvE) : EvE := fun env S => (fa env S).bind fun d1 S1 => (fb env S1).bind fun d2 S2 => ofO (g d1 d2) S2
variable {a b c : Expr} {fa fb fc : EvE} {pos : Pos}
theorem ofO_out {K : PySem.W.Frag} {r : List Addr} {H : Hp} {t : L2.St} {S : Sto} {o : Option D} {Q : VK} (q : resP K W (RVE K) r H t (ofO o S) Q) : OutD K r H S o Q := by
  cases o with
  | none => exact q
  | some d => exact fun H' v e R rv => q r H' v e R rv
theorem bin_lift {s : L2.St} {H : Hp} {Q : VK} {g : D → D → Option D} {rr : V → V → Hp → Prop}
    (h : liftE X.K W (eBin g fa fb) s H Q) (k : ∀ x y H2, (∃ r S d1 d2, RSt X.K r H2 S ∧ RV X.K r H2 d1 x ∧ RV X.K r H2 d2 y ∧ OutD X.K r H2 S (g d1 d2) Q) → rr x y H2) :
    liftE X.K W fa s H fun x H1 => liftE X.K W fb s H1 fun y H2 => rr x y H2 := by
  obtain ⟨r, env, S, R, q⟩ := h
  refine lift_bind (g := fun d1 env S1 => (fb env S1).bind fun d2 S2 => ofO (g d1 d2) S2) anti_E R q fun d1 S1 r1 H1 x e1 R1 rx q1 => ?_
  refine lift_bind (g := fun d2 env S2 => ofO (g d1 d2) S2) anti_E R1 q1 fun d2 S2 r2 H2 y e2 R2 ry q2 => ?_
  exact k x y H2 ⟨r2, S2, d1, d2, R2.st, RV.ext rx R1.st e2, ry, ofO_out q2⟩
theorem d_bin {op : Operator} {g : D → D → Option D} (ho : OpD X (binaryOp op) g) (ha : DE X W a fa) (hb : DE X W b fb) : DE X W (.BinOp a op b pos) (eBin g fa fb) :=
  d_pe (pe_op ho ha.pe hb.pe) fun s H Q h => bin_lift h fun x y H2 q => q
theorem d_cmp {op : CmpOp} {g : D → D → Option D} (ho : OpD X (compareOp op) g) (ha : DE X W a fa) (hb : DE X W b fb) (hm : behindInMarks op b = false) : DE X W (.Compare a [op] [b] pos) (eBin g fa fb) :=
  d_pe (pe_cmpR ho ha.pe hb.pe hm) fun s H Q h => bin_lift h fun x y H2 q => q
@[simp] def isBl (d : D) (S : Sto) : Res Bool := match d with
  | .bl b => .ok b S
  | _ => .bad
@[simp] def tBin (g : D → D → Option D) (fa fb : EvE) : AEnv → Sto → Res Bool := fun env S => (eBin g fa fb env S).bind isBl
theorem isBl_out {K : PySem.W.Frag} {r : List Addr} {H : Hp} {t : L2.St} {S : Sto} {d : D} {x : V} {Q : Bool → Hp → Prop} (q : resP K W RVT r H t (isBl d S) Q) (R : RSt K r H S) (rv : RV K r H d x) : ∃ k, x = .bl k ∧ Q k H := by
  cases rv with
  | bl b => exact ⟨b, rfl, q r H b (Ext.refl r H) R rfl⟩
  | _ => exact q.elim
theorem dt_cmp {op : CmpOp} {g : D → D → Option D} (ho : OpD X (compareOp op) g) (ha : DE X W a fa) (hb : DE X W b fb) (hm : behindInMarks op b = false) : DT X W (.Compare a [op] [b] pos) (tBin g fa fb) := by
  refine ⟨PT.imp (pt_cmpR ho ha.pe hb.pe hm) fun s H Q h => ?_⟩
  obtain ⟨r, env, S, R, q⟩ := h
  have q1 : liftE X.K W (eBin g fa fb) s H fun x H' => ∃ k, x = .bl k ∧ Q k H' :=
    lift_bind (g := fun d env S => isBl d S) anti_T R q fun d S1 r1 H1 x e1 R1 rx q1 => isBl_out q1 R1.st rx
  exact bin_lift q1 fun x y H2 q => q

/-! ### and, or, not, if -/
@[simp] def bAnd (p q : AEnv → Sto → Res Bool) : AEnv → Sto → Res Bool := fun env S => (p env S).bind fun c S1 => if c then q env S1 else .ok false S1
@[simp] def bOr (p q : AEnv → Sto → Res Bool) : AEnv → Sto → Res Bool := fun env S => (p env S).bind fun c S1 => if c then .ok true S1 else q env S1
@[simp] def bNot (p : AEnv → Sto → Res Bool) : AEnv → Sto → Res Bool := fun env S => (p env S).bind fun c S1 => .ok (!c) S1
variable {p q : AEnv → Sto → Res Bool} {rest : List Expr}
theorem dw_and1 (h : DT X W a p) : DW X W (.BoolOp .And [a] pos) p := ⟨pw_and1 h.pt⟩
theorem dw_or1 (h : DT X W a p) : DW X W (.BoolOp .Or [a] pos) p := ⟨pw_or1 h.pt⟩
theorem dw_and (ha : DT X W a p) (hb : DW X W (.BoolOp .And (b :: rest) pos) q) : DW X W (.BoolOp .And (a :: b :: rest) pos) (bAnd p q) := by
  refine ⟨PW.imp (pw_and ha.pt hb.pw) fun s H Q h => ?_⟩
  obtain ⟨r, env, S, R, z⟩ := h
  refine lift_bind (g := fun (c : Bool) env S1 => (if c then q env S1 else Res.ok false S1 : Res Bool)) anti_T R z fun c S1 r1 H1 x e1 R1 rx z1 => ?_
  cases rx
  cases c with
  | true => exact ⟨r1, env, S1, R1, z1⟩
  | false => exact z1 r1 H1 false (Ext.refl r1 H1) R1.st rfl
theorem dw_or (ha : DT X W a p) (hb : DW X W (.BoolOp .Or (b :: rest) pos) q) : DW X W (.BoolOp .Or (a :: b :: rest) pos) (bOr p q) := by
  refine ⟨PW.imp (pw_or ha.pt hb.pw) fun s H Q h => ?_⟩
  obtain ⟨r, env, S, R, z⟩ := h
  refine lift_bind (g := fun (c : Bool) env S1 => (if c then Res.ok true S1 else q env S1 : Res Bool)) anti_T R z fun c S1 r1 H1 x e1 R1 rx z1 => ?_
  cases rx
  cases c with
  | false => exact ⟨r1, env, S1, R1, z1⟩
  | true => exact z1 r1 H1 true (Ext.refl r1 H1) R1.st rfl
theorem dt_w {e : Expr} (h : DW X W e p) : DT X W e p := ⟨h.pw.pt⟩
theorem dt_not (h : DT X W a p) : DT X W (.UnaryOp .Not a pos) (bNot p) := by
  refine ⟨PT.imp (pt_not h.pt) fun s H Q h => ?_⟩
  obtain ⟨r, env, S, R, z⟩ := h
  refine lift_bind (g := fun (c : Bool) env S1 => Res.ok (!c) S1) anti_T R z fun c S1 r1 H1 x e1 R1 rx z1 => ?_
  cases rx
  exact z1 r1 H1 _ (Ext.refl r1 H1) R1.st rfl
/-- the truth of a value -/
def truD : D → Sto → Option Bool
  | .non, _ => some false
  | .bl b, _ => some b
  | .int i, _ => some (i != 0)
  | .tup ds, _ => some (!ds.isEmpty)
  | .cst ds, _ => some (!ds.isEmpty)
  | .fup ds, _ => some (!ds.isEmpty)
  | .str x, _ => if x.length ≤ LN then some ((x.length : Int) != 0) else none
  | .loc n, S => match S[n]? with
    | some (.lst ds) => some (!ds.isEmpty)
    | some (.ro ds) => some (!ds.isEmpty)
    | some (.dK kvs) => some (!kvs.isEmpty)
    | _ => none
theorem isE {K : PySem.W.Frag} {r : List Addr} {H : Hp} {ds : List D} {vs : List V} (h : RVs K r H ds vs) : ds.isEmpty = vs.isEmpty := by cases h <;> rfl
theorem isEk {K : PySem.W.Frag} {r : List Addr} {H : Hp} {κ : Type} {ds : List (κ × D)} {vs : List (κ × V)} (h : PKV K r H ds vs) : ds.isEmpty = vs.isEmpty := by cases h <;> rfl
theorem tru_of {K : PySem.W.Frag} {r : List Addr} {H : Hp} {S : Sto} {d : D} {v : V} {k : Bool} (R : RSt K r H S) (h : RV K r H d v) (e : truD d S = some k) : TruV K v H k := by
  cases h with
  | non => simp [truD] at e; subst e; rfl
  | bl b => simp [truD] at e; subst e; rfl
  | int i => simp [truD] at e; subst e; rfl
  | str x =>
    simp only [truD] at e
    split at e
    · rename_i hl; cases e; exact ⟨LN_line hl, rfl⟩
    · cases e
  | tup h q => simp only [truD, Option.some.injEq] at e; subst e; exact .inr (.inl ⟨_, .inl (.inl h), by rw [isE q]⟩)
  | cst h q => simp only [truD, Option.some.injEq] at e; subst e; exact .inr (.inl ⟨_, h.sq, by rw [isE q]⟩)
  | fup h hd q => simp only [truD, Option.some.injEq] at e; subst e; exact .inr (.inl ⟨_, .inl (.inr ⟨_, h⟩), by rw [isE q]⟩)
  | @loc n a h =>
    simp only [truD] at e
    split at e
    · rename_i ds e2
      obtain ⟨b, e3, vs, e4, q⟩ := R.at_ n _ e2
      rw [h] at e3; cases e3; cases e
      exact .inl ⟨vs, .inl (.inl e4), by rw [isE q]⟩
    · rename_i ds e2
      obtain ⟨b, e3, o, vs, e4, q⟩ := R.at_ n _ e2
      rw [h] at e3; cases e3; cases e
      exact .inl ⟨vs, .inl (.inr ⟨o, e4⟩), by rw [isE q]⟩
    · rename_i ds e2
      obtain ⟨b, e3, vs, e4, q⟩ := R.at_ n _ e2
      rw [h] at e3; cases e3; cases e
      exact .inr (.inr ⟨vs, e4, by rw [isEk q]⟩)
    · cases e
@[simp] def ofB (o : Option Bool) (S : Sto) : Res Bool := match o with
  | some d => .ok d S
  | none => .bad
@[simp] def tTru (f : EvE) : AEnv → Sto → Res Bool := fun env S => (f env S).bind fun d S1 => ofB (truD d S1) S1
theorem dt_tru (h : DE X W a fa) (he : ∀ whole, isTrue a X.env whole = (do let v ← whole; standAt a.pos; holding [v] (truthy v)) := by intro _; rfl) : DT X W a (tTru fa) := by
  refine ⟨PT.imp (pt_truth h.pe he) fun s H Q h => ?_⟩
  obtain ⟨r, env, S, R, z⟩ := h
  refine lift_bind (g := fun d env S1 => ofB (truD d S1) S1) anti_T R z fun d S1 r1 H1 x e1 R1 rx z1 => ?_
  cases ht : truD d S1 with
  | none => rw [ht] at z1; exact z1.elim
  | some k =>
    rw [ht] at z1
    exact ⟨k, tru_of R1.st rx ht, z1 r1 H1 k (Ext.refl r1 H1) R1.st rfl⟩
/-- values of truth -/
@[simp] def eAnd (f g : EvE) : EvE := fun env S => (f env S).bind fun d S1 => (isBl d S1).bind fun c S2 => if c then g env S2 else .ok (.bl false) S2
@[simp] def eOr (f g : EvE) : EvE := fun env S => (f env S).bind fun d S1 => (isBl d S1).bind fun c S2 => if c then .ok (.bl true) S2 else g env S2
@[simp] def eNot (f : EvE) : EvE := fun env S => (f env S).bind fun d S1 => (isBl d S1).bind fun c S2 => .ok (.bl (!c)) S2
theorem d_one {op} (h : DE X W a fa) : DE X W (.BoolOp op [a] pos) fa := ⟨pe_one h.pe⟩
theorem isBl_cases {β : Type} {K : PySem.W.Frag} {RR : Rel β V} {r : List Addr} {H : Hp} {t : L2.St} {S : Sto} {d : D} {x : V} {Q : V → Hp → Prop} {f : Bool → Sto → Res β} (q : resP K W RR r H t ((isBl d S).bind f) Q) (rv : RV K r H d x) : ∃ k, x = .bl k ∧ resP K W RR r H t (f k S) Q := by
  cases rv with
  | bl b => exact ⟨b, rfl, q⟩
  | _ => exact q.elim
theorem d_and (ha : DE X W a fa) (hb : DE X W (.BoolOp .And (b :: rest) pos) fb) : DE X W (.BoolOp .And (a :: b :: rest) pos) (eAnd fa fb) :=
  d_pe (pe_and ha.pe hb.pe) fun s H Q ⟨r, env, S, R, z⟩ => by
    refine lift_bind (g := fun d env S1 => (isBl d S1).bind fun c S2 => (if c then fb env S2 else Res.ok (D.bl false) S2 : Res D)) anti_E R z fun d S1 r1 H1 x e1 R1 rx z1 => ?_
    obtain ⟨k, rfl, z2⟩ := isBl_cases z1 rx
    refine ⟨k, rfl, ?_⟩
    cases k with
    | true => rw [if_pos rfl]; exact ⟨r1, env, S1, R1, z2⟩
    | false => rw [if_neg Bool.false_ne_true]; exact z2 r1 H1 _ (Ext.refl r1 H1) R1.st (.bl false)
theorem d_or (ha : DE X W a fa) (hb : DE X W (.BoolOp .Or (b :: rest) pos) fb) : DE X W (.BoolOp .Or (a :: b :: rest) pos) (eOr fa fb) :=
  d_pe (pe_or ha.pe hb.pe) fun s H Q ⟨r, env, S, R, z⟩ => by
    refine lift_bind (g := fun d env S1 => (isBl d S1).bind fun c S2 => (if c then Res.ok (D.bl true) S2 else fb env S2 : Res D)) anti_E R z fun d S1 r1 H1 x e1 R1 rx z1 => ?_
    obtain ⟨k, rfl, z2⟩ := isBl_cases z1 rx
    refine ⟨k, rfl, ?_⟩
    cases k with
    | false => rw [if_neg Bool.false_ne_true]; exact ⟨r1, env, S1, R1, z2⟩
    | true => rw [if_pos rfl]; exact z2 r1 H1 _ (Ext.refl r1 H1) R1.st (.bl true)
theorem d_not (ha : DE X W a fa) : DE X W (.UnaryOp .Not a pos) (eNot fa) :=
  d_pe (pe_not ha.pe) fun s H Q ⟨r, env, S, R, z⟩ => by
    refine lift_bind (g := fun d env S1 => (isBl d S1).bind fun c S2 => Res.ok (D.bl (!c)) S2) anti_E R z fun d S1 r1 H1 x e1 R1 rx z1 => ?_
    obtain ⟨k, rfl, z2⟩ := isBl_cases z1 rx
    exact ⟨k, rfl, z2 r1 H1 _ (Ext.refl r1 H1) R1.st (.bl _)⟩
@[simp] def eIf (p : AEnv → Sto → Res Bool) (f g : EvE) : EvE := fun env S => (p env S).bind fun c S1 => if c then f env S1 else g env S1
theorem d_if (hc : DT X W c p) (ha : DE X W a fa) (hb : DE X W b fb) : DE X W (.IfExp c a b pos) (eIf p fa fb) :=
  d_pe (pe_ifExp hc.pt ha.pe hb.pe) fun s H Q ⟨r, env, S, R, z⟩ => by
    refine lift_bind (g := fun (c : Bool) env S1 => (if c then fa env S1 else fb env S1 : Res D)) anti_E R z fun d S1 r1 H1 x e1 R1 rx z1 => ?_
    cases rx
    cases d with
    | true => rw [if_pos rfl]; exact ⟨r1, env, S1, R1, z1⟩
    | false => rw [if_neg Bool.false_ne_true]; exact ⟨r1, env, S1, R1, z1⟩

/-! ### lists of arguments, displays -/
@[simp] def aNil : AEnv → Sto → Res (List D) := fun _ S => .ok [] S
@[simp] def aCons (f : EvE) (g : AEnv → Sto → Res (List D)) : AEnv → Sto → Res (List D) := fun env S => (f env S).bind fun d S1 => (g env S1).bind fun ds S2 => .ok (d :: ds) S2
variable {es : List Expr} {e : Expr} {ga : AEnv → Sto → Res (List D)}
theorem da_nil : DA X W [] aNil := ⟨PA.imp pa_nil fun s H Q ⟨r, env, S, R, z⟩ => z r H [] (Ext.refl r H) R.st .nil⟩
theorem da_cons (ha : DE X W e fa) (hr : DA X W es ga) (hs : starEach (e :: es) X.env = (false, eval e X.env) :: starEach es X.env := by rfl) : DA X W (e :: es) (aCons fa ga) :=
  ⟨PA.imp (pa_cons ha.pe hr.pa hs) fun s H Q ⟨r, env, S, R, z⟩ => by
    refine lift_bind (g := fun d env S1 => (ga env S1).bind fun ds S2 => Res.ok (d :: ds) S2) anti_A R z fun d S1 r1 H1 x e1 R1 rx z1 => ?_
    refine lift_bind (g := fun ds env S2 => Res.ok (d :: ds) S2) anti_A R1 z1 fun ds S2 r2 H2 xs e2 R2 rxs z2 => ?_
    exact z2 r2 H2 _ (Ext.refl r2 H2) R2.st (.cons (RV.ext rx R1.st e2) rxs)⟩
@[simp] def eTup (g : AEnv → Sto → Res (List D)) : EvE := fun env S => (g env S).bind fun ds S1 => if ds.length ≤ LN then .ok (.tup ds) S1 else .bad
theorem d_tup {k} (h : DA X W es ga) : DE X W (.Tuple es k pos) (eTup ga) :=
  d_pe (pe_tup h.pa) fun s H Q ⟨r, env, S, R, z⟩ => by
    refine lift_bind (g := fun ds env S1 => (if ds.length ≤ LN then Res.ok (D.tup ds) S1 else Res.bad : Res D)) anti_E R z fun ds S1 r1 H1 xs e1 R1 rxs z1 => ?_
    by_cases hl : ds.length ≤ LN
    · rw [if_pos hl] at z1
      refine ⟨by rw [← rxs.length]; exact LN_line hl, fun p hp => ?_⟩
      obtain ⟨R2, e2⟩ := R1.st.new (o := .tup xs) hp
      exact z1 r1 _ _ e2 R2 (.tup upd_same (RVs.ext rxs R1.st e2))
    · rw [if_neg hl] at z1; exact z1.elim
@[simp] def lDisp (g : AEnv → Sto → Res (List D)) : AEnv → Sto → Res (List D) := fun env S => (g env S).bind fun ds S1 => if ds.length ≤ LN then .ok ds S1 else .bad
theorem dl_pe {e : Expr} {f : AEnv → Sto → Res (List D)} {tt : TE} (h : PE X e tt) (k : ∀ s H Q, liftL X.K W f s H Q → tt s H Q) : DL X W e f := ⟨PE.imp h k⟩
theorem dl_disp (h : DA X W es ga) : DL X W (.List es pos) (lDisp ga) :=
  dl_pe (pe_lst h.pa) fun s H Q ⟨r, env, S, R, z⟩ => by
    refine lift_map (g := fun ds env S1 => (if ds.length ≤ LN then Res.ok ds S1 else Res.bad : Res (List D))) R z fun ds S1 r1 H1 xs e1 R1 rxs z1 => ?_
    by_cases hl : ds.length ≤ LN
    · rw [if_pos hl] at z1
      refine ⟨by rw [← rxs.length]; exact LN_line hl, fun p hp => ?_⟩
      obtain ⟨R2, e2⟩ := R1.st.new (o := .lst xs) hp
      exact z1 r1 _ _ (e1.trans e2) R2 ⟨p, xs, rfl, e1.fr p hp, R1.st.nmem hp, upd_same, RVs.ext rxs R1.st e2⟩
    · rw [if_neg hl] at z1; exact z1.elim
/-- a new list gets its number -/
theorem RSt.adopt {K : PySem.W.Frag} {r : List Addr} {H0 H : Hp} {S : Sto} {a : Addr} {vs : List V} {ds : List D} {r0 : List Addr} (R : RSt K r H S) (x : Ext r0 H0 r H) (h0 : H0 a = none) (na : a ∉ r) (ha : H a = some (.lst vs)) (q : RVs K r H ds vs) :
    RSt K (r ++ [a]) H (S ++ [.lst ds]) ∧ Ext r0 H0 (r ++ [a]) H := by
  have gr : ∀ (n : Nat) b, r[n]? = some b → (r ++ [a])[n]? = some b := fun n b e => by rw [List.getElem?_append_left (List.getElem?_eq_some_iff.mp e).1]; exact e
  refine ⟨⟨by simp [R.len], ?_, fun n u e => ?_⟩, ⟨let ⟨t, e⟩ := x.pre; ⟨t ++ [a], by rw [e, List.append_assoc]⟩, fun b o hb e => ?_, x.fr, x.frz⟩⟩
  · rw [List.nodup_append]
    refine ⟨R.nd, by simp, fun c hc b hb => ?_⟩
    have : b = a := by simpa using hb
    subst this
    intro z; subst z; exact na hc
  · by_cases hn : n < S.length
    · rw [List.getElem?_append_left hn] at e
      obtain ⟨b, e1, q1⟩ := R.at_ n u e
      exact ⟨b, gr n b e1, q1.mono (TGrow.refl _) gr rfl⟩
    · rw [List.getElem?_append_right (by omega)] at e
      have hz : n - S.length = 0 := by
        cases hk : n - S.length with
        | zero => rfl
        | succ k => rw [hk] at e; simp at e
      rw [hz] at e
      have : MO.lst ds = u := by simpa using e
      subst this
      refine ⟨a, ?_, vs, ha, q.mono (TGrow.refl _) gr⟩
      have : n = r.length := by have := R.len; omega
      rw [this]; simp
  · obtain ⟨h1, h2⟩ := x.keep b o hb e
    refine ⟨h1, ?_⟩
    simp only [List.mem_append, List.mem_singleton, not_or]
    exact ⟨h2, fun z => by rw [z, h0] at e; cases e⟩
@[simp] def eMat (g : AEnv → Sto → Res (List D)) : EvE := fun env S => (g env S).bind fun ds S1 => .ok (.loc S1.length) (S1 ++ [.lst ds])
theorem d_mat (h : DL X W e ga) : DE X W e (eMat ga) :=
  d_pe h.pe fun s H Q ⟨r, env, S, R, z⟩ => by
    refine lift_map (g := fun ds env S1 => Res.ok (D.loc S1.length) (S1 ++ [.lst ds])) R z fun ds S1 r1 H1 v e1 R1 rv z1 => ?_
    obtain ⟨a, vs, rfl, h0, na, ha, q⟩ := rv
    obtain ⟨R2, e2⟩ := R1.st.adopt e1 h0 na ha q
    exact z1 _ _ _ e2 R2 (.loc (by rw [← R1.st.len]; simp))
end
end DV
/-! DV3: what the operators do on D. -/
namespace DV
open PySem PySem.Spec PyProof.Rows L2

theorem tuple_mul1 (l : Addr) (items : Array Value) (n : Nat) (dd : Option Addr) (sl : Array (Option Value)) (u : Tok) :
    Meets (Builtin.«tuple.__mul__» ⟨[.ref l, .int 1 u], []⟩) (fun _ R s => s.heap.get? l = some { cls := .type "tuple", dict := dd, data := .seq items n, slots := sl } ∧ R (.ok (.ret (Value.ref l))) s) :=
  .of_wp fun prog w A R s h => by
    obtain ⟨hp, g, d, tk, os⟩ := s
    obtain ⟨hl, h⟩ := h
    have f1 := AutoSeq1.idx_int
    wp_walk using wpAny_loadPart' hl
    repeat (first
      | (refine wpAny_ite_false (by decide) ?_; wp_walk using wpAny_loadPart' hl)
      | (refine wpAny_ite_true (by simp) ?_; wp_walk using wpAny_loadPart' hl)
      | (refine wpAny_ite_true (by decide) ?_; wp_walk using wpAny_loadPart' hl))
    exact ⟨_, rfl, h⟩
section
variable {X : Cx}
def rRep1 (K : PySem.W.Frag) : R2 := fun x y H Q => ∃ l xs, x = .ref l ∧ y = .int 1 ∧ SqT K H l xs ∧ Q (.ref l) H
theorem op_rep1 : OpR X (binaryOp .Mult) (rRep1 X.K) := by
  intro pins s σ H x y v u Q I rx ry h
  obtain ⟨l, xs, rfl, rfl, hT, q⟩ := h
  cases rx
  obtain ⟨t, rfl⟩ := ry
  obtain ⟨its, r, ⟨⟨cls, dd, data, sl⟩, ho, hc, n, hd⟩, hs⟩ := I.tuple hT
  simp only at hc hd
  subst hc hd
  exact wpAny_binaryOp_repeat_ref (T := "tuple") (U := "int") (by decide) ⟨_, ho, rfl⟩ (fun s' => typeIs_int s' 1 t) noFill_tuple_mul F.fills_int_mul F.slot_int_rmul repeat_tuple F.slot_int_index.lookup
    (call_meets F.slot_int_rmul (typeIs_int s 1 t) F.entry_int_rmul (F.args_int_rmul_2 _ _) (int_rmul_tuple 1 t l its.toArray n dd sl)
      ⟨ho, rfl, ⟨_, ho, rfl⟩, call_meets F.slot_tuple_mul ⟨_, ho, rfl⟩ F.entry_tuple_mul (F.args_tuple_mul_2 _ _) (tuple_mul1 l its.toArray n dd sl t) ⟨ho, ⟨.ref l, H, I, rfl, q⟩⟩⟩)

/-! ### + -/
def oAdd : D → D → Option D
  | .int i, .int j => some (.int (i + j))
  | .str a, .str b => if a.length + b.length ≤ LN then some (.str (a ++ b)) else none
  | .tup xs, .tup ys => if xs.length + ys.length ≤ LN then some (.tup (xs ++ ys)) else none
  | .tup xs, .cst ys => if xs.length + ys.length ≤ LN then some (.cst (xs ++ ys)) else none
  | .cst xs, .tup ys => if xs.length + ys.length ≤ LN then some (.cst (xs ++ ys)) else none
  | .cst xs, .cst ys => if xs.length + ys.length ≤ LN then some (.cst (xs ++ ys)) else none
  | _, _ => none
theorem ite_out {K : PySem.W.Frag} {r : List Addr} {H : Hp} {S : Sto} {c : Prop} [Decidable c] {d : D} {Q : VK} (q : OutD K r H S (if c then some d else none) Q) : c ∧ OutD K r H S (some d) Q := by
  by_cases h : c
  · rw [if_pos h] at q; exact ⟨h, q⟩
  · rw [if_neg h] at q; exact q.elim
theorem OutD.now {K : PySem.W.Frag} {r : List Addr} {H : Hp} {S : Sto} {d : D} {v : V} {Q : VK} (q : OutD K r H S (some d) Q) (R : RSt K r H S) (rv : RV K r H d v) : Q v H := q H v (Ext.refl r H) R rv
theorem OutD.new {K : PySem.W.Frag} {r : List Addr} {H : Hp} {S : Sto} {ds : List D} {vs : List V} {p : Addr} {Q : VK} (q : OutD K r H S (some (.tup ds)) Q) (R : RSt K r H S) (rv : RVs K r H ds vs) (hp : H p = none) : Q (.ref p) (upd H p (.tup vs)) := by
  obtain ⟨R2, e2⟩ := R.new (o := .tup vs) hp
  exact q _ _ e2 R2 (.tup upd_same (RVs.ext rv R e2))
theorem OutD.newC {K : PySem.W.Frag} {r : List Addr} {H : Hp} {S : Sto} {ds : List D} {vs : List V} {p : Addr} {Q : VK} (q : OutD K r H S (some (.cst ds)) Q) (R : RSt K r H S) (rv : RVs K r H ds vs) (hp : H p = none) : Q (.ref p) (upd H p (.tup vs)) := by
  obtain ⟨R2, e2⟩ := R.new (o := .tup vs) hp
  exact q _ _ e2 R2 (.cst (.inl upd_same) (RVs.ext rv R e2))
theorem RVs.nil_iff {K : PySem.W.Frag} {r : List Addr} {H : Hp} {ds : List D} {vs : List V} (h : RVs K r H ds vs) : vs = [] ↔ ds = [] := by
  cases h <;> simp
theorem sq_or {K : PySem.W.Frag} {H : Hp} {a : Addr} {vs : List V} (h : TupR K H a vs) : SqT K H a vs := h.sq
theorem catC {K : PySem.W.Frag} {r : List Addr} {H : Hp} {S : Sto} {a b : Addr} {xs ys : List D} {vs us : List V} {Q : VK} (R : RSt K r H S) (ha : TupR K H a vs) (hb : TupR K H b us)
    (q1 : RVs K r H xs vs) (q2 : RVs K r H ys us) (q : OutD K r H S (if xs.length + ys.length ≤ LN then some (.cst (xs ++ ys)) else none) Q) : rCatA K (.ref a) (.ref b) H Q := by
  obtain ⟨hl, q⟩ := ite_out q
  have n1 := q1.nil_iff
  have n2 := q2.nil_iff
  refine ⟨a, b, vs, us, rfl, rfl, sq_or ha, sq_or hb, by rw [← q1.length, ← q2.length]; exact LN_line hl, fun e => ?_, fun e e' => ?_, fun e e' p hp => ?_⟩
  · have e1 := n1.mp e
    subst e1
    exact q.now R (.cst hb q2)
  · have e1 := n2.mp e'
    subst e1
    rw [List.append_nil] at q
    exact q.now R (.cst ha q1)
  · exact q.newC R (RVs.append q1 q2) hp
theorem o_add : OpD X (binaryOp .Add) oAdd := by
  refine OpR.imp (op_add.or (op_add_str.or op_catA)) fun x y H Q h => ?_
  obtain ⟨r, S, d1, d2, R, r1, r2, q⟩ := h
  cases r1 with
  | int i =>
    cases r2 with
    | int j => exact .inl ⟨i, j, rfl, rfl, q.now R (.int _)⟩
    | _ => exact q.elim
  | str i =>
    cases r2 with
    | str j =>
      obtain ⟨hl, q⟩ := ite_out q
      exact .inr (.inl ⟨i, j, rfl, rfl, LN_line hl, q.now R (.str _)⟩)
    | _ => exact q.elim
  | tup ha q1 =>
    cases r2 with
    | tup hb q2 =>
      obtain ⟨hl, q⟩ := ite_out q
      have n1 := q1.nil_iff
      have n2 := q2.nil_iff
      refine .inr (.inr ⟨_, _, _, _, rfl, rfl, sq_or (.inl ha), sq_or (.inl hb), by rw [← q1.length, ← q2.length]; exact LN_line hl, fun e => ?_, fun e e' => ?_, fun e e' p hp => ?_⟩)
      · have e1 := n1.mp e
        subst e1
        exact q.now R (.tup hb q2)
      · have e1 := n2.mp e'
        subst e1
        rw [List.append_nil] at q
        exact q.now R (.tup ha q1)
      · exact q.new R (RVs.append q1 q2) hp
    | cst hb q2 => exact .inr (.inr (catC R (.inl ha) hb q1 q2 q))
    | _ => exact q.elim
  | cst ha q1 =>
    cases r2 with
    | tup hb q2 => exact .inr (.inr (catC R ha (.inl hb) q1 q2 q))
    | cst hb q2 => exact .inr (.inr (catC R ha hb q1 q2 q))
    | _ => exact q.elim
  | _ => exact q.elim
/-! ### -, *, //, %, ** -/
def oSub : D → D → Option D
  | .int i, .int j => some (.int (i - j))
  | _, _ => none
def oMul : D → D → Option D
  | .int i, .int j => if i.natAbs.log2 + j.natAbs.log2 < 1000000 then some (.int (i * j)) else none
  | .tup xs, .int k => if xs ≠ [] ∧ 1 ≤ k ∧ k ≤ 1000 ∧ xs.length ≤ 1000 then some (.tup (List.replicate k.toNat xs).flatten) else none
  | .cst xs, .int k => if xs ≠ [] ∧ 1 ≤ k ∧ k ≤ 1000 ∧ xs.length ≤ 1000 then some (.cst (List.replicate k.toNat xs).flatten) else none
  | _, _ => none
def oDiv : D → D → Option D
  | .int i, .int j => if 0 < j ∧ j.natAbs.log2 < 9000 then some (.int (i / j)) else none
  | _, _ => none
def oMod : D → D → Option D
  | .int i, .int j => if 0 < j then some (.int (i % j)) else none
  | _, _ => none
def oPow : D → D → Option D
  | .int i, .int j => if 0 ≤ j ∧ j ≤ 1000000 ∧ i.natAbs < 2 ^ 64 then some (.int (i ^ j.toNat)) else none
  | _, _ => none
theorem o_sub : OpD X (binaryOp .Sub) oSub := by
  refine OpR.imp op_sub fun x y H Q h => ?_
  obtain ⟨r, S, d1, d2, R, r1, r2, q⟩ := h
  cases r1 with
  | int i =>
    cases r2 with
    | int j => exact ⟨i, j, rfl, rfl, q.now R (.int _)⟩
    | _ => exact q.elim
  | _ => exact q.elim
theorem RVs.rep {K : PySem.W.Frag} {r : List Addr} {H : Hp} {ds : List D} {vs : List V} (h : RVs K r H ds vs) : ∀ k : Nat, RVs K r H (List.replicate k ds).flatten (List.replicate k vs).flatten
  | 0 => .nil
  | k + 1 => by rw [List.replicate_succ, List.replicate_succ, List.flatten_cons, List.flatten_cons]; exact RVs.append h (RVs.rep h k)
theorem rep_one {α : Type} (l : List α) : (List.replicate (1 : Int).toNat l).flatten = l := by
  show (List.replicate 1 l).flatten = l
  simp
theorem o_mul : OpD X (binaryOp .Mult) oMul := by
  refine OpR.imp (op_mulW.or (op_repT.or op_rep1)) fun x y H Q h => ?_
  obtain ⟨r, S, d1, d2, R, r1, r2, q⟩ := h
  cases r1 with
  | int i =>
    cases r2 with
    | int j => obtain ⟨hl, q⟩ := ite_out q; exact .inl ⟨i, j, rfl, rfl, hl, q.now R (.int _)⟩
    | _ => exact q.elim
  | tup ha q1 =>
    cases r2 with
    | int k =>
      obtain ⟨⟨h0, h1, h2, h3⟩, q⟩ := ite_out q
      by_cases hk : k = 1
      · subst hk
        rw [rep_one] at q
        exact .inr (.inr ⟨_, _, rfl, rfl, sq_or (.inl ha), q.now R (.tup ha q1)⟩)
      · exact .inr (.inl ⟨_, k, _, rfl, rfl, sq_or (.inl ha), fun z => h0 (q1.nil_iff.mp z), by omega, h2, by rw [← q1.length]; exact h3, fun p hp => q.new R (RVs.rep q1 _) hp⟩)
    | _ => exact q.elim
  | cst ha q1 =>
    cases r2 with
    | int k =>
      obtain ⟨⟨h0, h1, h2, h3⟩, q⟩ := ite_out q
      by_cases hk : k = 1
      · subst hk
        rw [rep_one] at q
        exact .inr (.inr ⟨_, _, rfl, rfl, sq_or ha, q.now R (.cst ha q1)⟩)
      · exact .inr (.inl ⟨_, k, _, rfl, rfl, sq_or ha, fun z => h0 (q1.nil_iff.mp z), by omega, h2, by rw [← q1.length]; exact h3, fun p hp => q.newC R (RVs.rep q1 _) hp⟩)
    | _ => exact q.elim
  | _ => exact q.elim
theorem o_div : OpD X (binaryOp .FloorDiv) oDiv := by
  refine OpR.imp op_fdivW fun x y H Q h => ?_
  obtain ⟨r, S, d1, d2, R, r1, r2, q⟩ := h
  cases r1 with
  | int i =>
    cases r2 with
    | int j => obtain ⟨hl, q⟩ := ite_out q; exact ⟨i, j, rfl, rfl, hl, q.now R (.int _)⟩
    | _ => exact q.elim
  | _ => exact q.elim
theorem o_mod : OpD X (binaryOp .Mod) oMod := by
  refine OpR.imp op_mod fun x y H Q h => ?_
  obtain ⟨r, S, d1, d2, R, r1, r2, q⟩ := h
  cases r1 with
  | int i =>
    cases r2 with
    | int j => obtain ⟨hl, q⟩ := ite_out q; exact ⟨i, j, rfl, rfl, hl, q.now R (.int _)⟩
    | _ => exact q.elim
  | _ => exact q.elim
theorem o_pow : OpD X (binaryOp .Pow) oPow := by
  refine OpR.imp op_pow fun x y H Q h => ?_
  obtain ⟨r, S, d1, d2, R, r1, r2, q⟩ := h
  cases r1 with
  | int i =>
    cases r2 with
    | int j => obtain ⟨hl, q⟩ := ite_out q; exact ⟨i, j, rfl, rfl, hl, q.now R (.int _)⟩
    | _ => exact q.elim
  | _ => exact q.elim
/-! ### comparisons -/
mutual
/-- the data that a value reads as -/
def D.py : D → Option PyData
  | .non => some .none
  | .bl b => some (.bool b)
  | .int i => some (.int i)
  | .str x => some (.str x)
  | .tup ds => (pys ds).map .tuple
  | .cst ds => (pys ds).map .tuple
  | .fup ds => (pys ds).map .tuple
  | .loc _ => none
def pys : List D → Option (List PyData)
  | [] => some []
  | d :: ds => match D.py d, pys ds with
    | some x, some xs => some (x :: xs)
    | _, _ => none
end
section
variable {K : PySem.W.Frag} {r : List Addr} {H : Hp}
mutual
theorem RV.dp : ∀ {d : D} {v : V} {p : PyData}, RV K r H d v → d.py = some p → Dp K H v p
  | _, _, _, .non, e => by simp [D.py] at e; subst e; exact .non
  | _, _, _, .bl b, e => by simp [D.py] at e; subst e; exact .bl b
  | _, _, _, .int i, e => by simp [D.py] at e; subst e; exact .int i
  | _, _, _, .str x, e => by simp [D.py] at e; subst e; exact .str x
  | .tup ds, _, _, .tup h q, e => by
    cases hp : pys ds with
    | none => simp [D.py, hp] at e
    | some ps => simp [D.py, hp] at e; subst e; exact .tup (sq_or (.inl h)) (RVs.dp q hp)
  | .cst ds, _, _, .cst h q, e => by
    cases hp : pys ds with
    | none => simp [D.py, hp] at e
    | some ps => simp [D.py, hp] at e; subst e; exact .tup (sq_or h) (RVs.dp q hp)
  | .fup ds, _, _, .fup h _ q, e => by
    cases hp : pys ds with
    | none => simp [D.py, hp] at e
    | some ps => simp [D.py, hp] at e; subst e; exact .tup (sq_or (.inr (.inl ⟨_, h⟩))) (RVs.dp q hp)
  | _, _, _, .loc _, e => by simp [D.py] at e
theorem RVs.dp : ∀ {ds : List D} {vs : List V} {ps : List PyData}, RVs K r H ds vs → pys ds = some ps → DpAll K H vs ps
  | _, _, _, .nil, e => by simp [pys] at e; subst e; exact .nil
  | d :: ds, _, _, .cons h q, e => by
    cases h1 : D.py d with
    | none => simp [pys, h1] at e
    | some x =>
      cases h2 : pys ds with
      | none => simp [pys, h1, h2] at e
      | some xs => simp [pys, h1, h2] at e; subst e; exact .cons (RV.dp h h1) (RVs.dp q h2)
end
end
/-- == of data -/
def cEqG (a b : D) : Option Bool := match a.py, b.py with
  | some x, some y => if SeqAt.shaped x = true ∧ SeqAt.shaped y = true then some (PyData.eqv x y) else none
  | _, _ => none
def cEq : D → D → Option Bool
  | .int i, .int j => some (decide (i = j))
  | .str i, .str j => some (decide (i = j))
  | .bl i, .bl j => some (decide (i = j))
  | a, b => cEqG a b
@[simp] def oBl (f : D → D → Option Bool) : D → D → Option D := fun a b => (f a b).map .bl
@[simp] def oBn (f : D → D → Option Bool) : D → D → Option D := fun a b => (f a b).map fun k => .bl (!k)
theorem cEqG_some {a b : D} {k : Bool} (h : cEqG a b = some k) : ∃ x y, a.py = some x ∧ b.py = some y ∧ SeqAt.shaped x = true ∧ SeqAt.shaped y = true ∧ k = PyData.eqv x y := by
  unfold cEqG at h
  split at h
  · rename_i x y e1 e2
    split at h
    · rename_i hs; cases h; exact ⟨x, y, e1, e2, hs.1, hs.2, rfl⟩
    · cases h
  · cases h
theorem eq_out {K : PySem.W.Frag} {r : List Addr} {H : Hp} {d1 d2 : D} {x y : V} {k : Bool} (r1 : RV K r H d1 x) (r2 : RV K r H d2 y) (e : cEq d1 d2 = some k) :
    (scal x y = true ∧ k = decide (x = y)) ∨ ∃ p q, Dp K H x p ∧ Dp K H y q ∧ SeqAt.shaped p = true ∧ SeqAt.shaped q = true ∧ k = PyData.eqv p q := by
  have gen : cEqG d1 d2 = some k → ∃ p q, Dp K H x p ∧ Dp K H y q ∧ SeqAt.shaped p = true ∧ SeqAt.shaped q = true ∧ k = PyData.eqv p q := fun h => by
    obtain ⟨p, q, e1, e2, h1, h2, h3⟩ := cEqG_some h
    exact ⟨p, q, r1.dp e1, r2.dp e2, h1, h2, h3⟩
  unfold cEq at e
  split at e
  · cases r1; cases r2; cases e; refine .inl ⟨rfl, ?_⟩; simp
  · cases r1; cases r2; cases e; refine .inl ⟨rfl, ?_⟩; simp
  · cases r1; cases r2; cases e; refine .inl ⟨rfl, ?_⟩; simp
  · exact .inr (gen e)
theorem o_eq (hu : X.A.units + 64 < cLine) : OpD X (compareOp .Eq) (oBl cEq) := by
  refine OpR.imp (op_eq.or (op_eqD hu)) fun x y H Q h => ?_
  obtain ⟨r, S, d1, d2, R, r1, r2, q⟩ := h
  cases hc : cEq d1 d2 with
  | none => simp only [oBl, hc] at q; exact q.elim
  | some k =>
    simp only [oBl, hc] at q
    have qk : Q (.bl k) H := OutD.now q R (.bl k)
    rcases eq_out r1 r2 hc with ⟨h1, h2⟩ | ⟨p, p', h1, h2, h3, h4, h5⟩
    · exact .inl ⟨h1, by rw [← h2]; exact qk⟩
    · exact .inr ⟨p, p', h1, h2, h3, h4, by rw [← h5]; exact qk⟩
theorem o_ne (hu : X.A.units + 64 < cLine) : OpD X (compareOp .NotEq) (oBn cEq) := by
  refine OpR.imp (op_ne.or (op_neD hu)) fun x y H Q h => ?_
  obtain ⟨r, S, d1, d2, R, r1, r2, q⟩ := h
  cases hc : cEq d1 d2 with
  | none => simp only [oBn, hc] at q; exact q.elim
  | some k =>
    simp only [oBn, hc] at q
    have qk : Q (.bl (!k)) H := OutD.now q R (.bl _)
    rcases eq_out r1 r2 hc with ⟨h1, h2⟩ | ⟨p, p', h1, h2, h3, h4, h5⟩
    · exact .inl ⟨h1, by rw [← h2]; exact qk⟩
    · exact .inr ⟨p, p', h1, h2, h3, h4, by rw [← h5]; exact qk⟩
/-- ints alone -/
def ints? : List D → Option (List Int)
  | [] => some []
  | .int i :: ds => (ints? ds).map (i :: ·)
  | _ => none
theorem ints?_eq : ∀ {ds : List D} {ns : List Int}, ints? ds = some ns → ds = ns.map .int
  | [], ns, h => by simp [ints?] at h; subst h; rfl
  | .int i :: ds, ns, h => by
    cases hr : ints? ds with
    | none => simp [ints?, hr] at h
    | some ms => simp [ints?, hr] at h; subst h; rw [ints?_eq hr]; rfl
@[simp] theorem ints?_map : ∀ ns : List Int, ints? (ns.map D.int) = some ns
  | [] => rfl
  | n :: ns => by simp [ints?, ints?_map ns]
/-- <= of lists of ints -/
def lexLe : List Int → List Int → Bool
  | [], _ => true
  | _ :: _, [] => false
  | x :: xs, y :: ys => if x = y then lexLe xs ys else decide (x < y)
def two? (a b : D) : Option (List Int × List Int) := match a.seq?, b.seq? with
  | some xs, some ys => match ints? xs, ints? ys with
    | some ns, some ms => some (ns, ms)
    | _, _ => none
  | _, _ => none
theorem two?_some {K : PySem.W.Frag} {r : List Addr} {H : Hp} {a b : D} {x y : V} {ns ms : List Int} (r1 : RV K r H a x) (r2 : RV K r H b y) (h : two? a b = some (ns, ms)) :
    ∃ p q, x = .ref p ∧ y = .ref q ∧ SqT K H p (ns.map V.int) ∧ SqT K H q (ms.map V.int) := by
  unfold two? at h
  split at h
  · rename_i xs ys e1 e2
    split at h
    · rename_i n m e3 e4
      cases h
      obtain ⟨p, vs, rfl, s1, q1⟩ := r1.seq e1
      obtain ⟨q, us, rfl, s2, q2⟩ := r2.seq e2
      rw [ints?_eq e3] at q1
      rw [ints?_eq e4] at q2
      rw [RVs.ints_inv q1] at s1
      rw [RVs.ints_inv q2] at s2
      exact ⟨p, q, rfl, rfl, s1, s2⟩
    · cases h
  · cases h
def cLt : D → D → Option Bool
  | .int i, .int j => some (decide (i < j))
  | a, b => (two? a b).map fun p => HT.lexLt p.1 p.2
def cLe : D → D → Option Bool
  | .int i, .int j => some (decide (i ≤ j))
  | a, b => (two? a b).map fun p => lexLe p.1 p.2
def cGt : D → D → Option Bool
  | .int i, .int j => some (decide (j < i))
  | _, _ => none
def cGe : D → D → Option Bool
  | .int i, .int j => some (decide (j ≤ i))
  | _, _ => none
theorem lexAt_shift (e r : Nat → Bool) (z : Bool) : ∀ (k i : Nat), Ob.lexAt e r z (i + 1) k = Ob.lexAt (fun j => e (j + 1)) (fun j => r (j + 1)) z i k
  | 0, _ => rfl
  | k + 1, i => by rw [Ob.lexAt_succ, Ob.lexAt_succ, lexAt_shift e r z k (i + 1)]
theorem lexAt_le : ∀ (ns ms : List Int), Ob.lexAt (fun j => decide (ns.getD j 0 = ms.getD j 0)) (fun j => decide (ns.getD j 0 ≤ ms.getD j 0)) (decide (ns.length ≤ ms.length)) 0 (min ns.length ms.length) = lexLe ns ms
  | [], ms => by simp [Ob.lexAt, lexLe]
  | n :: ns, [] => by simp [Ob.lexAt, lexLe]
  | n :: ns, m :: ms => by
    have hm : min (n :: ns).length (m :: ms).length = min ns.length ms.length + 1 := by simp only [List.length_cons]; omega
    rw [hm, Ob.lexAt_succ, lexAt_shift]
    have ih := lexAt_le ns ms
    simp only [List.length_cons, List.getD_cons_succ, List.getD_cons_zero, Nat.add_le_add_iff_right, lexLe]
    by_cases h : n = m
    · simp only [h, decide_true, if_true]; exact ih
    · rw [if_neg (by simpa using h), if_neg h]
      by_cases h2 : n < m
      · rw [decide_eq_true h2, decide_eq_true (by omega)]
      · rw [decide_eq_false h2, decide_eq_false (by omega)]
theorem o_lt (hu : X.A.units < cLine) : OpD X (compareOp .Lt) (oBl cLt) := by
  refine OpR.imp (op_lt.or (op_ltT hu)) fun x y H Q h => ?_
  obtain ⟨r, S, d1, d2, R, r1, r2, q⟩ := h
  cases hc : cLt d1 d2 with
  | none => simp only [oBl, hc] at q; exact q.elim
  | some k =>
    simp only [oBl, hc] at q
    have qk : Q (.bl k) H := OutD.now q R (.bl k)
    unfold cLt at hc
    split at hc
    · cases r1; cases r2; cases hc; exact .inl ⟨_, _, rfl, rfl, qk⟩
    · cases h2 : two? d1 d2 with
      | none => rw [h2] at hc; cases hc
      | some p =>
        rw [h2] at hc
        cases hc
        obtain ⟨a, b, rfl, rfl, s1, s2⟩ := two?_some r1 r2 h2
        exact .inr ⟨a, b, p.1, p.2, rfl, rfl, s1, s2, qk⟩
theorem o_le (hu : X.A.units < cLine) : OpD X (compareOp .LtE) (oBl cLe) := by
  refine OpR.imp (op_le.or (op_leT hu)) fun x y H Q h => ?_
  obtain ⟨r, S, d1, d2, R, r1, r2, q⟩ := h
  cases hc : cLe d1 d2 with
  | none => simp only [oBl, hc] at q; exact q.elim
  | some k =>
    simp only [oBl, hc] at q
    have qk : Q (.bl k) H := OutD.now q R (.bl k)
    unfold cLe at hc
    split at hc
    · cases r1; cases r2; cases hc; exact .inl ⟨_, _, rfl, rfl, qk⟩
    · cases h2 : two? d1 d2 with
      | none => rw [h2] at hc; cases hc
      | some p =>
        rw [h2] at hc
        cases hc
        obtain ⟨a, b, rfl, rfl, s1, s2⟩ := two?_some r1 r2 h2
        exact .inr ⟨a, b, p.1, p.2, rfl, rfl, s1, s2, by rw [lexAt_le]; exact qk⟩
theorem o_gt : OpD X (compareOp .Gt) (oBl cGt) := by
  refine OpR.imp op_gt fun x y H Q h => ?_
  obtain ⟨r, S, d1, d2, R, r1, r2, q⟩ := h
  cases r1 with
  | int i =>
    cases r2 with
    | int j => exact ⟨i, j, rfl, rfl, OutD.now q R (.bl _)⟩
    | _ => exact q.elim
  | _ => exact q.elim
theorem o_ge : OpD X (compareOp .GtE) (oBl cGe) := by
  refine OpR.imp op_ge fun x y H Q h => ?_
  obtain ⟨r, S, d1, d2, R, r1, r2, q⟩ := h
  cases r1 with
  | int i =>
    cases r2 with
    | int j => exact ⟨i, j, rfl, rfl, OutD.now q R (.bl _)⟩
    | _ => exact q.elim
  | _ => exact q.elim
def cIsN : D → D → Option Bool
  | .non, .non => some true
  | _, .non => some false
  | _, _ => none
theorem o_isN : OpD X (compareOp .Is) (oBl cIsN) := by
  refine OpR.imp op_isN fun x y H Q h => ?_
  obtain ⟨r, S, d1, d2, R, r1, r2, q⟩ := h
  cases r2 with
  | non =>
    refine ⟨rfl, ?_⟩
    cases r1 <;> exact OutD.now q R (.bl _)
  | _ => cases r1 <;> exact q.elim
theorem o_notN : OpD X (compareOp .IsNot) (oBn cIsN) := by
  refine OpR.imp op_notN fun x y H Q h => ?_
  obtain ⟨r, S, d1, d2, R, r1, r2, q⟩ := h
  cases r2 with
  | non =>
    refine ⟨rfl, ?_⟩
    cases r1 <;> exact OutD.now q R (.bl _)
  | _ => cases r1 <;> exact q.elim
/-! ### one place -/
def UnD (X : Cx) (f : Value → Sem Value) (g : D → Option D) : Prop :=
  UnR X f fun x H Q => ∃ r S d, RSt X.K r H S ∧ RV X.K r H d x ∧ OutD X.K r H S (g d) Q
theorem UnR.imp {f : Value → Sem Value} {q q' : V → Hp → VK → Prop} (h : UnR X f q) (k : ∀ x H Q, q' x H Q → q x H Q) : UnR X f q' := fun pins s σ H x v Q I rx z => h pins s σ H x v Q I rx (k _ _ _ z)
@[simp] def eUn (g : D → Option D) (f : EvE) : EvE := fun env S => (f env S).bind fun d S1 => ofO (g d) S1
variable {W : WX} {a b c : Expr} {fa fb fc : EvE} {pos : Pos}
theorem d_un {op : UnaryOp} {g : D → Option D} (ho : UnD X (unaryOp op) g) (ha : DE X W a fa) : DE X W (.UnaryOp op a pos) (eUn g fa) :=
  d_pe (pe_un ho ha.pe) fun s H Q ⟨r, env, S, R, z⟩ => by
    refine lift_bind (g := fun d env S1 => ofO (g d) S1) anti_E R z fun d S1 r1 H1 x e1 R1 rx z1 => ?_
    exact ⟨r1, S1, d, R1.st, rx, ofO_out z1⟩
def oNeg : D → Option D
  | .int i => some (.int (-i))
  | _ => none
theorem o_neg : UnD X (unaryOp .USub) oNeg := by
  refine UnR.imp un_neg fun x H Q h => ?_
  obtain ⟨r, S, d, R, r1, q⟩ := h
  cases r1 with
  | int i => exact ⟨i, rfl, q.now R (.int _)⟩
  | _ => exact q.elim
/-! ### a op b op c -/
@[simp] def eChain (g g' : D → D → Option D) (fa fb fc : EvE) : EvE := fun env S => (fa env S).bind fun d1 S1 => (fb env S1).bind fun d2 S2 => (ofO (g d1 d2) S2).bind fun d3 S3 => (isBl d3 S3).bind fun k S4 =>
  if k then (fc env S4).bind fun d4 S5 => ofO (g' d2 d4) S5 else .ok (.bl false) S4
@[simp] def tCh (g g' : D → D → Option D) (fa fb fc : EvE) : AEnv → Sto → Res Bool := fun env S => (eChain g g' fa fb fc env S).bind isBl
theorem chain_lift {op op' : CmpOp} {g g' : D → D → Option D} {q q' : R2} {s : L2.St} {H : Hp} {Q : VK} (hq : ∀ x y H Q, (∃ r S d1 d2, RSt X.K r H S ∧ RV X.K r H d1 x ∧ RV X.K r H d2 y ∧ OutD X.K r H S (g d1 d2) Q) → q x y H Q)
    (hq' : ∀ x y H Q, (∃ r S d1 d2, RSt X.K r H S ∧ RV X.K r H d1 x ∧ RV X.K r H d2 y ∧ OutD X.K r H S (g' d1 d2) Q) → q' x y H Q)
    (h : liftE X.K W (eChain g g' fa fb fc) s H Q) : tChain q q' (liftE X.K W fa) (liftE X.K W fb) (liftE X.K W fc) s H Q := by
  obtain ⟨r, env, S, R, z⟩ := h
  refine lift_bind (g := fun d1 env S1 => (fb env S1).bind fun d2 S2 => (ofO (g d1 d2) S2).bind fun d3 S3 => (isBl d3 S3).bind fun (k : Bool) S4 =>
    (if k then (fc env S4).bind fun d4 S5 => ofO (g' d2 d4) S5 else Res.ok (D.bl false) S4 : Res D)) anti_E R z fun d1 S1 r1 H1 x e1 R1 rx z1 => ?_
  refine lift_bind (g := fun d2 env S2 => (ofO (g d1 d2) S2).bind fun d3 S3 => (isBl d3 S3).bind fun (k : Bool) S4 =>
    (if k then (fc env S4).bind fun d4 S5 => ofO (g' d2 d4) S5 else Res.ok (D.bl false) S4 : Res D)) anti_E R1 z1 fun d2 S2 r2 H2 y e2 R2 ry z2 => ?_
  refine hq x y H2 _ ⟨r2, S2, d1, d2, R2.st, RV.ext rx R1.st e2, ry, ?_⟩
  cases hg : g d1 d2 with
  | none => rw [hg] at z2; exact z2.elim
  | some d3 =>
    rw [hg] at z2
    intro H3 z3 e3 R3 rz
    have z2' : resP X.K W (RVE X.K) r2 H3 s ((isBl d3 S2).bind fun (k : Bool) S4 => (if k then (fc env S4).bind fun d4 S5 => ofO (g' d2 d4) S5 else Res.ok (D.bl false) S4 : Res D)) Q := resP.ext anti_E z2 e3
    obtain ⟨k, rfl, z4⟩ := isBl_cases z2' rz
    refine ⟨k, rfl, ?_⟩
    cases k with
    | false => rw [if_neg Bool.false_ne_true]; exact z4 r2 H3 _ (Ext.refl r2 H3) R3 (.bl false)
    | true =>
      rw [if_pos rfl]
      refine lift_bind (g := fun d4 env S5 => ofO (g' d2 d4) S5) anti_E (R2.ext e3 R3) z4 fun d4 S5 r5 H5 w e5 R5 rw' z5 => ?_
      exact hq' y w H5 Q ⟨r5, S5, d2, d4, R5.st, RV.ext (RV.ext ry R2.st e3) R3 e5, rw', ofO_out z5⟩
theorem d_chain {op op' : CmpOp} {g g' : D → D → Option D} (ho : OpD X (compareOp op) g) (ho' : OpD X (compareOp op') g') (ha : DE X W a fa) (hb : DE X W b fb) (hc : DE X W c fc)
    (hm : lastMarks [op, op'] [b, c] = false := by with_unfolding_all rfl) : DE X W (.Compare a [op, op'] [b, c] pos) (eChain g g' fa fb fc) :=
  d_pe (pe_chain ho ho' ha.pe hb.pe hc.pe hm) fun s H Q h => chain_lift (op := op) (op' := op') (fun _ _ _ _ z => z) (fun _ _ _ _ z => z) h
theorem dt_chain {op op' : CmpOp} {g g' : D → D → Option D} (ho : OpD X (compareOp op) g) (ho' : OpD X (compareOp op') g') (ha : DE X W a fa) (hb : DE X W b fb) (hc : DE X W c fc)
    (hm : lastMarks [op, op'] [b, c] = false := by with_unfolding_all rfl) : DT X W (.Compare a [op, op'] [b, c] pos) (tCh g g' fa fb fc) := by
  refine ⟨PT.imp (pt_chain ho ho' ha.pe hb.pe hc.pe hm) fun s H Q h => ?_⟩
  obtain ⟨r, env, S, R, q⟩ := h
  have q1 : liftE X.K W (eChain g g' fa fb fc) s H fun x H' => ∃ k, x = .bl k ∧ Q k H' :=
    lift_bind (g := fun d env S => isBl d S) anti_T R q fun d S1 r1 H1 x e1 R1 rx q1 => isBl_out q1 R1.st rx
  exact chain_lift (op := op) (op' := op') (fun _ _ _ _ z => z) (fun _ _ _ _ z => z) q1
end
end DV
/-! DV4: subscripts, slices, dicts, methods, built-in functions over D. -/
namespace DV
open PySem PySem.Spec PyProof.Rows L2

section
variable {X : Cx} {W : WX} {a b c e : Expr} {fa fb fc : EvE} {pos : Pos}
/-! ### o[i] -/
def ixD (o i : D) (S : Sto) : Option D := match o, i with
  | .tup xs, .int k => atI xs k
  | .cst xs, .int k => atI xs k
  | .fup xs, .int k => atI xs k
  | .str z, .int k => if z.length ≤ LN then (atI z.cps.toList k).map fun c => .str ⟨#[c]⟩ else none
  | .loc n, .int k => match S[n]? with
    | some (.lst xs) => atI xs k
    | some (.ro xs) => atI xs k
    | _ => none
  | _, _ => none
@[simp] def eIx (fa fb : EvE) : EvE := fun env S => (fa env S).bind fun d1 S1 => (fb env S1).bind fun d2 S2 => ofO (ixD d1 d2 S2) S2
theorem bin_liftS {s : L2.St} {H : Hp} {Q : VK} {g : D → D → Sto → Option D} {rr : V → V → Hp → Prop}
    (h : liftE X.K W (fun env S => (fa env S).bind fun d1 S1 => (fb env S1).bind fun d2 S2 => ofO (g d1 d2 S2) S2) s H Q) (k : ∀ x y H2, (∃ r S d1 d2, RSt X.K r H2 S ∧ RV X.K r H2 d1 x ∧ RV X.K r H2 d2 y ∧ OutD X.K r H2 S (g d1 d2 S) Q) → rr x y H2) :
    liftE X.K W fa s H fun x H1 => liftE X.K W fb s H1 fun y H2 => rr x y H2 := by
  obtain ⟨r, env, S, R, q⟩ := h
  refine lift_bind (g := fun d1 env S1 => (fb env S1).bind fun d2 S2 => ofO (g d1 d2 S2) S2) anti_E R q fun d1 S1 r1 H1 x e1 R1 rx q1 => ?_
  refine lift_bind (g := fun d2 env S2 => ofO (g d1 d2 S2) S2) anti_E R1 q1 fun d2 S2 r2 H2 y e2 R2 ry q2 => ?_
  exact k x y H2 ⟨r2, S2, d1, d2, R2.st, RV.ext rx R1.st e2, ry, ofO_out q2⟩
theorem RVs.atI {K : PySem.W.Frag} {r : List Addr} {H : Hp} {ds : List D} {vs : List V} {k : Int} {d : D} (h : RVs K r H ds vs) (e : L2.atI ds k = some d) : ∃ v, L2.atI vs k = some v ∧ RV K r H d v := by
  unfold L2.atI at e ⊢
  rw [← h.length]
  cases hk : ixN ds.length k with
  | none => rw [hk] at e; cases e
  | some j =>
    rw [hk] at e
    exact RVs.get h e
theorem out_some {K : PySem.W.Frag} {r : List Addr} {H : Hp} {S : Sto} {o : Option D} {Q : VK} (q : OutD K r H S o Q) : ∃ d, o = some d ∧ OutD K r H S (some d) Q := by
  cases o with
  | none => exact q.elim
  | some d => exact ⟨d, rfl, q⟩
theorem d_ix (ha : DE X W a fa) (hb : DE X W b fb) (hs : PlainIx b := by exact fun _ _ => rfl) : DE X W (.Subscript a b pos) (eIx fa fb) :=
  d_pe (pe_ix ix_seq ha.pe hb.pe hs) fun s H Q h => bin_liftS h fun x y H2 ⟨r, S, d1, d2, R, r1, r2, q⟩ => by
    obtain ⟨d, e, qq⟩ := out_some q
    clear q
    cases r2 with
    | int k =>
      cases r1 with
      | tup h1 q1 => obtain ⟨v, e1, rv⟩ := q1.atI e; exact .inr (.inl ⟨_, _, k, v, rfl, rfl, sq_or (.inl h1), e1, qq.now R rv⟩)
      | cst h1 q1 => obtain ⟨v, e1, rv⟩ := q1.atI e; exact .inr (.inl ⟨_, _, k, v, rfl, rfl, sq_or h1, e1, qq.now R rv⟩)
      | fup h1 hd q1 => obtain ⟨v, e1, rv⟩ := q1.atI e; exact .inr (.inl ⟨_, _, k, v, rfl, rfl, .inl (.inr ⟨_, h1⟩), e1, qq.now R rv⟩)
      | str z =>
        simp only [ixD] at e
        split at e
        · rename_i hl
          cases hc : L2.atI z.cps.toList k with
          | none => rw [hc] at e; cases e
          | some c => rw [hc] at e; cases e; exact .inr (.inr ⟨z, k, c, rfl, rfl, LN_line hl, hc, qq.now R (.str _)⟩)
        · cases e
      | @loc n a h1 =>
        simp only [ixD] at e
        split at e
        · rename_i xs e2
          obtain ⟨b, e3, vs, e4, q4⟩ := R.at_ n _ e2
          rw [h1] at e3; cases e3
          obtain ⟨v, e1, rv⟩ := q4.atI e
          exact .inl ⟨_, _, k, v, rfl, rfl, .inl (.inl e4), e1, qq.now R rv⟩
        · rename_i xs e2
          obtain ⟨b, e3, o, vs, e4, q4⟩ := R.at_ n _ e2
          rw [h1] at e3; cases e3
          obtain ⟨v, e1, rv⟩ := q4.atI e
          exact .inl ⟨_, _, k, v, rfl, rfl, .inl (.inr ⟨o, e4⟩), e1, qq.now R rv⟩
        · cases e
      | _ => simp [ixD] at e
    | _ => cases r1 <;> simp [ixD] at e
/-- an item of a list that is made on the spot -/
@[simp] def atD (ds : List D) (d : D) (S : Sto) : Res D := match d with
  | .int k => ofO (atI ds k) S
  | _ => .bad
@[simp] def eIxL (g : AEnv → Sto → Res (List D)) (fb : EvE) : EvE := fun env S => (g env S).bind fun ds S1 => (fb env S1).bind fun d S2 => atD ds d S2
theorem d_ixL {g : AEnv → Sto → Res (List D)} (ha : DL X W a g) (hb : DE X W b fb) (hs : PlainIx b := by exact fun _ _ => rfl) : DE X W (.Subscript a b pos) (eIxL g fb) :=
  d_pe (pe_ix ix_seq ha.pe hb.pe hs) fun s H Q ⟨r, env, S, R, q⟩ => by
    refine lift_bind (RR := RVL X.K) (g := fun ds env S1 => (fb env S1).bind fun d S2 => atD ds d S2) anti_E R q fun ds S1 r1 H1 x e1 R1 rx q1 => ?_
    obtain ⟨p, vs, rfl, _, np, hp, qv⟩ := rx
    refine lift_bind (g := fun d env S2 => atD ds d S2) anti_E R1 q1 fun d2 S2 r2 H2 y e2 R2 ry q2 => ?_
    cases ry with
    | int k =>
      obtain ⟨d, e, q⟩ := out_some (ofO_out q2)
      obtain ⟨v, e3, rv⟩ := RVs.atI (RVs.ext qv R1.st e2) e
      exact .inl ⟨p, vs, k, v, rfl, rfl, .inl (.inl (e2.keep p _ np hp).1), e3, q.now R2.st rv⟩
    | _ => exact q2.elim
/-! ### slices -/
@[simp] def pNo : AEnv → Sto → Res (Option Int) := fun _ S => .ok none S
@[simp] def intO (d : D) (S : Sto) : Res (Option Int) := match d with
  | .int i => .ok (some i) S
  | _ => .bad
@[simp] def pSome (f : EvE) : AEnv → Sto → Res (Option Int) := fun env S => (f env S).bind fun d S1 => intO d S1
abbrev RVO : Rel (Option Int) (Option Int) := fun _ _ _ a b => a = b
structure DO (X : Cx) (W : WX) (e : Option Expr) (f : AEnv → Sto → Res (Option Int)) : Prop where
  po : PO X e (fun t H Q => lift X.K W RVO f t H Q)
theorem PO.imp {e : Option Expr} {t t' : TO} (h : PO X e t) (k : ∀ s H Q, t' s H Q → t s H Q) : PO X e t' := ⟨fun pins s u H Q I q => h.run pins s u H Q I (k _ _ _ q)⟩
theorem do_no : DO X W none pNo := ⟨PO.imp po_none fun s H Q ⟨r, env, S, R, q⟩ => q r H none (Ext.refl r H) R.st rfl⟩
theorem anti_O : Anti RVO := ⟨fun _ _ _ _ _ _ _ h => h⟩
theorem do_some (h : DE X W e fa) : DO X W (some e) (pSome fa) := ⟨PO.imp (po_some h.pe) fun s H Q ⟨r, env, S, R, q⟩ => by
  refine lift_bind (g := fun d env S1 => intO d S1) anti_O R q fun d S1 r1 H1 x e1 R1 rx q1 => ?_
  cases rx with
  | int i => exact ⟨i, rfl, q1 r1 H1 _ (Ext.refl r1 H1) R1.st rfl⟩
  | _ => exact q1.elim⟩
def cutD (xs : List D) (lo hi : Option Int) : List D := (xs.drop (HT.sIx xs.length 0 lo)).take (HT.sIx xs.length xs.length hi - HT.sIx xs.length 0 lo)
theorem RVs.cut {K : PySem.W.Frag} {r : List Addr} {H : Hp} {ds : List D} {vs : List V} (h : RVs K r H ds vs) (lo hi : Option Int) : RVs K r H (cutD ds lo hi) (cutV vs lo hi) := by
  unfold cutD cutV
  rw [h.length]
  exact RVs.take _ (RVs.drop _ h)
theorem cut_whole {ds : List D} {lo hi : Option Int} (h : HT.sIx ds.length 0 lo = 0 ∧ HT.sIx ds.length ds.length hi = ds.length) : cutD ds lo hi = ds := by
  unfold cutD; rw [h.1, h.2]; simp
def slD (o : D) (lo hi : Option Int) : Option D := match o with
  | .tup xs => some (.tup (cutD xs lo hi))
  | .cst xs => some (.cst (cutD xs lo hi))
  | _ => none
variable {flo fhi : AEnv → Sto → Res (Option Int)} {lo hi : Option Expr} {p2 : Pos}
@[simp] def eSlT (fa : EvE) (flo fhi : AEnv → Sto → Res (Option Int)) : EvE := fun env S => (fa env S).bind fun d S1 => (flo env S1).bind fun l S2 => (fhi env S2).bind fun h S3 => ofO (slD d l h) S3
theorem d_slT (ha : DE X W a fa) (hl : DO X W lo flo) (hh : DO X W hi fhi) : DE X W (.Subscript a (.Slice lo hi none p2) pos) (eSlT fa flo fhi) :=
  d_pe (pe_slice sl_tupA ha.pe hl.po hh.po) fun s H Q ⟨r, env, S, R, q⟩ => by
    refine lift_bind (g := fun d env S1 => (flo env S1).bind fun l S2 => (fhi env S2).bind fun h S3 => ofO (slD d l h) S3) anti_E R q fun d S1 r1 H1 x e1 R1 rx q1 => ?_
    refine lift_bind (g := fun l env S2 => (fhi env S2).bind fun h S3 => ofO (slD d l h) S3) anti_E R1 q1 fun l S2 r2 H2 l' e2 R2 rl q2 => ?_
    refine lift_bind (g := fun h env S3 => ofO (slD d l h) S3) anti_E R2 q2 fun h S3 r3 H3 h' e3 R3 rh q3 => ?_
    cases rl; cases rh
    obtain ⟨d', e, q⟩ := out_some (ofO_out q3)
    have rx3 := RV.ext (RV.ext rx R1.st e2) R2.st e3
    clear q1 q2 q3
    cases rx3 with
    | @tup ds vs a h1 qv =>
      simp only [slD, Option.some.injEq] at e; subst e
      refine ⟨a, vs, rfl, sq_or (.inl h1), fun hw => ?_, fun _ p hp => ?_⟩
      · rw [← qv.length] at hw
        rw [cut_whole hw] at q
        exact q.now R3.st (.tup h1 qv)
      · exact q.new R3.st (RVs.cut qv l h) hp
    | @cst ds vs a h1 qv =>
      simp only [slD, Option.some.injEq] at e; subst e
      refine ⟨a, vs, rfl, sq_or h1, fun hw => ?_, fun _ p hp => ?_⟩
      · rw [← qv.length] at hw
        rw [cut_whole hw] at q
        exact q.now R3.st (.cst h1 qv)
      · exact q.newC R3.st (RVs.cut qv l h) hp
    | _ => simp [slD] at e
/-- the items of a list of the store -/
def lstOf (d : D) (S : Sto) : Option (List D) := match d with
  | .loc n => match S[n]? with
    | some (.lst xs) => some xs
    | some (.ro xs) => some xs
    | _ => none
  | _ => none
theorem RV.lst {K : PySem.W.Frag} {r : List Addr} {H : Hp} {S : Sto} {d : D} {v : V} {xs : List D} (h : RV K r H d v) (R : RSt K r H S) (e : lstOf d S = some xs) : ∃ a vs, v = .ref a ∧ SqL K H a vs ∧ RVs K r H xs vs := by
  cases h with
  | @loc n a h1 =>
    simp only [lstOf] at e
    split at e
    · rename_i ys e2
      obtain ⟨b, e3, vs, e4, q4⟩ := R.at_ n _ e2
      rw [h1] at e3; cases e3; cases e
      exact ⟨_, vs, rfl, .inl (.inl e4), q4⟩
    · rename_i ys e2
      obtain ⟨b, e3, o, vs, e4, q4⟩ := R.at_ n _ e2
      rw [h1] at e3; cases e3; cases e
      exact ⟨_, vs, rfl, .inl (.inr ⟨o, e4⟩), q4⟩
    · cases e
  | _ => simp [lstOf] at e
@[simp] def ofL (o : Option (List D)) (S : Sto) : Res (List D) := match o with
  | some d => .ok d S
  | none => .bad
/-- a wish for a new list, at the heap where it is laid -/
theorem new_lst {K : PySem.W.Frag} {r r0 : List Addr} {H H0 : Hp} {t : L2.St} {S : Sto} {ds : List D} {vs : List V} {p : Addr} {Q : VK} (q : resP K W (RVL K) r0 H0 t (.ok ds S) Q) (x : Ext r0 H0 r H) (R : RSt K r H S) (rv : RVs K r H ds vs) (hp : H p = none) : Q (.ref p) (upd H p (.lst vs)) := by
  obtain ⟨R2, e2⟩ := R.new (o := .lst vs) hp
  exact q r _ _ (x.trans e2) R2 ⟨p, vs, rfl, x.fr p hp, R.nmem hp, upd_same, RVs.ext rv R e2⟩
@[simp] def lSl (fa : EvE) (flo fhi : AEnv → Sto → Res (Option Int)) : AEnv → Sto → Res (List D) := fun env S => (fa env S).bind fun d S1 => (flo env S1).bind fun l S2 => (fhi env S2).bind fun h S3 => ofL ((lstOf d S3).map fun xs => cutD xs l h) S3
theorem dl_sl (ha : DE X W a fa) (hl : DO X W lo flo) (hh : DO X W hi fhi) : DL X W (.Subscript a (.Slice lo hi none p2) pos) (lSl fa flo fhi) :=
  dl_pe (pe_slice sl_list ha.pe hl.po hh.po) fun s H Q ⟨r, env, S, R, q⟩ => by
    refine lift_map (g := fun d env S1 => (flo env S1).bind fun l S2 => (fhi env S2).bind fun h S3 => ofL ((lstOf d S3).map fun xs => cutD xs l h) S3) R q fun d S1 r1 H1 x e1 R1 rx q1 => ?_
    have q1' : resP X.K W (RVL X.K) r1 H1 s ((flo env S1).bind fun l S2 => (fhi env S2).bind fun h S3 => ofL ((lstOf d S3).map fun xs => cutD xs l h) S3) Q := resP.ext anti_L q1 e1
    refine lift_bind (g := fun l env S2 => (fhi env S2).bind fun h S3 => ofL ((lstOf d S3).map fun xs => cutD xs l h) S3) anti_L R1 q1' fun l S2 r2 H2 l' e2 R2 rl q2 => ?_
    refine lift_bind (g := fun h env S3 => ofL ((lstOf d S3).map fun xs => cutD xs l h) S3) anti_L R2 q2 fun h S3 r3 H3 h' e3 R3 rh q3 => ?_
    cases rl; cases rh
    cases hx : lstOf d S3 with
    | none => rw [hx] at q3; exact q3.elim
    | some xs =>
      rw [hx] at q3
      obtain ⟨a, vs, rfl, hs, qv⟩ := RV.lst (RV.ext (RV.ext rx R1.st e2) R2.st e3) R3.st hx
      exact ⟨a, vs, rfl, hs, fun p hp => new_lst q3 (Ext.refl r3 H3) R3.st (RVs.cut qv l h) hp⟩
/-! ### dicts -/
def key1? : D → Option Key
  | .int i => some (.inl i)
  | .str x => some (.inr x)
  | _ => none
def keys? : List D → Option (List Key)
  | [] => some []
  | d :: ds => match key1? d, keys? ds with
    | some k, some ks => some (k :: ks)
    | _, _ => none
def keyT? : D → Option (List Key)
  | .tup ds => keys? ds
  | _ => none
theorem key1?_eq {d : D} {k : Key} (h : key1? d = some k) : d = kD k := by
  cases d <;> simp [key1?] at h <;> subst h <;> rfl
theorem keys?_eq : ∀ {ds : List D} {ks : List Key}, keys? ds = some ks → ds = ks.map kD
  | [], ks, h => by simp [keys?] at h; subst h; rfl
  | d :: ds, ks, h => by
    cases h1 : key1? d with
    | none => simp [keys?, h1] at h
    | some k =>
      cases h2 : keys? ds with
      | none => simp [keys?, h1, h2] at h
      | some ks' => simp [keys?, h1, h2] at h; subst h; rw [key1?_eq h1, keys?_eq h2]; rfl
@[simp] theorem keys?_ints : ∀ ns : List Int, keys? (ns.map D.int) = some (ns.map Sum.inl)
  | [] => rfl
  | n :: ns => by simp [keys?, key1?, keys?_ints ns]
theorem RV.key1 {K : PySem.W.Frag} {r : List Addr} {H : Hp} {d : D} {v : V} {k : Key} (h : RV K r H d v) (e : key1? d = some k) : v = kV k := by
  cases h <;> simp [key1?] at e <;> subst e <;> rfl
theorem RV.keyT {K : PySem.W.Frag} {r : List Addr} {H : Hp} {d : D} {v : V} {k : List Key} (h : RV K r H d v) (e : keyT? d = some k) : ∃ b, v = .ref b ∧ H b = some (.tup (k.map kV)) := by
  cases h with
  | tup h1 q1 =>
    simp only [keyT?] at e
    rw [keys?_eq e] at q1
    rw [RVs.keys_inv q1] at h1
    exact ⟨_, rfl, h1⟩
  | _ => simp [keyT?] at e
def lookD {κ : Type} [DecidableEq κ] (kvs : List (κ × D)) (k : κ) : Option D := (kvs.find? fun kv => decide (kv.1 = k)).map (·.2)
def putD {κ : Type} [DecidableEq κ] (kvs : List (κ × D)) (k : κ) (v : D) : List (κ × D) :=
  if (kvs.any fun kv => decide (kv.1 = k)) = true then kvs.map fun kv => if kv.1 = k then (kv.1, v) else kv else kvs ++ [(k, v)]
def dropD {κ : Type} [DecidableEq κ] (kvs : List (κ × D)) (k : κ) : List (κ × D) := kvs.filter fun kv => decide (kv.1 ≠ k)
theorem PKV.look {K : PySem.W.Frag} {r : List Addr} {H : Hp} {κ : Type} [DecidableEq κ] {k : κ} : ∀ {kvs : List (κ × D)} {ws : List (κ × V)}, PKV K r H kvs ws →
    (∀ d, lookD kvs k = some d → ∃ v, valV ws k = some v ∧ RV K r H d v) ∧ (lookD kvs k = none → valV ws k = none)
  | _, _, .nil => ⟨fun d h => by simp [lookD] at h, fun _ => rfl⟩
  | (a, d) :: kvs, (b, v) :: ws, .cons ⟨h1, h2⟩ t => by
    have h1' : a = b := h1
    subst h1'
    by_cases hk : a = k
    · refine ⟨fun d' h => ?_, fun h => ?_⟩
      · simp [lookD, List.find?_cons, hk] at h; subst h; exact ⟨v, valV_pos hk, h2⟩
      · simp [lookD, List.find?_cons, hk] at h
    · have ih := PKV.look (k := k) t
      have e : lookD ((a, d) :: kvs) k = lookD kvs k := by simp [lookD, List.find?_cons, hk]
      rw [e, valV_neg (p := (a, v)) hk]
      exact ih
theorem PKV.any {K : PySem.W.Frag} {r : List Addr} {H : Hp} {κ : Type} [DecidableEq κ] {k : κ} : ∀ {kvs : List (κ × D)} {ws : List (κ × V)}, PKV K r H kvs ws → (kvs.any fun kv => decide (kv.1 = k)) = ws.any fun kv => decide (kv.1 = k)
  | _, _, .nil => rfl
  | (a, d) :: kvs, (b, v) :: ws, .cons ⟨h1, h2⟩ t => by
    have h1' : a = b := h1
    subst h1'
    simp only [List.any_cons, PKV.any t]
theorem PKV.append {K : PySem.W.Frag} {r : List Addr} {H : Hp} {κ : Type} : ∀ {kvs kvs' : List (κ × D)} {ws ws' : List (κ × V)}, PKV K r H kvs ws → PKV K r H kvs' ws' → PKV K r H (kvs ++ kvs') (ws ++ ws')
  | _, _, _, _, .nil, q => q
  | _, _, _, _, .cons h t, q => .cons h (PKV.append t q)
theorem PKV.map_if {K : PySem.W.Frag} {r : List Addr} {H : Hp} {κ : Type} [DecidableEq κ] {k : κ} {d : D} {v : V} (hv : RV K r H d v) : ∀ {kvs : List (κ × D)} {ws : List (κ × V)}, PKV K r H kvs ws →
    PKV K r H (kvs.map fun kv => if kv.1 = k then (kv.1, d) else kv) (ws.map fun kv => if kv.1 = k then (kv.1, v) else kv)
  | _, _, .nil => .nil
  | (a, d') :: kvs, (b, v') :: ws, .cons ⟨h1, h2⟩ t => by
    have h1' : a = b := h1
    subst h1'
    refine .cons ?_ (PKV.map_if hv t)
    show (if a = k then (a, d) else (a, d')).1 = (if a = k then (a, v) else (a, v')).1 ∧ RV K r H (if a = k then (a, d) else (a, d')).2 (if a = k then (a, v) else (a, v')).2
    by_cases hk : a = k
    · rw [if_pos hk, if_pos hk]; exact ⟨rfl, hv⟩
    · rw [if_neg hk, if_neg hk]; exact ⟨rfl, h2⟩
theorem PKV.put {K : PySem.W.Frag} {r : List Addr} {H : Hp} {κ : Type} [DecidableEq κ] {k : κ} {d : D} {v : V} {kvs : List (κ × D)} {ws : List (κ × V)} (h : PKV K r H kvs ws) (hv : RV K r H d v) : PKV K r H (putD kvs k d) (putK ws k v) := by
  unfold putD putK
  rw [PKV.any h]
  split
  · exact PKV.map_if hv h
  · exact PKV.append h (.cons ⟨rfl, hv⟩ .nil)
theorem PKV.drop {K : PySem.W.Frag} {r : List Addr} {H : Hp} {κ : Type} [DecidableEq κ] {k : κ} : ∀ {kvs : List (κ × D)} {ws : List (κ × V)}, PKV K r H kvs ws → PKV K r H (dropD kvs k) (dropK ws k)
  | _, _, .nil => .nil
  | (a, d) :: kvs, (b, v) :: ws, .cons ⟨h1, h2⟩ t => by
    have h1' : a = b := h1
    subst h1'
    have ih := PKV.drop (k := k) t
    unfold dropD dropK at ih ⊢
    by_cases hk : a = k
    · rw [List.filter_cons_of_neg (by simpa using hk), List.filter_cons_of_neg (by simpa using hk)]; exact ih
    · rw [List.filter_cons_of_pos (by simpa using hk), List.filter_cons_of_pos (by simpa using hk)]; exact .cons ⟨rfl, h2⟩ ih
theorem PKV.len {K : PySem.W.Frag} {r : List Addr} {H : Hp} {κ : Type} {kvs : List (κ × D)} {ws : List (κ × V)} (h : PKV K r H kvs ws) : kvs.length = ws.length := Paired.length h
/-- what a dict holds at a key; none: it is no dict, or the key's form isn't its own -/
def dGetD (o k : D) (S : Sto) : Option (Option D) := match o with
  | .loc n => match S[n]? with
    | some (.dK kvs) => (key1? k).map (lookD kvs)
    | some (.rK kvs) => (key1? k).map (lookD kvs)
    | some (.dT kvs) => (keyT? k).map (lookD kvs)
    | some (.rT kvs) => (keyT? k).map (lookD kvs)
    | _ => none
  | _ => none
theorem dget_of {K : PySem.W.Frag} {r : List Addr} {H : Hp} {S : Sto} {o k : D} {x y : V} {res : Option D} (R : RSt K r H S) (h1 : RV K r H o x) (h2 : RV K r H k y) (e : dGetD o k S = some res) :
    ∃ a w, x = .ref a ∧ DGet H a y w ∧ (∀ d, res = some d → ∃ v, w = some v ∧ RV K r H d v) ∧ (res = none → w = none) := by
  cases h1 with
  | @loc n a h1 =>
    simp only [dGetD] at e
    split at e
    · rename_i kvs e2
      obtain ⟨b, e3, ws, e4, q4⟩ := R.at_ n _ e2
      rw [h1] at e3; cases e3
      cases hk : key1? k with
      | none => rw [hk] at e; cases e
      | some kk =>
        rw [hk] at e; cases e
        have := h2.key1 hk; subst this
        have z := PKV.look (k := kk) q4
        exact ⟨a, _, rfl, .inl ⟨ws, kk, .inl e4, rfl, rfl⟩, fun d hd => z.1 d hd, z.2⟩
    · rename_i kvs e2
      obtain ⟨b, e3, o, ws, e4, q4⟩ := R.at_ n _ e2
      rw [h1] at e3; cases e3
      cases hk : key1? k with
      | none => rw [hk] at e; cases e
      | some kk =>
        rw [hk] at e; cases e
        have := h2.key1 hk; subst this
        have z := PKV.look (k := kk) q4
        exact ⟨a, _, rfl, .inl ⟨ws, kk, .inr ⟨o, e4⟩, rfl, rfl⟩, fun d hd => z.1 d hd, z.2⟩
    · rename_i kvs e2
      obtain ⟨b, e3, ws, e4, q4⟩ := R.at_ n _ e2
      rw [h1] at e3; cases e3
      cases hk : keyT? k with
      | none => rw [hk] at e; cases e
      | some kk =>
        rw [hk] at e; cases e
        obtain ⟨b, rfl, hb⟩ := h2.keyT hk
        have z := PKV.look (k := kk) q4
        exact ⟨a, _, rfl, .inr ⟨ws, kk, b, .inl e4, rfl, hb, rfl⟩, fun d hd => z.1 d hd, z.2⟩
    · rename_i kvs e2
      obtain ⟨b, e3, o, ws, e4, q4⟩ := R.at_ n _ e2
      rw [h1] at e3; cases e3
      cases hk : keyT? k with
      | none => rw [hk] at e; cases e
      | some kk =>
        rw [hk] at e; cases e
        obtain ⟨b, rfl, hb⟩ := h2.keyT hk
        have z := PKV.look (k := kk) q4
        exact ⟨a, _, rfl, .inr ⟨ws, kk, b, .inr ⟨o, e4⟩, rfl, hb, rfl⟩, fun d hd => z.1 d hd, z.2⟩
    · cases e
  | _ => simp [dGetD] at e
@[simp] def eGet (fa fb : EvE) : EvE := fun env S => (fa env S).bind fun d1 S1 => (fb env S1).bind fun d2 S2 => ofO ((dGetD d1 d2 S2).bind id) S2
theorem d_dget (hu : X.A.units + 1 < cLine) (ha : DE X W a fa) (hb : DE X W b fb) (hs : NoSl b := by exact fun _ _ => rfl) : DE X W (.Subscript a b pos) (eGet fa fb) :=
  d_pe (pe_dget hu ha.pe hb.pe hs) fun s H Q h => bin_liftS (g := fun d1 d2 S => (dGetD d1 d2 S).bind id) h fun x y H2 ⟨r, S, d1, d2, R, r1, r2, q⟩ => by
    cases hg : dGetD d1 d2 S with
    | none => rw [hg] at q; exact q.elim
    | some res =>
      rw [hg] at q
      obtain ⟨d, e, q⟩ := out_some q
      obtain ⟨a, w, rfl, hw, h1, h2⟩ := dget_of R r1 r2 hg
      obtain ⟨v, rfl, rv⟩ := h1 d e
      exact ⟨a, v, rfl, hw, q.now R rv⟩
@[simp] def tIn (fa fb : EvE) : EvE := fun env S => (fa env S).bind fun d1 S1 => (fb env S1).bind fun d2 S2 => ofO ((dGetD d2 d1 S2).map fun o => .bl o.isSome) S2
@[simp] def tNotIn (fa fb : EvE) : EvE := fun env S => (fa env S).bind fun d1 S1 => (fb env S1).bind fun d2 S2 => ofO ((dGetD d2 d1 S2).map fun o => .bl (!o.isSome)) S2
/-- d.get(k, x) -/
@[simp] def eGet2 (fa fb fc : EvE) : EvE := fun env S => (fa env S).bind fun d1 S1 => (fb env S1).bind fun d2 S2 => (fc env S2).bind fun d3 S3 => ofO ((dGetD d1 d2 S3).map fun o => o.getD d3) S3
/-- it is a dict -/
def isDc (o : D) (S : Sto) : Bool := match o with
  | .loc n => match S[n]? with
    | some (.dK _) => true
    | some (.rK _) => true
    | some (.dT _) => true
    | some (.rT _) => true
    | _ => false
  | _ => false
theorem isD_of {K : PySem.W.Frag} {r : List Addr} {H : Hp} {S : Sto} {o : D} {x : V} (R : RSt K r H S) (h1 : RV K r H o x) (e : isDc o S = true) : ∃ a, x = .ref a ∧ IsD H a := by
  cases h1 with
  | @loc n a h1 =>
    simp only [isDc] at e
    split at e
    · rename_i kvs e2; obtain ⟨b, e3, ws, e4, q4⟩ := R.at_ n _ e2; rw [h1] at e3; cases e3; exact ⟨a, rfl, .inl ⟨ws, .inl e4⟩⟩
    · rename_i kvs e2; obtain ⟨b, e3, o, ws, e4, q4⟩ := R.at_ n _ e2; rw [h1] at e3; cases e3; exact ⟨a, rfl, .inl ⟨ws, .inr ⟨o, e4⟩⟩⟩
    · rename_i kvs e2; obtain ⟨b, e3, ws, e4, q4⟩ := R.at_ n _ e2; rw [h1] at e3; cases e3; exact ⟨a, rfl, .inr ⟨ws, .inl e4⟩⟩
    · rename_i kvs e2; obtain ⟨b, e3, o, ws, e4, q4⟩ := R.at_ n _ e2; rw [h1] at e3; cases e3; exact ⟨a, rfl, .inr ⟨ws, .inr ⟨o, e4⟩⟩⟩
    · cases e
  | _ => simp [isDc] at e
@[simp] def eGet2' (fa fb fc : EvE) : EvE := fun env S => (fa env S).bind fun d1 S1 => if isDc d1 S1 then (fb env S1).bind fun d2 S2 => (fc env S2).bind fun d3 S3 => ofO ((dGetD d1 d2 S3).map fun o => o.getD d3) S3 else .bad
theorem d_get2 {apos cpos : Pos} (hu : X.A.units + 1 < cLine) (ha : DE X W a fa) (hb : DE X W b fb) (hc : DE X W c fc) (m : M2 X a "get" apos b c cpos := by exact ⟨rfl, rfl, rfl, rfl⟩) : DE X W (.Call (.Attribute a "get" apos) [b, c] [] cpos) (eGet2' fa fb fc) :=
  d_pe (pe_dget2 hu ha.pe hb.pe hc.pe m) fun s H Q ⟨r, env, S, R, q⟩ => by
    refine lift_bind (g := fun d1 env S1 => (if isDc d1 S1 then (fb env S1).bind fun d2 S2 => (fc env S2).bind fun d3 S3 => ofO ((dGetD d1 d2 S3).map fun o => o.getD d3) S3 else Res.bad : Res D)) anti_E R q fun d1 S1 r1 H1 x e1 R1 rx q1 => ?_
    by_cases hd : isDc d1 S1 = true
    · rw [if_pos hd] at q1
      obtain ⟨a, rfl, hD⟩ := isD_of R1.st rx hd
      refine ⟨a, rfl, hD, ?_⟩
      refine lift_bind (g := fun d2 env S2 => (fc env S2).bind fun d3 S3 => ofO ((dGetD d1 d2 S3).map fun o => o.getD d3) S3) anti_E R1 q1 fun d2 S2 r2 H2 y e2 R2 ry q2 => ?_
      refine lift_bind (g := fun d3 env S3 => ofO ((dGetD d1 d2 S3).map fun o => o.getD d3) S3) anti_E R2 q2 fun d3 S3 r3 H3 z e3 R3 rz q3 => ?_
      cases hg : dGetD d1 d2 S3 with
      | none => rw [hg] at q3; exact q3.elim
      | some res =>
        rw [hg] at q3
        have q' : OutD X.K r3 H3 S3 (some (res.getD d3)) Q := ofO_out q3
        obtain ⟨a', w, ea, hw, h1, h2⟩ := dget_of R3.st (RV.ext (RV.ext rx R1.st e2) R2.st e3) (RV.ext ry R2.st e3) hg
        cases ea
        refine ⟨w, hw, ?_⟩
        cases res with
        | none => rw [h2 rfl]; exact q'.now R3.st rz
        | some d => obtain ⟨v, rfl, rv⟩ := h1 d rfl; exact q'.now R3.st rv
    · rw [if_neg hd] at q1; exact q1.elim
/-- {} that will have tuples, or plain keys -/
@[simp] def eNewT : EvE := fun _ S => .ok (.loc S.length) (S ++ [.dT []])
@[simp] def eNewK : EvE := fun _ S => .ok (.loc S.length) (S ++ [.dK []])
theorem d_newT : DE X W (.Dict [] [] pos) eNewT :=
  d_pe pe_dnewT fun s H Q ⟨r, env, S, R, q⟩ p hp => by
    obtain ⟨R2, e2⟩ := R.st.alloc (o := .dT []) (m := .dT []) hp ⟨[], upd_same, .nil⟩
    exact q _ _ _ e2 R2 (.loc (by rw [← R.st.len]; simp))
theorem d_newK : DE X W (.Dict [] [] pos) eNewK :=
  d_pe pe_dnewK fun s H Q ⟨r, env, S, R, q⟩ p hp => by
    obtain ⟨R2, e2⟩ := R.st.alloc (o := .dK []) (m := .dK []) hp ⟨[], upd_same, .nil⟩
    exact q _ _ _ e2 R2 (.loc (by rw [← R.st.len]; simp))
/-- the store behind o[k] = v of a dict -/
def dPutD (o k v : D) (S : Sto) : Option Sto := match o with
  | .loc n => match S[n]? with
    | some (.dK kvs) => if kvs.length < LN then (key1? k).map fun kk => S.set n (.dK (putD kvs kk v)) else none
    | some (.dT kvs) => if kvs.length < LN then (keyT? k).map fun kk => S.set n (.dT (putD kvs kk v)) else none
    | _ => none
  | _ => none
theorem dput_of {K : PySem.W.Frag} {r : List Addr} {H : Hp} {S S' : Sto} {o k d : D} {x y v : V} (R : RSt K r H S) (h1 : RV K r H o x) (h2 : RV K r H k y) (h3 : RV K r H d v) (e : dPutD o k d S = some S') :
    ∃ a H', x = .ref a ∧ DPut H a y v H' ∧ RSt K r H' S' ∧ Ext r H r H' := by
  cases h1 with
  | @loc n a h1 =>
    simp only [dPutD] at e
    split at e
    · rename_i kvs e2
      obtain ⟨b, e3, ws, e4, q4⟩ := R.at_ n _ e2
      rw [h1] at e3; cases e3
      split at e
      · rename_i hl
        cases hk : key1? k with
        | none => rw [hk] at e; cases e
        | some kk =>
          rw [hk] at e; cases e
          have := h2.key1 hk; subst this
          have hf : ∀ o u, H a ≠ some (.frz o u) := fun o u z => by rw [e4] at z; cases z
          have pre : RSt K r (upd H a (.dK (putK ws kk v))) (S.set n (.dK (putD kvs kk d))) ∧ Ext r H r (upd H a (.dK (putK ws kk v))) := by
            refine R.put h1 hf ⟨_, upd_same, ?_⟩
            exact PKV.mono (H := H) (r := r) (TGrow.upd e4 (fun _ z => nomatch z) (fun _ _ z => nomatch z)) (fun _ _ z => z) (PKV.put q4 h3)
          exact ⟨a, _, rfl, .inl ⟨ws, kk, e4, rfl, by rw [← q4.len, sizeLine_eq]; exact hl, rfl⟩, pre.1, pre.2⟩
      · cases e
    · rename_i kvs e2
      obtain ⟨b, e3, ws, e4, q4⟩ := R.at_ n _ e2
      rw [h1] at e3; cases e3
      split at e
      · rename_i hl
        cases hk : keyT? k with
        | none => rw [hk] at e; cases e
        | some kk =>
          rw [hk] at e; cases e
          obtain ⟨b, rfl, hb⟩ := h2.keyT hk
          have hf : ∀ o u, H a ≠ some (.frz o u) := fun o u z => by rw [e4] at z; cases z
          have pre : RSt K r (upd H a (.dT (putK ws kk v))) (S.set n (.dT (putD kvs kk d))) ∧ Ext r H r (upd H a (.dT (putK ws kk v))) := by
            refine R.put h1 hf ⟨_, upd_same, ?_⟩
            exact PKV.mono (H := H) (r := r) (TGrow.upd e4 (fun _ z => nomatch z) (fun _ _ z => nomatch z)) (fun _ _ z => z) (PKV.put q4 h3)
          exact ⟨a, _, rfl, .inr ⟨ws, kk, b, e4, rfl, hb, by rw [← q4.len, sizeLine_eq]; exact hl, rfl⟩, pre.1, pre.2⟩
      · cases e
    · cases e
  | _ => simp [dPutD] at e
end
end DV
/-! DV5: built-in functions, methods, calls of defs, over D. -/
namespace DV
open PySem PySem.Spec PyProof.Rows L2

section
variable {X : Cx} {W : WX} {a b c e : Expr} {es : List Expr} {fa fb fc : EvE} {ga gb : AEnv → Sto → Res (List D)} {pos p p2 : Pos} {x : Str}
/-! ### tuples that are known to their object -/
def tTupF (t : TA) : TE := fun σ H Q => t σ H fun xs H1 => xs.length ≤ sizeLine ∧ ∀ p o, H1 p = none → o.dict = none → Q (.ref p) (upd H1 p (.frz o (.tup xs)))
theorem pe_tupF {k : Nat} {t : TA} (h : PA X es t) : PE X (.Tuple es k pos) (tTupF t) := by
  refine ⟨fun pins s σ H Q I hq => ?_⟩
  refine wpAny_Tuple_spliced (thn (h.run pos pins s σ H _ I hq) fun us s1 ⟨xs, H1, I1, r, z, q⟩ => ⟨by rw [← r.length]; exact z, ?_⟩)
  exact ⟨.ref s1.heap.objs.size, _, I1.laid (o := .frz _ (.tup xs)) (t' := s1.toks) (fun b u e => Heap.get?_push_of_some _ e) (Nat.le_refl _)
    ⟨Heap.get?_push_size _ rfl, z, us, r, ⟨_, Heap.get?_push_size _ rfl, rfl, _, rfl⟩⟩, rfl, q _ _ I1.fresh rfl⟩
@[simp] def eTupF (g : AEnv → Sto → Res (List D)) : EvE := fun env S => (g env S).bind fun ds S1 => if ds.length ≤ LN then .ok (.fup ds) S1 else .bad
theorem RSt.newF {K : PySem.W.Frag} {r : List Addr} {H : Hp} {S : Sto} {ds : List D} {vs : List V} {p : Addr} {o : Obj} (R : RSt K r H S) (rv : RVs K r H ds vs) (hp : H p = none) (hd : o.dict = none) :
    RSt K r (upd H p (.frz o (.tup vs))) S ∧ Ext r H r (upd H p (.frz o (.tup vs))) ∧ RV K r (upd H p (.frz o (.tup vs))) (.fup ds) (.ref p) := by
  obtain ⟨R2, e2⟩ := R.new (o := .frz o (.tup vs)) hp
  exact ⟨R2, e2, .fup upd_same hd (RVs.ext rv R e2)⟩
theorem d_tupF {k} (h : DA X W es ga) : DE X W (.Tuple es k pos) (eTupF ga) :=
  d_pe (pe_tupF h.pa) fun s H Q ⟨r, env, S, R, z⟩ => by
    refine lift_bind (g := fun ds env S1 => (if ds.length ≤ LN then Res.ok (D.fup ds) S1 else Res.bad : Res D)) anti_E R z fun ds S1 r1 H1 xs e1 R1 rxs z1 => ?_
    by_cases hl : ds.length ≤ LN
    · rw [if_pos hl] at z1
      refine ⟨by rw [← rxs.length]; exact LN_line hl, fun p o hp hd => ?_⟩
      obtain ⟨R2, e2, q2⟩ := R1.st.newF rxs hp hd
      exact z1 r1 _ _ e2 R2 q2
    · rw [if_neg hl] at z1; exact z1.elim
theorem call_tupleF : CallR X (.type "tuple") (fun xs H Q => ∃ p ys, xs = [.ref p] ∧ SqL X.K H p ys ∧ ∀ l o, H l = none → o.dict = none → Q (.ref l) (upd H l (.frz o (.tup ys)))) := by
  intro pins s σ H xs us Q I r h
  obtain ⟨p, ys, rfl, hq, q⟩ := h
  obtain ⟨u, rfl, rx⟩ := vals1 r
  cases rx
  obtain ⟨its, r', pl, hz⟩ := I.list hq
  have hlen := r'.length
  refine call_tuple_list pl.isList (fun h' kp => ?_) (by simp only [List.size_toArray] <;> omega)
  have I1 : Inv X pins σ H { s with heap := h' } := I.kept (t' := s.toks) kp
  exact ⟨.ref h'.objs.size, _, I1.laid (o := .frz _ (.tup ys)) (t' := s.toks) (fun b o e => Heap.get?_push_of_some _ e) (Nat.le_refl _) ⟨Heap.get?_push_size _ rfl, hz, its, r', IsTup.new _ _⟩, rfl, q _ _ I1.fresh rfl⟩
/-! ### a built-in function of one list that was made on the spot -/
def OneL (K : PySem.W.Frag) (xs : List V) (H : Hp) (k : List Addr → Sto → List D → List V → Addr → Prop) : Prop := ∃ r S a vs ds, xs = [.ref a] ∧ RSt K r H S ∧ a ∉ r ∧ H a = some (.lst vs) ∧ RVs K r H ds vs ∧ k r S ds vs a
def CallL (X : Cx) (f : Value) (g : List D → Option D) : Prop := CallR X f fun xs H Q => OneL X.K xs H fun r S ds _ _ => OutD X.K r H S (g ds) Q
@[simp] def eOfL (g : List D → Option D) (ga : AEnv → Sto → Res (List D)) : EvE := fun env S => (ga env S).bind fun ds S1 => ofO (g ds) S1
theorem oneL_lift {s : L2.St} {H : Hp} {Q : VK} {g : List D → Option D} (h : liftE X.K W (eOfL g ga) s H Q) :
    tCB (fun xs H Q => OneL X.K xs H fun r S ds _ _ => OutD X.K r H S (g ds) Q) (tCons (liftL X.K W ga) tNil) s H Q := by
  obtain ⟨r, env, S, R, z⟩ := h
  refine lift_bind (RR := RVL X.K) (g := fun ds env S1 => ofO (g ds) S1) anti_E R z fun ds S1 r1 H1 v e1 R1 rv z1 => ?_
  obtain ⟨a, vs, rfl, _, na, ha, q⟩ := rv
  exact ⟨r1, S1, a, vs, ds, rfl, R1.st, na, ha, q, ofO_out z1⟩
theorem d_callL {id : String} {g : List D → Option D} (hc : CallL X (.builtin id) g) (hg : Gl X x) (hm : X.mg x = none) (hv : bootBuiltins x = some (.builtin id)) (ha : DL X W e ga) (hn : x ≠ "__name__" := by decide) (hdb : (x == ("__debug__" : Str)) = false := by decide)
    (hs : starEach [e] X.env = (false, eval e X.env) :: starEach [] X.env := by rfl) (hpl : (backTo pos (starEach [] X.env)).any (·.1) = false := by rfl) : DE X W (.Call (.Name x p) [e] [] pos) (eOfL g ga) :=
  d_pe (pe_callB hc hg hm hv (pa_cons ha.pe pa_nil hs) hn hdb hs hpl) fun s H Q h => oneL_lift h
theorem d_callLTy {T : String} {g : List D → Option D} (hc : CallL X (.type T) g) (hg : Gl X x) (hm : X.mg x = none) (hv : bootBuiltins x = some (.type T)) (ha : DL X W e ga) (hn : x ≠ "__name__" := by decide) (hdb : (x == ("__debug__" : Str)) = false := by decide)
    (hs : starEach [e] X.env = (false, eval e X.env) :: starEach [] X.env := by rfl) (hpl : (backTo pos (starEach [] X.env)).any (·.1) = false := by rfl) : DE X W (.Call (.Name x p) [e] [] pos) (eOfL g ga) :=
  d_pe (pe_callTy hc hg hm hv (pa_cons ha.pe pa_nil hs) hn hdb hs hpl) fun s H Q h => oneL_lift h
def gTup (ds : List D) : Option D := some (.tup ds)
def gFup (ds : List D) : Option D := some (.fup ds)
def bls? : List D → Option (List Bool)
  | [] => some []
  | .bl i :: ds => (bls? ds).map (i :: ·)
  | _ => none
theorem bls?_eq : ∀ {ds : List D} {ns : List Bool}, bls? ds = some ns → ds = ns.map .bl
  | [], ns, h => by simp [bls?] at h; subst h; rfl
  | .bl i :: ds, ns, h => by
    cases hr : bls? ds with
    | none => simp [bls?, hr] at h
    | some ms => simp [bls?, hr] at h; subst h; rw [bls?_eq hr]; rfl
@[simp] theorem bls?_map : ∀ ns : List Bool, bls? (ns.map D.bl) = some ns
  | [] => rfl
  | n :: ns => by simp [bls?, bls?_map ns]
def gAll (ds : List D) : Option D := (bls? ds).map fun bs => .bl (bs.all id)
def gAny (ds : List D) : Option D := (bls? ds).map fun bs => .bl (bs.any id)
def gSum (ds : List D) : Option D := (ints? ds).map fun ns => .int ns.sum
def gLen (ds : List D) : Option D := some (.int ds.length)
/-- the greatest -/
def maxI : Int → List Int → Int
  | m, [] => m
  | m, n :: ns => maxI (if m < n then n else m) ns
theorem maxI_le : ∀ (ns : List Int) (m : Int), m ≤ maxI m ns ∧ ∀ y ∈ ns, y ≤ maxI m ns
  | [], m => ⟨Int.le_refl _, fun _ h => nomatch h⟩
  | n :: ns, m => by
    have ih := maxI_le ns (if m < n then n else m)
    unfold maxI
    refine ⟨?_, fun y hy => ?_⟩
    · refine Int.le_trans ?_ ih.1; split <;> omega
    · rcases List.mem_cons.mp hy with rfl | hy
      · refine Int.le_trans ?_ ih.1; split <;> omega
      · exact ih.2 y hy
theorem maxI_mem : ∀ (ns : List Int) (m : Int), maxI m ns ∈ m :: ns
  | [], m => List.mem_cons_self
  | n :: ns, m => by
    have ih := maxI_mem ns (if m < n then n else m)
    unfold maxI
    rcases List.mem_cons.mp ih with h | h
    · rw [h]; split <;> simp
    · exact List.mem_cons_of_mem _ (List.mem_cons_of_mem _ h)
def gMax (ds : List D) : Option D := match ints? ds with
  | some (n :: ns) => some (.int (maxI n ns))
  | _ => none
theorem c_tup : CallL X (.type "tuple") gTup := CallR.imp call_tuple_of fun xs H Q ⟨r, S, a, vs, ds, e, R, na, ha, rv, q⟩ =>
  ⟨a, vs, e, .inl ⟨SqL.of ha, fun l hl => OutD.new q R rv hl⟩⟩
theorem c_fup : CallL X (.type "tuple") gFup := CallR.imp call_tupleF fun xs H Q ⟨r, S, a, vs, ds, e, R, na, ha, rv, q⟩ =>
  ⟨a, vs, e, SqL.of ha, fun l o hl hd => by
    obtain ⟨R2, e2, q2⟩ := R.newF rv hl hd
    exact q _ _ e2 R2 q2⟩
theorem c_all (hc : X.calm = true) : CallL X (.builtin "all") gAll := CallR.imp (cr_all hc) fun xs H Q ⟨r, S, a, vs, ds, e, R, na, ha, rv, q⟩ => by
  have qq : OutD X.K r H S (gAll ds) Q := q
  clear q
  cases hb : bls? ds with
  | none => rw [gAll, hb] at qq; exact qq.elim
  | some bs =>
    rw [gAll, hb] at qq
    rw [bls?_eq hb] at rv
    have hv := RVs.bls_inv rv
    subst hv
    exact ⟨a, bs, e, SqL.of ha, OutD.now qq R (.bl _)⟩
theorem c_any (hc : X.calm = true) : CallL X (.builtin "any") gAny := CallR.imp (cr_any hc) fun xs H Q ⟨r, S, a, vs, ds, e, R, na, ha, rv, q⟩ => by
  have qq : OutD X.K r H S (gAny ds) Q := q
  clear q
  cases hb : bls? ds with
  | none => rw [gAny, hb] at qq; exact qq.elim
  | some bs =>
    rw [gAny, hb] at qq
    rw [bls?_eq hb] at rv
    have hv := RVs.bls_inv rv
    subst hv
    exact ⟨a, bs, e, SqL.of ha, OutD.now qq R (.bl _)⟩
theorem c_sumL (hc : X.calm = true) : CallL X (.builtin "sum") gSum := CallR.imp (cr_sum hc) fun xs H Q ⟨r, S, a, vs, ds, e, R, na, ha, rv, q⟩ => by
  have qq : OutD X.K r H S (gSum ds) Q := q
  clear q
  cases hb : ints? ds with
  | none => rw [gSum, hb] at qq; exact qq.elim
  | some bs =>
    rw [gSum, hb] at qq
    rw [ints?_eq hb] at rv
    have hv := RVs.ints_inv rv
    subst hv
    exact ⟨a, bs, e, SqL.of ha, OutD.now qq R (.int _)⟩
theorem c_maxL (hc : X.calm = true) : CallL X (.builtin "max") gMax := CallR.imp (cr_max hc) fun xs H Q ⟨r, S, a, vs, ds, e, R, na, ha, rv, q⟩ => by
  have qq : OutD X.K r H S (gMax ds) Q := q
  clear q
  cases hb : ints? ds with
  | none => rw [gMax, hb] at qq; exact qq.elim
  | some bs =>
    cases bs with
    | nil => rw [gMax, hb] at qq; exact qq.elim
    | cons n ns =>
      rw [gMax, hb] at qq
      rw [ints?_eq hb] at rv
      have hv := RVs.ints_inv rv
      subst hv
      refine ⟨a, n :: ns, e, SqL.of ha, by simp, fun m hm hle => ?_⟩
      have h1 := maxI_le ns n
      have h2 := hle _ (maxI_mem ns n)
      have h3 : m ≤ maxI n ns := by
        rcases List.mem_cons.mp hm with rfl | hm
        · exact h1.1
        · exact h1.2 m hm
      have h4 : m = maxI n ns := by omega
      subst h4
      exact OutD.now qq R (.int _)
theorem c_lenL : CallL X (.builtin "len") gLen := CallR.imp call_len_seq fun xs H Q ⟨r, S, a, vs, ds, e, R, na, ha, rv, q⟩ =>
  ⟨a, vs, e, .inl (SqL.of ha), by rw [← rv.length]; exact OutD.now q R (.int _)⟩
/-! ### built-in functions by values -/
def CallD (X : Cx) (f : Value) (g : List D → Sto → Option D) : Prop := CallR X f fun xs H Q => ∃ r S ds, RSt X.K r H S ∧ RVs X.K r H ds xs ∧ OutD X.K r H S (g ds S) Q
@[simp] def eCB (g : List D → Sto → Option D) (ga : AEnv → Sto → Res (List D)) : EvE := fun env S => (ga env S).bind fun ds S1 => ofO (g ds S1) S1
theorem cb_lift {s : L2.St} {H : Hp} {Q : VK} {g : List D → Sto → Option D} (h : liftE X.K W (eCB g ga) s H Q) :
    tCB (fun xs H Q => ∃ r S ds, RSt X.K r H S ∧ RVs X.K r H ds xs ∧ OutD X.K r H S (g ds S) Q) (liftA X.K W ga) s H Q := by
  obtain ⟨r, env, S, R, z⟩ := h
  refine lift_bind (g := fun ds env S1 => ofO (g ds S1) S1) anti_E R z fun ds S1 r1 H1 v e1 R1 rv z1 => ?_
  exact ⟨r1, S1, ds, R1.st, rv, ofO_out z1⟩
theorem d_callB {id : String} {g : List D → Sto → Option D} (hc : CallD X (.builtin id) g) (hg : Gl X x) (hm : X.mg x = none) (hv : bootBuiltins x = some (.builtin id)) (ha : DA X W (e :: es) ga) (hn : x ≠ "__name__" := by decide) (hdb : (x == ("__debug__" : Str)) = false := by decide)
    (hs : starEach (e :: es) X.env = (false, eval e X.env) :: starEach es X.env := by rfl) (hpl : (backTo pos (starEach es X.env)).any (·.1) = false := by rfl) : DE X W (.Call (.Name x p) (e :: es) [] pos) (eCB g ga) :=
  d_pe (pe_callB hc hg hm hv ha.pa hn hdb hs hpl) fun s H Q h => cb_lift h
theorem d_callTy {T : String} {g : List D → Sto → Option D} (hc : CallD X (.type T) g) (hg : Gl X x) (hm : X.mg x = none) (hv : bootBuiltins x = some (.type T)) (ha : DA X W (e :: es) ga) (hn : x ≠ "__name__" := by decide) (hdb : (x == ("__debug__" : Str)) = false := by decide)
    (hs : starEach (e :: es) X.env = (false, eval e X.env) :: starEach es X.env := by rfl) (hpl : (backTo pos (starEach es X.env)).any (·.1) = false := by rfl) : DE X W (.Call (.Name x p) (e :: es) [] pos) (eCB g ga) :=
  d_pe (pe_callTy hc hg hm hv ha.pa hn hdb hs hpl) fun s H Q h => cb_lift h
theorem RVs.one {K : PySem.W.Frag} {r : List Addr} {H : Hp} {d : D} {vs : List V} (h : RVs K r H [d] vs) : ∃ v, vs = [v] ∧ RV K r H d v := by
  cases h with
  | cons h t => cases t; exact ⟨_, rfl, h⟩
theorem RVs.two {K : PySem.W.Frag} {r : List Addr} {H : Hp} {d d' : D} {vs : List V} (h : RVs K r H [d, d'] vs) : ∃ v v', vs = [v, v'] ∧ RV K r H d v ∧ RV K r H d' v' := by
  cases h with
  | cons h t =>
    obtain ⟨v, rfl, h2⟩ := RVs.one t
    exact ⟨_, _, rfl, h, h2⟩
def gAbs (ds : List D) (_ : Sto) : Option D := match ds with
  | [.int i] => some (.int (if i < 0 then -i else i))
  | _ => none
theorem c_abs : CallD X (.builtin "abs") gAbs := CallR.imp call_abs fun xs H Q ⟨r, S, ds, R, rv, q⟩ => by
  unfold gAbs at q
  split at q
  · obtain ⟨v, rfl, h⟩ := rv.one
    cases h
    exact ⟨_, rfl, OutD.now q R (.int _)⟩
  · exact q.elim
def gMax2 (ds : List D) (_ : Sto) : Option D := match ds with
  | [.int i, .int j] => some (.int (if j > i then j else i))
  | _ => none
theorem c_max2 (hc : X.calm = true) : CallD X (.builtin "max") gMax2 := CallR.imp (call_max2 hc) fun xs H Q ⟨r, S, ds, R, rv, q⟩ => by
  unfold gMax2 at q
  split at q
  · obtain ⟨v, v', rfl, h, h'⟩ := rv.two
    cases h; cases h'
    exact ⟨_, _, rfl, OutD.now q R (.int _)⟩
  · exact q.elim
def gInt (ds : List D) (_ : Sto) : Option D := match ds with
  | [.int i] => some (.int i)
  | [.bl k] => some (.int (if k then 1 else 0))
  | _ => none
theorem c_int : CallD X (.type "int") gInt := CallR.imp call_int1 fun xs H Q ⟨r, S, ds, R, rv, q⟩ => by
  unfold gInt at q
  split at q
  · obtain ⟨v, rfl, h⟩ := rv.one
    cases h
    exact .inl ⟨_, rfl, OutD.now q R (.int _)⟩
  · obtain ⟨v, rfl, h⟩ := rv.one
    cases h
    exact .inr ⟨_, rfl, OutD.now q R (.int _)⟩
  · exact q.elim
def lenD (d : D) (S : Sto) : Option Nat := match d with
  | .tup xs => some xs.length
  | .cst xs => some xs.length
  | .fup xs => some xs.length
  | .str z => if z.length ≤ LN then some z.length else none
  | .loc n => match S[n]? with
    | some (.lst xs) => some xs.length
    | some (.ro xs) => some xs.length
    | some (.dK xs) => some xs.length
    | some (.dT xs) => some xs.length
    | _ => none
  | _ => none
def gLenD (ds : List D) (S : Sto) : Option D := match ds with
  | [d] => (lenD d S).map fun n => .int n
  | _ => none
theorem c_len : CallD X (.builtin "len") gLenD := CallR.imp (CallR.or call_len_seq (CallR.or call_len_str (CallR.or call_lenD call_len_dT))) fun xs H Q ⟨r, S, ds, R, rv, q⟩ => by
  unfold gLenD at q
  split at q
  · rename_i d
    obtain ⟨v, rfl, h⟩ := rv.one
    cases hl : lenD d S with
    | none => rw [hl] at q; exact q.elim
    | some n =>
      rw [hl] at q
      have qn : Q (.int n) H := OutD.now q R (.int _)
      clear q
      cases h with
      | tup h q => cases hl; exact .inl ⟨_, _, rfl, .inr (.inl (.inl h)), by rw [← q.length]; exact qn⟩
      | cst h q => cases hl; exact .inl ⟨_, _, rfl, .inr h.sq, by rw [← q.length]; exact qn⟩
      | fup h hd q => cases hl; exact .inl ⟨_, _, rfl, .inr (.inl (.inr ⟨_, h⟩)), by rw [← q.length]; exact qn⟩
      | str z =>
        simp only [lenD] at hl
        split at hl
        · rename_i hz; cases hl; exact .inr (.inl ⟨z, rfl, LN_line hz, qn⟩)
        · cases hl
      | @loc k a h1 =>
        simp only [lenD] at hl
        split at hl
        · rename_i ys e2
          obtain ⟨b, e3, vs, e4, q4⟩ := R.at_ k _ e2
          rw [h1] at e3; cases e3; cases hl
          exact .inl ⟨_, _, rfl, .inl (.inl (.inl e4)), by rw [← q4.length]; exact qn⟩
        · rename_i ys e2
          obtain ⟨b, e3, o, vs, e4, q4⟩ := R.at_ k _ e2
          rw [h1] at e3; cases e3; cases hl
          exact .inl ⟨_, _, rfl, .inl (.inl (.inr ⟨o, e4⟩)), by rw [← q4.length]; exact qn⟩
        · rename_i ys e2
          obtain ⟨b, e3, vs, e4, q4⟩ := R.at_ k _ e2
          rw [h1] at e3; cases e3; cases hl
          exact .inr (.inr (.inl ⟨_, _, rfl, e4, by rw [← q4.len]; exact qn⟩))
        · rename_i ys e2
          obtain ⟨b, e3, vs, e4, q4⟩ := R.at_ k _ e2
          rw [h1] at e3; cases e3; cases hl
          exact .inr (.inr (.inr ⟨_, _, rfl, e4, by rw [← q4.len]; exact qn⟩))
        · cases hl
      | _ => simp [lenD] at hl
  · exact q.elim
/-- sum of a tuple or a list of ints -/
def gSumD (ds : List D) (S : Sto) : Option D := match ds with
  | [d] => match d.seq? with
    | some xs => gSum xs
    | none => (lstOf d S).bind gSum
  | _ => none
theorem cr_sumT (hc : X.calm = true) : CallR X (.builtin "sum") (fun vs H Q => ∃ (a : Addr) (ns : List Int), vs = [V.ref a] ∧ SqT X.K H a (ns.map V.int) ∧ Q (.int ns.sum) H) := by
  intro pins s σ H xs us Q I r h
  obtain ⟨a, ns, rfl, hs, q⟩ := h
  obtain ⟨its, rv, hl, _⟩ := I.tuple hs
  obtain ⟨u, rfl, rx⟩ := vals1 r
  cases rx
  have hi := rv.ints
  obtain ⟨ys, e⟩ := hi.allInts.items
  have hn : numsOf (intItems ys).toList = ns := by rw [← e]; exact hi.numsOf
  rw [nums_intItems] at hn
  rw [e] at hl
  refine PySem.W.ktm_sumG (I.ok.hd hc) hl fun h' tk t' hk => ?_
  rw [preSum_eq, List.take_of_length_le (by simp), hn]
  exact ⟨.int ns.sum, H, I.kept hk, ⟨_, rfl⟩, q⟩
theorem gSum_some {ds : List D} {d : D} (h : gSum ds = some d) : ∃ ns : List Int, ds = ns.map D.int ∧ d = D.int ns.sum := by
  unfold gSum at h
  cases hb : ints? ds with
  | none => rw [hb] at h; cases h
  | some ns => rw [hb] at h; cases h; exact ⟨ns, ints?_eq hb, rfl⟩
theorem c_sum (hc : X.calm = true) : CallD X (.builtin "sum") gSumD := CallR.imp (CallR.or (cr_sum hc) (cr_sumT hc)) fun xs H Q ⟨r, S, ds, R, rv, q⟩ => by
  unfold gSumD at q
  split at q
  · rename_i d
    obtain ⟨v, rfl, h⟩ := rv.one
    split at q
    · rename_i ys e
      obtain ⟨d', e', q⟩ := out_some q
      obtain ⟨ns, rfl, rfl⟩ := gSum_some e'
      obtain ⟨a, vs, rfl, s1, q1⟩ := h.seq e
      rw [RVs.ints_inv q1] at s1
      exact .inr ⟨a, ns, rfl, s1, OutD.now q R (.int _)⟩
    · cases hl : lstOf d S with
      | none => rw [hl] at q; exact q.elim
      | some ys =>
        rw [hl] at q
        obtain ⟨d', e', q⟩ := out_some q
        obtain ⟨ns, rfl, rfl⟩ := gSum_some e'
        obtain ⟨a, vs, rfl, s1, q1⟩ := h.lst R hl
        rw [RVs.ints_inv q1] at s1
        exact .inl ⟨a, ns, rfl, s1, OutD.now q R (.int _)⟩
  · exact q.elim
/-- tuple(..) of a list of the store -/
def gTupD (ds : List D) (S : Sto) : Option D := match ds with
  | [d] => (lstOf d S).map .tup
  | _ => none
theorem c_tupD : CallD X (.type "tuple") gTupD := CallR.imp call_tuple_of fun xs H Q ⟨r, S, ds, R, rv, q⟩ => by
  unfold gTupD at q
  split at q
  · rename_i d
    obtain ⟨v, rfl, h⟩ := rv.one
    cases hl : lstOf d S with
    | none => rw [hl] at q; exact q.elim
    | some ys =>
      rw [hl] at q
      obtain ⟨a, vs, rfl, s1, q1⟩ := h.lst R hl
      exact ⟨a, vs, rfl, .inl ⟨s1, fun l hl => OutD.new q R q1 hl⟩⟩
  · exact q.elim
def gFupD (ds : List D) (S : Sto) : Option D := match ds with
  | [d] => (lstOf d S).map .fup
  | _ => none
theorem c_fupD : CallD X (.type "tuple") gFupD := CallR.imp call_tupleF fun xs H Q ⟨r, S, ds, R, rv, q⟩ => by
  unfold gFupD at q
  split at q
  · rename_i d
    obtain ⟨v, rfl, h⟩ := rv.one
    cases hl : lstOf d S with
    | none => rw [hl] at q; exact q.elim
    | some ys =>
      rw [hl] at q
      obtain ⟨a, vs, rfl, s1, q1⟩ := h.lst R hl
      refine ⟨a, vs, rfl, s1, fun l o hl hd => ?_⟩
      obtain ⟨R2, e2, q2⟩ := R.newF q1 hl hd
      exact q _ _ e2 R2 q2
  · exact q.elim
/-! ### isinstance -/
def tyN (d : D) (S : Sto) : Option String := match d with
  | .non => some "NoneType"
  | .bl _ => some "bool"
  | .int _ => some "int"
  | .str _ => some "str"
  | .tup _ => some "tuple"
  | .cst _ => some "tuple"
  | .fup _ => some "tuple"
  | .loc n => match S[n]? with
    | some (.lst _) => some "list"
    | some (.ro _) => some "list"
    | some (.dK _) => some "dict"
    | some (.dT _) => some "dict"
    | _ => none
theorem tyN_of {K : PySem.W.Frag} {r : List Addr} {H : Hp} {S : Sto} {d : D} {v : V} {t : String} (R : RSt K r H S) (h : RV K r H d v) (e : tyN d S = some t) : TyX K H v (.type t) := by
  cases h with
  | non => cases e; exact .base .non
  | bl b => cases e; exact .base (.bl b)
  | int i => cases e; exact .base (.int i)
  | str z => cases e; exact .base (.str z)
  | tup h q => cases e; exact .base (.tup h)
  | cst h q =>
    cases e
    rcases h with h | ⟨o, h⟩ | h
    · exact .base (.tup h)
    · exact .fTuple h
    · rcases h with (h | ⟨o, h⟩) | ⟨o, its, n, hk, hc, _⟩
      · cases h
      · cases h
      · exact .kTuple hk hc
  | fup h hd q => cases e; exact .fTuple h
  | @loc k a h1 =>
    simp only [tyN] at e
    split at e
    · rename_i ys e2; obtain ⟨b, e3, vs, e4, q4⟩ := R.at_ k _ e2; rw [h1] at e3; cases e3; cases e; exact .base (.lst e4)
    · rename_i ys e2; obtain ⟨b, e3, o, vs, e4, q4⟩ := R.at_ k _ e2; rw [h1] at e3; cases e3; cases e; exact .base (.frz e4)
    · rename_i ys e2; obtain ⟨b, e3, vs, e4, q4⟩ := R.at_ k _ e2; rw [h1] at e3; cases e3; cases e; exact .base (.dK e4)
    · rename_i ys e2; obtain ⟨b, e3, vs, e4, q4⟩ := R.at_ k _ e2; rw [h1] at e3; cases e3; cases e; exact .base (.dT e4)
    · cases e
def isiD (T : String) (d : D) (S : Sto) : Option D := (tyN d S).bind fun t => (kitB t T).map .bl
@[simp] def eIsi (T : String) (fa : EvE) : EvE := fun env S => (fa env S).bind fun d S1 => ofO (isiD T d S1) S1
theorem d_isi {T : String} {y : Str} {pi : Pos} (hg : Gl X "isinstance") (hm : X.mg "isinstance" = none) (hgy : Gl X y) (hmy : X.mg y = none) (hvy : bootBuiltins y = some (.type T)) (ha : DE X W e fa) (hny : y ≠ "__name__" := by decide) (hdy : (y == ("__debug__" : Str)) = false := by decide)
    (hs : starEach [e, .Name y pi] X.env = (false, eval e X.env) :: starEach [.Name y pi] X.env := by rfl) (hs2 : starEach [.Name y pi] X.env = (false, eval (.Name y pi) X.env) :: starEach [] X.env := by rfl)
    (hpl : (backTo pos (starEach [.Name y pi] X.env)).any (·.1) = false := by rfl) : DE X W (.Call (.Name "isinstance" p) [e, .Name y pi] [] pos) (eIsi T fa) :=
  d_pe (pe_callB call_isi hg hm (by decide +kernel) (pa_cons ha.pe (pa_cons (pe_bltn (v := .ty T) hgy hmy hvy rfl hny hdy) pa_nil hs2) hs) (by decide) (by decide) hs hpl) fun s H Q ⟨r, env, S, R, z⟩ => by
    refine lift_bind (g := fun d env S1 => ofO (isiD T d S1) S1) anti_E R z fun d S1 r1 H1 v e1 R1 rv z1 => ?_
    obtain ⟨d', e', q⟩ := out_some (ofO_out z1)
    unfold isiD at e'
    cases ht : tyN d S1 with
    | none => rw [ht] at e'; cases e'
    | some t =>
      rw [ht] at e'
      cases hk : kitB t T with
      | none => simp [hk] at e'
      | some k =>
        simp [hk] at e'
        subst e'
        exact ⟨v, .ty T, _, _, k, rfl, .ty T, tyN_of R1.st rv ht, kit_ty hk, q.now R1.st (.bl _)⟩
/-! ### list(..) -/
def CallDL (X : Cx) (f : Value) (g : List D → Sto → Option (List D)) : Prop := CallR X f fun xs H Q => ∃ r S ds ds', RSt X.K r H S ∧ RVs X.K r H ds xs ∧ g ds S = some ds' ∧ ∀ H' p vs, Ext r H r H' → RSt X.K r H' S → H p = none → p ∉ r → H' p = some (.lst vs) → RVs X.K r H' ds' vs → Q (.ref p) H'
@[simp] def lCB (g : List D → Sto → Option (List D)) (ga : AEnv → Sto → Res (List D)) : AEnv → Sto → Res (List D) := fun env S => (ga env S).bind fun ds S1 => ofL (g ds S1) S1
theorem lcb_lift {s : L2.St} {H : Hp} {Q : VK} {g : List D → Sto → Option (List D)} (h : liftL X.K W (lCB g ga) s H Q) :
    tCB (fun xs H Q => ∃ r S ds ds', RSt X.K r H S ∧ RVs X.K r H ds xs ∧ g ds S = some ds' ∧ ∀ H' p vs, Ext r H r H' → RSt X.K r H' S → H p = none → p ∉ r → H' p = some (.lst vs) → RVs X.K r H' ds' vs → Q (.ref p) H') (liftA X.K W ga) s H Q := by
  obtain ⟨r, env, S, R, z⟩ := h
  refine lift_map (g := fun ds env S1 => ofL (g ds S1) S1) R z fun ds S1 r1 H1 v e1 R1 rv z1 => ?_
  cases hg : g ds S1 with
  | none => rw [hg] at z1; exact z1.elim
  | some ds' =>
    rw [hg] at z1
    exact ⟨r1, S1, ds, ds', R1.st, rv, hg, fun H' p vs e2 R2 h0 np hp rvs => z1 r1 H' _ (e1.trans e2) R2 ⟨p, vs, rfl, e1.fr p h0, np, hp, rvs⟩⟩
theorem dl_callTy {T : String} {g : List D → Sto → Option (List D)} (hc : CallDL X (.type T) g) (hg : Gl X x) (hm : X.mg x = none) (hv : bootBuiltins x = some (.type T)) (ha : DA X W (e :: es) ga) (hn : x ≠ "__name__" := by decide) (hdb : (x == ("__debug__" : Str)) = false := by decide)
    (hs : starEach (e :: es) X.env = (false, eval e X.env) :: starEach es X.env := by rfl) (hpl : (backTo pos (starEach es X.env)).any (·.1) = false := by rfl) : DL X W (.Call (.Name x p) (e :: es) [] pos) (lCB g ga) :=
  dl_pe (pe_callTy hc hg hm hv ha.pa hn hdb hs hpl) fun s H Q h => lcb_lift h
theorem dl_callB {id : String} {g : List D → Sto → Option (List D)} (hc : CallDL X (.builtin id) g) (hg : Gl X x) (hm : X.mg x = none) (hv : bootBuiltins x = some (.builtin id)) (ha : DA X W (e :: es) ga) (hn : x ≠ "__name__" := by decide) (hdb : (x == ("__debug__" : Str)) = false := by decide)
    (hs : starEach (e :: es) X.env = (false, eval e X.env) :: starEach es X.env := by rfl) (hpl : (backTo pos (starEach es X.env)).any (·.1) = false := by rfl) : DL X W (.Call (.Name x p) (e :: es) [] pos) (lCB g ga) :=
  dl_pe (pe_callB hc hg hm hv ha.pa hn hdb hs hpl) fun s H Q h => lcb_lift h
def gLst (ds : List D) (S : Sto) : Option (List D) := match ds with
  | [d] => match d.seq? with
    | some xs => some xs
    | none => lstOf d S
  | _ => none
theorem c_lst : CallDL X (.type "list") gLst := CallR.imp call_list_of fun xs H Q ⟨r, S, ds, ds', R, rv, hg, q⟩ => by
  unfold gLst at hg
  split at hg
  · rename_i d
    obtain ⟨v, rfl, h⟩ := rv.one
    split at hg
    · rename_i ys e
      cases hg
      obtain ⟨a, vs, rfl, s1, q1⟩ := h.seq e
      refine ⟨a, vs, rfl, .inr s1, fun l hl => ?_⟩
      obtain ⟨R2, e2⟩ := R.new (o := .lst vs) hl
      exact q _ l vs e2 R2 hl (R.nmem hl) upd_same (RVs.ext q1 R e2)
    · obtain ⟨a, vs, rfl, s1, q1⟩ := h.lst R hg
      refine ⟨a, vs, rfl, .inl s1, fun l hl => ?_⟩
      obtain ⟨R2, e2⟩ := R.new (o := .lst vs) hl
      exact q _ l vs e2 R2 hl (R.nmem hl) upd_same (RVs.ext q1 R e2)
  · cases hg
/-- [..] + [..] -/
theorem op_cat' : OpR X (binaryOp .Add) rCat := op_cat
@[simp] def lCat (ga gb : AEnv → Sto → Res (List D)) : AEnv → Sto → Res (List D) := fun env S => (ga env S).bind fun xs S1 => (gb env S1).bind fun ys S2 => if xs.length + ys.length ≤ LN then .ok (xs ++ ys) S2 else .bad
theorem dl_cat (ha : DL X W a ga) (hb : DL X W b gb) : DL X W (.BinOp a .Add b pos) (lCat ga gb) :=
  dl_pe (pe_op op_cat ha.pe hb.pe) fun s H Q ⟨r, env, S, R, z⟩ => by
    refine lift_map (RR := RVL X.K) (g := fun xs env S1 => (gb env S1).bind fun ys S2 => (if xs.length + ys.length ≤ LN then Res.ok (xs ++ ys) S2 else Res.bad : Res (List D))) R z fun xs S1 r1 H1 v e1 R1 rv z1 => ?_
    obtain ⟨a, vs, rfl, h0, na, ha, q⟩ := rv
    have z1' : resP X.K W (RVL X.K) r1 H1 s ((gb env S1).bind fun ys S2 => (if xs.length + ys.length ≤ LN then Res.ok (xs ++ ys) S2 else Res.bad : Res (List D))) Q := resP.ext anti_L z1 e1
    refine lift_map (RR := RVL X.K) (g := fun ys env S2 => (if xs.length + ys.length ≤ LN then Res.ok (xs ++ ys) S2 else Res.bad : Res (List D))) R1 z1' fun ys S2 r2 H2 w e2 R2 rw' z2 => ?_
    obtain ⟨b, us, rfl, h0', nb, hb, q'⟩ := rw'
    by_cases hl : xs.length + ys.length ≤ LN
    · rw [if_pos hl] at z2
      refine ⟨a, b, vs, us, rfl, rfl, (e2.keep a _ na ha).1, hb, by rw [← q.length, ← q'.length]; exact LN_line hl, fun p hp => ?_⟩
      exact new_lst z2 e2 R2.st (RVs.append (RVs.ext q R1.st e2) q') hp
    · rw [if_neg hl] at z2; exact z2.elim
/-! ### methods of lists -/
/-- a method call that may change the store: the receiver, the arguments, the store give the result and the store -/
def MetD (X : Cx) (T id : String) (g : D → List D → Sto → Option (D × Sto)) : Prop :=
  MtR X id (fun x xs H Q => ∃ r S d ds d' S', RSt X.K r H S ∧ RV X.K r H d x ∧ RVs X.K r H ds xs ∧ g d ds S = some (d', S') ∧ ∀ H' v, Ext r H r H' → RSt X.K r H' S' → RV X.K r H' d' v → Q v H')
/-- what the receiver is -/
def tyD (T : String) (d : D) (S : Sto) : Bool := match d with
  | .loc n => match S[n]? with
    | some (.lst _) => T == "list"
    | some (.dK _) => T == "dict"
    | some (.dT _) => T == "dict"
    | _ => false
  | .str _ => T == "str"
  | .int _ => T == "int"
  | _ => false
theorem tyD_of {K : PySem.W.Frag} {T : String} {r : List Addr} {H : Hp} {S : Sto} {d : D} {v : V} (R : RSt K r H S) (h : RV K r H d v) (e : tyD T d S = true) : tyV K T v H := by
  cases h with
  | @loc k a h1 =>
    simp only [tyD] at e
    split at e
    · rename_i ys e2; obtain ⟨b, e3, vs, e4, q4⟩ := R.at_ k _ e2; rw [h1] at e3; cases e3; exact .inl ⟨eq_of_beq e, _, .inl (.inl e4)⟩
    · rename_i ys e2; obtain ⟨b, e3, vs, e4, q4⟩ := R.at_ k _ e2; rw [h1] at e3; cases e3; exact .inr (.inr (.inl ⟨eq_of_beq e, .inl ⟨_, e4⟩⟩))
    · rename_i ys e2; obtain ⟨b, e3, vs, e4, q4⟩ := R.at_ k _ e2; rw [h1] at e3; cases e3; exact .inr (.inr (.inl ⟨eq_of_beq e, .inr ⟨_, e4⟩⟩))
    · cases e
  | str z => exact eq_of_beq e
  | int z => exact eq_of_beq e
  | _ => simp [tyD] at e
@[simp] def ofP (o : Option (D × Sto)) : Res D := match o with
  | some p => .ok p.1 p.2
  | none => .bad
@[simp] def eMet (T : String) (g : D → List D → Sto → Option (D × Sto)) (fa : EvE) (ga : AEnv → Sto → Res (List D)) : EvE := fun env S => (fa env S).bind fun d S1 => if tyD T d S1 then (ga env S1).bind fun ds S2 => ofP (g d ds S2) else .bad
@[simp] def eMet0 (T : String) (g : D → List D → Sto → Option (D × Sto)) (fa : EvE) : EvE := fun env S => (fa env S).bind fun d S1 => if tyD T d S1 then ofP (g d [] S1) else .bad
theorem d_met {T id : String} {name : Str} {apos cpos : Pos} {g : D → List D → Sto → Option (D × Sto)} (pa : PlainAttrs T) (slot : Slot T name id) (hty : typeOf (.builtin id) = pure (.type "method_descriptor")) (hm : MetD X T id g) (ho : DE X W a fa) (ha : DA X W (e :: es) ga)
    (hbase : attributeBase a name X.env (eval a X.env) = eval a X.env := by rfl)
    (hfew : ((backTo cpos (starEach (e :: es) X.env)).all (fun x => !x.1) && (backToKw cpos (keywordEach [] X.env)).all (fun x => x.1.isSome)
      && decide ((e :: es).length + ([] : List Keyword).length + (if ([] : List Keyword).isEmpty then 0 else 1) < 30)) = true := by rfl)
    (hline : (apos.endLine == cpos.line) = true := by rfl) (hs : starEach (e :: es) X.env = (false, eval e X.env) :: starEach es X.env := by rfl) (hplain : (backTo cpos (starEach es X.env)).any (·.1) = false := by rfl) :
    DE X W (.Call (.Attribute a name apos) (e :: es) [] cpos) (eMet T g fa ga) :=
  d_pe (pe_bm pa slot hty hm ho.pe ha.pa hbase hfew hline hs hplain) fun s H Q ⟨r, env, S, R, z⟩ => by
    refine lift_bind (g := fun d env S1 => (if tyD T d S1 then (ga env S1).bind fun ds S2 => ofP (g d ds S2) else Res.bad : Res D)) anti_E R z fun d S1 r1 H1 v e1 R1 rv z1 => ?_
    by_cases ht : tyD T d S1 = true
    · rw [if_pos ht] at z1
      refine ⟨tyD_of R1.st rv ht, ?_⟩
      refine lift_bind (g := fun ds env S2 => ofP (g d ds S2)) anti_E R1 z1 fun ds S2 r2 H2 vs e2 R2 rvs z2 => ?_
      cases hg : g d ds S2 with
      | none => rw [hg] at z2; exact z2.elim
      | some p =>
        rw [hg] at z2
        exact ⟨r2, S2, d, ds, p.1, p.2, R2.st, RV.ext rv R1.st e2, rvs, hg, fun H' v e3 R3 rv3 => z2 r2 H' v e3 R3 rv3⟩
    · rw [if_neg ht] at z1; exact z1.elim
theorem d_met0 {T id : String} {name : Str} {apos cpos : Pos} {g : D → List D → Sto → Option (D × Sto)} (pa : PlainAttrs T) (slot : Slot T name id) (hty : typeOf (.builtin id) = pure (.type "method_descriptor")) (hm : MetD X T id g) (ho : DE X W a fa)
    (hbase : attributeBase a name X.env (eval a X.env) = eval a X.env := by rfl) (hline : (apos.endLine == cpos.line) = true := by rfl) : DE X W (.Call (.Attribute a name apos) [] [] cpos) (eMet0 T g fa) :=
  d_pe (pe_bm0 pa slot hty hm ho.pe hbase hline) fun s H Q ⟨r, env, S, R, z⟩ => by
    refine lift_bind (g := fun d env S1 => (if tyD T d S1 then ofP (g d [] S1) else Res.bad : Res D)) anti_E R z fun d S1 r1 H1 v e1 R1 rv z1 => ?_
    by_cases ht : tyD T d S1 = true
    · rw [if_pos ht] at z1
      refine ⟨tyD_of R1.st rv ht, ?_⟩
      cases hg : g d [] S1 with
      | none => rw [hg] at z1; exact z1.elim
      | some p =>
        rw [hg] at z1
        exact ⟨r1, S1, d, [], p.1, p.2, R1.st, rv, .nil, hg, fun H' v e3 R3 rv3 => z1 r1 H' v e3 R3 rv3⟩
    · rw [if_neg ht] at z1; exact z1.elim
theorem MtR.imp {id : String} {r r' : V → List V → Hp → VK → Prop} (h : MtR X id r) (k : ∀ x xs H Q, r' x xs H Q → r x xs H Q) : MtR X id r' := fun pins s σ H x xs v us Q I rx rs q => h pins s σ H x xs v us Q I rx rs (k _ _ _ _ q)
/-- the number of a list that may be changed, and its items -/
def mutL (d : D) (S : Sto) : Option (Nat × List D) := match d with
  | .loc n => match S[n]? with
    | some (.lst xs) => some (n, xs)
    | _ => none
  | _ => none
theorem mutL_of {K : PySem.W.Frag} {r : List Addr} {H : Hp} {S : Sto} {d : D} {v : V} {n : Nat} {xs : List D} (R : RSt K r H S) (h : RV K r H d v) (e : mutL d S = some (n, xs)) : ∃ a vs, v = .ref a ∧ r[n]? = some a ∧ H a = some (.lst vs) ∧ RVs K r H xs vs ∧
    ∀ ys us, RVs K r H ys us → RSt K r (upd H a (.lst us)) (S.set n (.lst ys)) ∧ Ext r H r (upd H a (.lst us)) := by
  cases h with
  | @loc k a h1 =>
    simp only [mutL] at e
    split at e
    · rename_i ys e2
      obtain ⟨b, e3, vs, e4, q4⟩ := R.at_ k _ e2
      rw [h1] at e3; cases e3; cases e
      refine ⟨a, vs, rfl, h1, e4, q4, fun ys us q => R.put h1 (fun o u z => by rw [e4] at z; cases z) ⟨us, upd_same, ?_⟩⟩
      exact RVs.mono (TGrow.upd e4 (fun _ z => nomatch z) (fun _ _ z => nomatch z)) (fun _ _ z => z) q
    · cases e
  | _ => simp [mutL] at e
def gApp (d : D) (ds : List D) (S : Sto) : Option (D × Sto) := match ds, mutL d S with
  | [y], some (n, xs) => if xs.length < LN then some (.non, S.set n (.lst (xs ++ [y]))) else none
  | _, _ => none
theorem m_app : MetD X "list" "list.append" gApp := MtR.imp mt_append fun x xs H Q ⟨r, S, d, ds, d', S', R, rv, rvs, hg, q⟩ => by
  unfold gApp at hg
  split at hg
  · rename_i y n ys hm
    split at hg
    · rename_i hl
      cases hg
      obtain ⟨a, vs, rfl, h1, h2, h3, h4⟩ := mutL_of R rv hm
      obtain ⟨u, rfl, ru⟩ := rvs.one
      obtain ⟨R2, e2⟩ := h4 (ys ++ [y]) (vs ++ [u]) (RVs.append h3 (.cons ru .nil))
      exact ⟨a, vs, u, rfl, rfl, h2, by rw [← h3.length, sizeLine_eq]; exact hl, q _ _ e2 R2 .non⟩
    · cases hg
  · cases hg
def gPopAt (d : D) (ds : List D) (S : Sto) : Option (D × Sto) := match ds, mutL d S with
  | [.int i], some (n, xs) => if 0 ≤ i ∧ xs.length ≤ LN then match xs[i.toNat]? with
    | some y => some (y, S.set n (.lst (xs.eraseIdx i.toNat)))
    | none => none
    else none
  | _, _ => none
theorem m_popAt : MetD X "list" "list.pop" gPopAt := MtR.imp mt_popAt fun x xs H Q ⟨r, S, d, ds, d', S', R, rv, rvs, hg, q⟩ => by
  unfold gPopAt at hg
  split at hg
  · rename_i i n ys hm
    split at hg
    · rename_i hi
      split at hg
      · rename_i y hy
        cases hg
        obtain ⟨a, vs, rfl, h1, h2, h3, h4⟩ := mutL_of R rv hm
        obtain ⟨u, rfl, ru⟩ := rvs.one
        cases ru
        obtain ⟨v, hv, rv'⟩ := RVs.get h3 hy
        obtain ⟨R2, e2⟩ := h4 (ys.eraseIdx i.toNat) (vs.eraseIdx i.toNat) (RVs.erase _ h3)
        have hlt : i.toNat < ys.length := (List.getElem?_eq_some_iff.mp hy).1
        refine ⟨a, vs, i, i.toNat, v, rfl, rfl, h2, by omega, by have := hi.2; show i < 9223372036854775808; unfold LN at this; omega, ?_, hv, q _ _ e2 R2 (RV.ext rv' R e2)⟩
        have hx : ixN vs.length i = some i.toNat := by unfold ixN; rw [if_pos hi.1, if_pos (by rw [← h3.length]; omega)]
        exact (ixN_seq hx).1
      · cases hg
    · cases hg
  · cases hg
/-- d.pop(k, x) of tuple keys -/
def gPopT (d : D) (ds : List D) (S : Sto) : Option (D × Sto) := match ds, d with
  | [k, x], .loc n => match S[n]?, keyT? k with
    | some (.dT kvs), some kk => match lookD kvs kk with
      | some v => some (v, S.set n (.dT (dropD kvs kk)))
      | none => some (x, S)
    | _, _ => none
  | _, _ => none
theorem m_popT (hu : X.A.units + 1 < cLine) : MetD X "dict" "dict.pop" gPopT := MtR.imp (L2.DX.mt_popT hu) fun x xs H Q ⟨r, S, d, ds, d', S', R, rv, rvs, hg, q⟩ => by
  unfold gPopT at hg
  split at hg
  · rename_i k y n
    obtain ⟨v, w, rfl, r1, r2⟩ := rvs.two
    split at hg
    · rename_i kvs kk e2 hk
      obtain ⟨b, rfl, hb⟩ := r1.keyT hk
      cases rv with
      | @loc _ a h1 =>
        obtain ⟨a', e3, ws, e4, q4⟩ := R.at_ n _ e2
        rw [h1] at e3; cases e3
        have lk := PKV.look (k := kk) q4
        refine ⟨a, ws, kk, b, w, rfl, rfl, e4, hb, fun u hu' => ?_, fun hn => ?_⟩
        · split at hg
          · rename_i v' hv
            cases hg
            obtain ⟨u', e5, ru⟩ := lk.1 _ hv
            rw [hu'] at e5; cases e5
            have pre : RSt X.K r (upd H a (.dT (dropK ws kk))) (S.set n (.dT (dropD kvs kk))) ∧ Ext r H r (upd H a (.dT (dropK ws kk))) := by
              refine R.put h1 (fun o u z => by rw [e4] at z; cases z) ⟨_, upd_same, ?_⟩
              exact PKV.mono (H := H) (r := r) (TGrow.upd e4 (fun _ z => nomatch z) (fun _ _ z => nomatch z)) (fun _ _ z => z) (PKV.drop q4)
            exact q _ _ pre.2 pre.1 (RV.ext ru R pre.2)
          · rename_i hv
            rw [lk.2 hv] at hu'; cases hu'
        · split at hg
          · rename_i v' hv
            obtain ⟨u', e5, ru⟩ := lk.1 _ hv
            rw [hn] at e5; cases e5
          · cases hg
            exact q _ _ (Ext.refl r H) R r2
    · cases hg
  · cases hg
end
end DV
/-! DV6: dict(..) of a tuple of pairs, sorted(..). -/
namespace DV
open PySem PySem.Spec PyProof.Rows L2

section
variable {X : Cx} {W : WX} {a b c e : Expr} {es : List Expr} {fa fb fc : EvE} {ga gb : AEnv → Sto → Res (List D)} {pos p p2 : Pos} {x : Str}
/-! ### dict(a tuple of pairs), the keys unlike -/
def pairsT? : List D → Option (List (List Key × D))
  | [] => some []
  | .tup [k, v] :: ds => match keyT? k, pairsT? ds with
    | some kk, some r => some ((kk, v) :: r)
    | _, _ => none
  | _ => none
theorem pairsT_of {K : PySem.W.Frag} {r : List Addr} {H : Hp} : ∀ {ds : List D} {kvs : List (List Key × D)} {vs : List V}, pairsT? ds = some kvs → RVs K r H ds vs →
    ∃ (T : List Addr) (xs : List (List Key × Addr × V)), vs = T.map V.ref ∧ PKV K r H kvs (xs.map fun x => (x.1, x.2.2)) ∧ Paired (fun (t : Addr) (x : List Key × Addr × V) => H t = some (.tup [.ref x.2.1, x.2.2]) ∧ H x.2.1 = some (.tup (x.1.map kV))) T xs
  | [], kvs, _, h, .nil => by simp [pairsT?] at h; subst h; exact ⟨[], [], rfl, .nil, .nil⟩
  | .tup [k, v] :: ds, kvs, _, h, .cons (vs := vs) (v := pv) hr t => by
    cases hk : keyT? k with
    | none => simp [pairsT?, hk] at h
    | some kk =>
      cases hp : pairsT? ds with
      | none => simp [pairsT?, hk, hp] at h
      | some rest =>
        simp [pairsT?, hk, hp] at h
        subst h
        obtain ⟨T, xs, e1, e2, e3⟩ := pairsT_of hp t
        cases hr with
        | @tup _ us a ha q =>
          obtain ⟨u, w, rfl, q1, q2⟩ := RVs.two q
          obtain ⟨b, rfl, hb⟩ := q1.keyT hk
          exact ⟨a :: T, (kk, b, w) :: xs, by rw [e1]; rfl, .cons ⟨rfl, q2⟩ e2, .cons ⟨ha, hb⟩ e3⟩
  | .tup [] :: ds, kvs, _, h, _ => by simp [pairsT?] at h
  | .tup [_] :: ds, kvs, _, h, _ => by simp [pairsT?] at h
  | .tup (_ :: _ :: _ :: _) :: ds, kvs, _, h, _ => by simp [pairsT?] at h
  | .non :: ds, kvs, _, h, _ => by simp [pairsT?] at h
  | .bl _ :: ds, kvs, _, h, _ => by simp [pairsT?] at h
  | .int _ :: ds, kvs, _, h, _ => by simp [pairsT?] at h
  | .str _ :: ds, kvs, _, h, _ => by simp [pairsT?] at h
  | .cst _ :: ds, kvs, _, h, _ => by simp [pairsT?] at h
  | .fup _ :: ds, kvs, _, h, _ => by simp [pairsT?] at h
  | .loc _ :: ds, kvs, _, h, _ => by simp [pairsT?] at h
/-- the pairs as they stand in memory -/
theorem pairs_heap {pins : List (Addr × Obj)} {σ : L2.St} {H : Hp} {s : Shared} (I : Inv X pins σ H s) : ∀ {T : List Addr} {xs : List (List Key × Addr × V)}, Paired (fun (t : Addr) (x : List Key × Addr × V) => H t = some (.tup [.ref x.2.1, x.2.2]) ∧ H x.2.1 = some (.tup (x.1.map kV))) T xs →
    ∃ ys : List (List Key × Addr × Value), Paired (fun (x : List Key × Addr × V) (y : List Key × Addr × Value) => x.1 = y.1 ∧ x.2.1 = y.2.1 ∧ H x.2.1 = some (.tup (x.1.map kV)) ∧ RelV x.2.2 y.2.2) xs ys ∧
      Paired (fun (t : Addr) (y : List Key × Addr × Value) => PairAt s.heap t (.ref y.2.1) y.2.2) T ys
  | _, _, .nil => ⟨[], .nil, .nil⟩
  | _, _, .cons (a := t) (b := x) ⟨h1, h2⟩ tl => by
    obtain ⟨ys, q1, q2⟩ := pairs_heap I tl
    obtain ⟨its, rv, ht, _⟩ := I.tuple (.inl (.inl h1))
    obtain ⟨u, w, rfl, r1, r2⟩ := Vals.two rv
    cases r1
    exact ⟨(x.1, x.2.1, w) :: ys, .cons ⟨rfl, rfl, h2, r2⟩ q1, .cons (.inl ht) q2⟩
theorem refs_of {T : List Addr} {us : List Value} (h : Vals (T.map V.ref) us) : us = T.map Value.ref := by
  induction T generalizing us with
  | nil => cases h; rfl
  | cons t T ih =>
    cases h with
    | cons h t => cases h; rw [ih t]; rfl
theorem paired_get {α β : Type} {F : α → β → Prop} : ∀ {l : List α} {m : List β} {j : Nat} {y : β}, Paired F l m → m[j]? = some y → ∃ x, l[j]? = some x ∧ F x y
  | _, _, _, _, .nil, e => by simp at e
  | _, _, 0, _, .cons h _, e => by simp at e; subst e; exact ⟨_, rfl, h⟩
  | _, _, j + 1, y, .cons _ t, e => by
    obtain ⟨x, h1, h2⟩ := paired_get (j := j) (y := y) t (by simpa using e)
    exact ⟨x, by simpa using h1, h2⟩
theorem call_dictF (hc : X.calm = true) (hu : X.A.units + 64 < cLine) : CallR X (.type "dict") (fun vs H Q => ∃ (a : Addr) (o : Obj) (T : List Addr) (xs : List (List Key × Addr × V)), vs = [.ref a] ∧ H a = some (.frz o (.tup (T.map V.ref))) ∧ o.dict = none ∧
    Paired (fun (t : Addr) (x : List Key × Addr × V) => H t = some (.tup [.ref x.2.1, x.2.2]) ∧ H x.2.1 = some (.tup (x.1.map kV))) T xs ∧ (xs.map (·.1)).Nodup ∧ ∀ p, H p = none → Q (.ref p) (upd H p (.dT (xs.map fun x => (x.1, x.2.2))))) := by
  intro pins s σ H vs us Q I r h
  obtain ⟨a, o, T, xs, rfl, ha, hd, hp, hn, q⟩ := h
  obtain ⟨u, rfl, rx⟩ := vals1 r
  cases rx
  obtain ⟨ho, hz, its, rv, o', ho', hc', n, hdat⟩ := (show ObjOk X.prog X.w H s.heap a (.frz o (.tup (T.map V.ref))) from I.hok a _ ha)
  rw [ho] at ho'
  cases ho'
  obtain ⟨ys, p1, p2⟩ := pairs_heap I hp
  have hT := refs_of rv
  subst hT
  have l1 : xs.length = ys.length := Paired.length p1
  have l2 : T.length = ys.length := Paired.length p2
  have kx : xs.map (·.1) = ys.map (·.1) := by
    clear hp p2 l2 l1 hn q
    induction p1 with
    | nil => rfl
    | cons h _ ih => simp only [List.map_cons, ih, h.1]
  have hny : (ys.map (·.1)).Nodup := by rw [← kx]; exact hn
  have P := PairArg.tuple (prog := X.prog) (w := X.w) a (T.map Value.ref).toArray (fun j => T.getD j 0) (ys.map fun y => (Value.ref y.2.1, y.2.2))
  have ok : PlainSeq "tuple" s.heap a (T.map Value.ref).toArray ∧ PairItems s.heap (T.map Value.ref).toArray (fun j => T.getD j 0) (ys.map fun y => (Value.ref y.2.1, y.2.2)) := by
    refine ⟨⟨o, n, ho, hc', hd, hdat⟩, by simp [l2], fun j k v e => ?_⟩
    rw [List.getElem?_map] at e
    cases hy : ys[j]? with
    | none => rw [hy] at e; cases e
    | some y =>
      rw [hy] at e
      cases e
      obtain ⟨t, ht, hpa⟩ := paired_get p2 hy
      have hg : (fun j => T.getD j 0) j = t := by show T.getD j 0 = t; rw [List.getD_eq_getElem?_getD, ht]; rfl
      refine ⟨?_, by rw [hg]; exact hpa⟩
      rw [hg, List.getElem?_toArray, List.getElem?_map, ht]; rfl
  have kin : ∀ y ∈ ys, (tupleKind (mixKind X.prog X.w)).is s.heap y.1 y.2.1 := fun y hy => by
    obtain ⟨j, hj, e⟩ := List.mem_iff_getElem.mp hy
    obtain ⟨x, hx, h1, h2, h3, _⟩ := paired_get p1 (show ys[j]? = some y by rw [List.getElem?_eq_getElem hj, e])
    rw [← h1, ← h2]
    exact key_of I.hok h3
  have hlen : (ys.map fun y => (Value.ref y.2.1, y.2.2)).length ≤ sizeLine := by rw [List.length_map, ← l2]; rw [List.length_map] at hz; exact hz
  refine call_dict_pairsH (knd := tupleKind (mixKind X.prog X.w)) (ps := ys) P (I.ok.hd hc) (tupleKind_room_in1 (A := X.A.in1) (by show X.A.units + 1 + 1 < cLine; omega)) ok ⟨by simp, fun i key v e => ?_⟩ (fun h' hk y hy => ?_) hlen fun h' tk hd' hk => ?_
  · have e : (ys.map fun y => (Value.ref y.2.1, y.2.2))[i]? = some (key, v) := e
    rw [List.getElem?_map] at e
    cases hy : ys[i]? with
    | none => rw [hy] at e; cases e
    | some y => rw [hy] at e; cases e; exact ⟨y.1, y.2.1, rfl, rfl⟩
  · obtain ⟨oy, iy, ny, g1, g2, g3, g4⟩ := kin y hy
    exact ⟨oy, iy, ny, hk _ _ (Nat.ne_of_lt (Heap.lt_size g1)) (by simp) g1, g2, g3, g4⟩
  · rw [storedAllH_nil_of_nodup _ hny] at hd'
    have k' : ∀ b u, s.heap.get? b = some u → h'.get? b = some u := fun b u z => hk b u (by simp) z
    have hf : H s.heap.objs.size = none := I.fresh
    refine ⟨.ref s.heap.objs.size, _, I.laid (t' := tk) (o := .dT (xs.map fun x => (x.1, x.2.2))) k' (Nat.le_refl _) ?_, rfl, q _ hf⟩
    obtain ⟨od, es, ep, g1, g2, g3, g4, g5, g6⟩ := hd'
    refine ⟨by rw [List.length_map, l1, ← l2]; rw [List.length_map] at hz; exact hz, ?_, ys, ?_, od, es, ep, g1, g2, g3, g4, hny⟩
    · have := I.big
      exact beq_eq_false_iff_ne.mpr (Nat.ne_of_gt this)
    · have tup : ∀ b zs, H b = some (.tup zs) → (upd H s.heap.objs.size (.dT (xs.map fun x => (x.1, x.2.2)))) b = some (.tup zs) := fun b zs z => by rw [upd_ne (ne_of_none z hf)]; exact z
      generalize upd H s.heap.objs.size (.dT (xs.map fun x => (x.1, x.2.2))) = H2 at tup ⊢
      clear q hp p2 l2 l1 hn hny P ok kin hlen kx g4 g5 g6
      induction p1 with
      | nil => exact .nil
      | @cons x y _ _ h _ ih =>
        refine .cons ⟨h.1, ?_, h.2.2.2⟩ ih
        show H2 y.2.1 = some (.tup (x.1.map kV))
        rw [← h.2.1]; exact tup _ _ h.2.2.1
def dictT (ds : List D) : Option (List (List Key × D)) := (pairsT? ds).bind fun kvs => if (kvs.map (·.1)).Nodup then some kvs else none
@[simp] def eDictK (d : D) (S : Sto) : Res D := match d with
  | .fup ds => match dictT ds with
    | some kvs => .ok (.loc S.length) (S ++ [.dT kvs])
    | none => .bad
  | _ => .bad
@[simp] def eDictF (fa : EvE) : EvE := fun env S => (fa env S).bind fun d S1 => eDictK d S1
theorem d_dictF (hc : X.calm = true) (hu : X.A.units + 64 < cLine) (hg : Gl X "dict") (hm : X.mg "dict" = none) (ha : DE X W e fa)
    (hs : starEach [e] X.env = (false, eval e X.env) :: starEach [] X.env := by rfl) (hpl : (backTo pos (starEach [] X.env)).any (·.1) = false := by rfl) : DE X W (.Call (.Name "dict" p) [e] [] pos) (eDictF fa) :=
  d_pe (pe_callTy (call_dictF hc hu) hg hm (by decide +kernel) (pa_cons ha.pe pa_nil hs) (by decide) (by decide) hs hpl) fun s H Q ⟨r, env, S, R, z⟩ => by
    refine lift_bind (g := fun d env S1 => eDictK d S1) anti_E R z fun d S1 r1 H1 v e1 R1 rv z1 => ?_
    cases rv with
    | @fup ds vs a o h hd q =>
      simp only [eDictK] at z1
      cases hk : dictT ds with
      | none => rw [hk] at z1; exact z1.elim
      | some kvs =>
        rw [hk] at z1
        unfold dictT at hk
        cases hp : pairsT? ds with
        | none => rw [hp] at hk; cases hk
        | some kvs' =>
          rw [hp] at hk
          simp only [Option.bind_some] at hk
          split at hk
          · rename_i hn
            have hk' : kvs' = kvs := Option.some.inj hk
            subst hk'
            obtain ⟨T, xs, rfl, e2, e3⟩ := pairsT_of hp q
            have hkeys : kvs'.map (·.1) = xs.map (·.1) := by
              have : ∀ {l : List (List Key × D)} {m : List (List Key × V)}, PKV X.K r1 H1 l m → l.map (·.1) = m.map (·.1) := by
                intro l m h
                induction h with
                | nil => rfl
                | cons h _ ih => simp only [List.map_cons, ih, h.1]
              rw [this e2, List.map_map]; rfl
            refine ⟨a, o, T, xs, rfl, h, hd, e3, by rw [← hkeys]; exact hn, fun p hp' => ?_⟩
            have hm : RO X.K (r1 ++ [p]) (upd H1 p (.dT (xs.map fun x => (x.1, x.2.2)))) (.dT kvs') p :=
              ⟨_, upd_same, PKV.mono ⟨fun b us z => by rw [upd_ne (ne_of_none z hp')]; exact z, fun b o us z => by rw [upd_ne (ne_of_none z hp')]; exact z⟩ (fun n b z => by rw [List.getElem?_append_left (List.getElem?_eq_some_iff.mp z).1]; exact z) e2⟩
            obtain ⟨R2, x2⟩ := R1.st.alloc hp' hm
            exact z1 _ _ _ x2 R2 (.loc (by rw [← R1.st.len]; simp))
          · cases hk
    | _ => exact z1.elim
/-! ### sorted -/
def encD (d : D) : PyData := d.py.getD .none
open Classical in
/-- what is sorted: data of one form -/
def SortOk (ds : List D) : Prop := (∀ d ∈ ds, ∃ q, d.py = some q ∧ q.depth ≤ 20) ∧ PySem.W.AllAlike (ds.map encD) ∧ PySem.W.Sortable (ds.map encD) ∧ ds.length ≤ LN
open Classical in
noncomputable def sortD (ds : List D) : Option (List D) := if SortOk ds then some (ds.mergeSort (PySem.W.dataLe false encD)) else none
theorem sortD_some {ds ds' : List D} (h : sortD ds = some ds') : SortOk ds ∧ ds' = ds.mergeSort (PySem.W.dataLe false encD) := by
  unfold sortD at h
  split at h
  · rename_i h1; cases h; exact ⟨h1, rfl⟩
  · cases h
theorem each_of {K : PySem.W.Frag} {r : List Addr} {H : Hp} : ∀ {ds : List D} {vs : List V} {us : List Value}, RVs K r H ds vs → Vals vs us → PySem.W.EachIs (fun u d => ∃ v, RelV v u ∧ RV K r H d v) us ds
  | _, _, _, .nil, .nil => .nil
  | _, _, _, .cons h t, .cons r rt => .cons ⟨_, r, h⟩ (each_of t rt)
theorem of_each {K : PySem.W.Frag} {r : List Addr} {H : Hp} : ∀ {ds : List D} {us : List Value}, PySem.W.EachIs (fun u d => ∃ v, RelV v u ∧ RV K r H d v) us ds → ∃ vs, RVs K r H ds vs ∧ Vals vs us
  | _, _, .nil => ⟨[], .nil, .nil⟩
  | _, _, .cons ⟨v, h1, h2⟩ t => by
    obtain ⟨vs, q1, q2⟩ := of_each t
    exact ⟨v :: vs, .cons h2 q1, .cons h1 q2⟩
theorem each_imp {α β : Type} {R R' : α → β → Prop} : ∀ {l : List α} {m : List β}, PySem.W.EachIs R l m → (∀ a b, b ∈ m → R a b → R' a b) → PySem.W.EachIs R' l m
  | _, _, .nil, _ => .nil
  | _, _, .cons h t, k => .cons (k _ _ List.mem_cons_self h) (each_imp t fun a b hb => k a b (List.mem_cons_of_mem _ hb))
theorem reads_each {K : PySem.W.Frag} {pins : List (Addr × Obj)} {σ : L2.St} {H : Hp} {s : Shared} {r : List Addr} {us : List Value} {ds : List D} (I : Inv X pins σ H s) (hok : ∀ d ∈ ds, ∃ q, d.py = some q ∧ q.depth ≤ 20)
    (h : PySem.W.EachIs (fun u d => ∃ v, RelV v u ∧ RV X.K r H d v) us ds) : PySem.W.EachIs (fun u d => ∃ as, Reads s.heap u (encD d) as) us ds :=
  each_imp h fun u d hd ⟨v, h1, h2⟩ => by
    obtain ⟨q, e, _⟩ := hok d hd
    have : encD d = q := by unfold encD; rw [e]; rfl
    rw [this]
    exact Dp.reads I q v u (h2.dp e) h1
theorem sort_depth {A : Around} {ds : List D} {k : Nat} (h : ∀ d ∈ ds, ∃ q, d.py = some q ∧ q.depth ≤ 20) (hk : k ≤ 10) (hu : A.units + 40 < cLine) : ∀ d, d ∈ ds → A.units + k + (encD d).depth < cLine := fun d hd => by
  obtain ⟨q, e, hq⟩ := h d hd
  have : encD d = q := by unfold encD; rw [e]; rfl
  rw [this]; omega
theorem mergeSort_len {ds : List D} : (ds.mergeSort (PySem.W.dataLe false encD)).length = ds.length := List.length_mergeSort _
def CallLL (X : Cx) (f : Value) (g : List D → Option (List D)) : Prop := CallR X f fun xs H Q => OneL X.K xs H fun r S ds _ _ => ∃ ds', g ds = some ds' ∧ ∀ p vs, H p = none → RVs X.K r H ds' vs → Q (.ref p) (upd H p (.lst vs))
theorem c_sortL (hu : X.A.units + 64 < cLine) : CallLL X (.builtin "sorted") sortD := by
  intro pins s σ H xs us Q I rx h
  obtain ⟨r, S, a, vs, ds, rfl, R, na, ha, rv, ds', hg, q⟩ := h
  obtain ⟨⟨h1, h2, h3, h4⟩, rfl⟩ := sortD_some hg
  obtain ⟨its, rvs, hl, hz⟩ := I.list (SqL.of ha)
  rw [Vals.ref1 rx]
  have ee := each_of rv rvs
  refine PySem.W.sorted_data (R := fun u d => ∃ v, RelV v u ∧ RV X.K r H d v) (enc := encD) (bs := ds) hl.isList ee (reads_each (K := X.K) I h1 ee) h2 h3 (LN_line h4) (sort_depth h1 (by omega) (by omega)) fun out ho he => ?_
  obtain ⟨ep, he'⟩ := PyProof.Rows.sortedAll_at s.heap its out.toArray
  obtain ⟨ws, q1, q2⟩ := of_each he
  have hlen : ws.length ≤ sizeLine := by rw [← q1.length, mergeSort_len]; exact LN_line h4
  exact ⟨.ref _, _, I.laid (o := .lst ws) (t' := s.toks) (fun _ _ => PyProof.Rows.sortedAll_old) (Nat.le_succ _) ⟨hlen, out, ep, q2, he'⟩, rfl, q _ ws (I.hok.fresh (Nat.le_succ _)) q1⟩
@[simp] def lOfL (g : List D → Option (List D)) (ga : AEnv → Sto → Res (List D)) : AEnv → Sto → Res (List D) := fun env S => (ga env S).bind fun ds S1 => ofL (g ds) S1
theorem dl_callL {id : String} {g : List D → Option (List D)} (hc : CallLL X (.builtin id) g) (hg : Gl X x) (hm : X.mg x = none) (hv : bootBuiltins x = some (.builtin id)) (ha : DL X W e ga) (hn : x ≠ "__name__" := by decide) (hdb : (x == ("__debug__" : Str)) = false := by decide)
    (hs : starEach [e] X.env = (false, eval e X.env) :: starEach [] X.env := by rfl) (hpl : (backTo pos (starEach [] X.env)).any (·.1) = false := by rfl) : DL X W (.Call (.Name x p) [e] [] pos) (lOfL g ga) :=
  dl_pe (pe_callB hc hg hm hv (pa_cons ha.pe pa_nil hs) hn hdb hs hpl) fun s H Q ⟨r, env, S, R, z⟩ => by
    refine lift_map (RR := RVL X.K) (g := fun ds env S1 => ofL (g ds) S1) R z fun ds S1 r1 H1 v e1 R1 rv z1 => ?_
    obtain ⟨a, vs, rfl, _, na, ha, q⟩ := rv
    cases hg : g ds with
    | none => rw [hg] at z1; exact z1.elim
    | some ds' =>
      rw [hg] at z1
      exact ⟨r1, S1, a, vs, ds, rfl, R1.st, na, ha, q, ds', hg, fun p vs' hp rvs => new_lst z1 e1 R1.st rvs hp⟩
/-- sorted(d): the keys of a dict with tuple keys -/
def keysD (kvs : List (List Key × D)) : List D := kvs.map fun kv => .tup (kv.1.map kD)
noncomputable def gSortK (ds : List D) (S : Sto) : Option (List D) := match ds with
  | [.loc n] => match S[n]? with
    | some (.dT kvs) => sortD (keysD kvs)
    | _ => none
  | _ => none
theorem rvs_keys {K : PySem.W.Frag} {r : List Addr} {H : Hp} : ∀ {kvs : List (List Key × D)} {ws : List (List Key × V)} {xs : List (List Key × Addr × Value)}, PKV K r H kvs ws → KT H ws xs → RVs K r H (keysD kvs) (xs.map fun x => V.ref x.2.1)
  | _, _, _, .nil, .nil => .nil
  | _, _, _, .cons h t, .cons g u => by
    refine .cons ?_ (rvs_keys t u)
    have e : H _ = some (.tup _) := g.2.1
    rw [← h.1] at e
    exact .tup e (RVs.keys _)
theorem c_sortK (hc : X.calm = true) (hu : X.A.units + 64 < cLine) : CallDL X (.builtin "sorted") gSortK := by
  intro pins s σ H xs us Q I rx h
  obtain ⟨r, S, ds, ds', R, rv, hg, q⟩ := h
  unfold gSortK at hg
  split at hg
  · rename_i n
    obtain ⟨v, rfl, hv⟩ := rv.one
    cases hv with
    | @loc _ a h1 =>
      split at hg
      · rename_i kvs e2
        obtain ⟨b, e3, ws, e4, q4⟩ := R.at_ n _ e2
        rw [h1] at e3; cases e3
        obtain ⟨⟨g1, g2, g3, g4⟩, rfl⟩ := sortD_some hg
        rw [Vals.ref1 rx]
        obtain ⟨z, hs, ks, pr, o, es, ep, ho, hx, hdt, he, hn⟩ := (show ObjOk X.prog X.w H s.heap a (.dT ws) from I.hok a _ e4)
        have l1 : es.size = ks.length := by
          have := congrArg List.length he
          rw [List.length_map, Array.length_toList] at this
          exact this
        have l2 : ws.length = ks.length := Paired.length pr
        refine Calls.call_function_entry PyProof.Rows.kind_sorted PyProof.Rows.plain_sorted PyProof.Rows.entry_sorted (PyProof.Rows.args_sorted1 _) ?_
        unfold Builtin.«sorted»
        refine wpAny_bind (m := checkCount "sorted" 1 1 _) (wpAny_pure ?_)
        refine wpAny_bind (PySem.W.kdu_collect (A := X.A.in1) (kdl_raw hs hx hdt) (I.ok.hd hc) ho (by omega) fun h' tk acc hk it => ?_)
        have ea : acc.toList = (ks.map fun x => x.2.1).map Value.ref := by
          have hl : acc.toList.length = ks.length := by rw [Array.length_toList, it.1]; exact l1
          apply List.ext_getElem?
          intro j
          rw [List.getElem?_map, List.getElem?_map]
          cases hj : acc.toList[j]? with
          | none =>
            have h1 := List.getElem?_eq_none_iff.mp hj
            rw [List.getElem?_eq_none (by omega)]
            rfl
          | some v =>
            obtain ⟨en, hen, hv⟩ := it.2 j v (by rw [← Array.getElem?_toList]; exact hj)
            have qe := entry_at he j
            rw [hen] at qe
            cases hb : ks[j]? with
            | none => rw [hb] at qe; exact nomatch (show some en = none from qe)
            | some b =>
              rw [hb] at qe
              have e2 : en = entryOfKey (tupleKind (mixKind X.prog X.w)) b := Option.some.inj qe
              rw [hv, e2]
              rfl
        have rvk := rvs_keys q4 pr
        have vk : Vals (ks.map fun x => V.ref x.2.1) acc.toList := by
          rw [ea, List.map_map]
          clear ea it acc rvk pr he l1 l2
          induction ks with
          | nil => exact .nil
          | cons k ks ih => exact .cons rfl (ih (by simp only [List.map_cons, List.nodup_cons] at hn; exact hn.2))
        have lk : acc.toList.length = (keysD kvs).length := by rw [← vk.length, ← rvk.length]
        have I1 : Inv X pins σ H { s with heap := h', toks := tk } := I.kept hk
        refine wpAny_bind (wpAny_newList ?_ (by rw [lk]; exact LN_line g4))
        have hoL : (h'.push (seqObj "list" acc.toList.toArray 0)).get? h'.objs.size = some (seqObj "list" acc.toList.toArray 0) := Heap.get?_push_size _ rfl
        have I2 : Inv X pins σ H { s with heap := h'.push (seqObj "list" acc.toList.toArray 0), toks := tk } := I1.kept (t' := tk) fun b u z => Heap.get?_push_of_some _ z
        show wpAny _ _ _ _ _ { s with heap := h'.push (seqObj "list" acc.toList.toArray 0), toks := tk }
        have ee := each_of rvk vk
        have er : PySem.W.EachIs (fun u d => ∃ as, Reads h' u (encD d) as) acc.toList (keysD kvs) := reads_each (K := X.K) I1 g1 ee
        have er2 : PySem.W.EachIs (fun u d => ∃ as, Reads (h'.push (seqObj "list" acc.toList.toArray 0)) u (encD d) as ∧ h'.objs.size ∉ as) acc.toList (keysD kvs) := each_imp er fun u d _ ⟨as, hr⟩ =>
          ⟨as, PyProof.Rows.Reads.keeps (fun b o z => Heap.get?_push_of_some _ z) hr, fun z => by
            obtain ⟨ob, hob⟩ := PyProof.On.reads_mem_get hr _ z
            exact absurd (Heap.lt_size hob) (Nat.lt_irrefl _)⟩
        refine wpAny_bind (wpAny_holding (PySem.W.list_sort_data (A := X.A.in1) (s := { s with heap := h'.push (seqObj "list" acc.toList.toArray 0), toks := tk }) (R := fun u d => ∃ v, RelV v u ∧ RV X.K r H d v) (enc := encD) hoL ee er2 g2 g3 (LN_line g4) (sort_depth (A := X.A.in1) (k := 1) g1 (by omega) (by show X.A.units + 1 + 40 < cLine; omega)) fun out ho2 he2 => ?_))
        obtain ⟨e', he'⟩ := PyProof.Rows.sortedHeap_at (vs := acc.toList) (out := out.toArray) hoL
        obtain ⟨zs, q1, q2⟩ := of_each he2
        have hlen : zs.length ≤ sizeLine := by rw [← q1.length, mergeSort_len]; exact LN_line g4
        have kept : ∀ b u, h'.get? b = some u → (PyProof.Rows.sortedHeap (h'.push (seqObj "list" acc.toList.toArray 0)) h'.objs.size acc.toList out.toArray).get? b = some u := fun b u z1 => by
          have z2 : b < h'.objs.size := Heap.lt_size z1
          rw [PyProof.Rows.sortedHeap_old (Nat.ne_of_lt z2) (by rw [size_push']; exact Nat.lt_succ_of_lt z2)]
          exact Heap.get?_push_of_some _ z1
        have hfree : H h'.objs.size = none := I1.hok.fresh (Nat.le_refl _)
        refine wpAny_pure ⟨_, rfl, .ref h'.objs.size, _, I1.laid (o := .lst zs) (t' := tk) kept (Nat.le_refl _) ⟨hlen, out, e', q2, he'⟩, rfl, ?_⟩
        obtain ⟨R2, x2⟩ := R.new (o := .lst zs) hfree
        exact q _ _ zs x2 R2 hfree (R.nmem hfree) upd_same (RVs.ext q1 R x2)
      · cases hg
  · cases hg
end
end DV
/-! DV7: calls of defs, statements, targets, loops, comprehensions, the rule for a def. -/
namespace DV
open PySem PySem.Spec PyProof.Rows L2

section
variable {X : Cx} {W : WX} {a b c e o : Expr} {es : List Expr} {fa fb fc fo : EvE} {ga gb : AEnv → Sto → Res (List D)} {pos p p2 : Pos} {x : Str}
/-! ### calls of defs -/
/-- the promise of a def: it does what F does -/
def spD (K : PySem.W.Frag) (n : Nat) (F : List D → Sto → Res D) : Sp := fun vs H Q E => vs.length = n ∧ ∃ r S ds, RSt K r H S ∧ RVs K r H ds vs ∧ match F ds S with
  | .ok d S' => ∀ r' H' v, Ext r H r' H' → RSt K r' H' S' → RV K r' H' d v → Q v H'
  | .exc c S' => ∀ r' H' cls dx, Ext r H r' H' → RSt K r' H' S' → RX K r' H' c cls dx → E cls dx H'
  | .bad => False
@[simp] def eCall (n : Nat) (F : List D → Sto → Res D) (ga : AEnv → Sto → Res (List D)) : EvE := fun env S => (ga env S).bind fun ds S1 => if ds.length = n then F ds S1 else .bad
theorem d_call {k : Nat} {f : Addr} {fd : FuncData} {ps : List Str} {F : List D → Sto → Res D} (G : FnOk X.prog X.w X.K X.mg X.base (L2.CX X.prog X.w) k f fd ps (spD X.K ps.length F)) (hr : Room k X.A) (tk : Takes X W) (hg : Gl X x) (hm : X.mg x = some (.ref f))
    (hk : PySem.W.keepIn X.K (.ref f) = true) (hb : Binds X.K fd ps []) (ha : DA X W (e :: es) ga) (hdb : (x == ("__debug__" : Str)) = false := by decide) (he : starEach (e :: es) X.env = (false, eval e X.env) :: starEach es X.env := by rfl)
    (hpl : (backTo pos (starEach es X.env)).any (·.1) = false := by rfl) : DE X W (.Call (.Name x p) (e :: es) [] pos) (eCall ps.length F ga) :=
  d_pe (pe_callS G hr hg hm hk hb (passAt tk) ha.pa hdb he hpl) fun s H Q ⟨r, env, S, R, z⟩ => by
    refine lift_bind (g := fun ds env S1 => (if ds.length = ps.length then F ds S1 else Res.bad : Res D)) anti_E R z fun ds S1 r1 H1 vs e1 R1 rv z1 => ?_
    by_cases hl : ds.length = ps.length
    · rw [if_pos hl] at z1
      refine ⟨by rw [← rv.length]; exact hl, r1, S1, ds, R1.st, rv, ?_⟩
      cases hF : F ds S1 with
      | ok d S' => rw [hF] at z1; exact fun r' H' v x' R' rv' => z1 r' H' v x' R' rv'
      | exc c S' => rw [hF] at z1; exact fun r' H' cls dx x' R' rx' => z1 r' H' cls dx x' R' rx'
      | bad => rw [hF] at z1; exact z1
    · rw [if_neg hl] at z1; exact z1.elim
/-! ### statements -/
variable {st : Stmt} {sts : List Stmt} {f g : EvS}
theorem s_ps {st : Stmt} {f : EvS} {tt : TS} (h : PS X st tt) (k : ∀ E s H, liftS X.K W f E s H → tt E s H) : DS X W st f := ⟨PS.imp h k⟩
@[simp] def sNil : EvS := fun env S => .nx env S
@[simp] def sThen (x : SRes) (k : AEnv → Sto → SRes) : SRes := match x with
  | .nx env S => k env S
  | .ret d S => .ret d S
  | .brk env S => .brk env S
  | .ct env S => .ct env S
  | .exc c env S => .exc c env S
  | .bad => .bad
@[simp] def sSeq (f g : EvS) : EvS := fun env S => sThen (f env S) g
theorem dss_nil : DSs X W [] sNil := ⟨PSs.imp pss_nil fun E s H ⟨r, env, S, R, z⟩ => z r H s (Ext.refl r H) R⟩
theorem dss_cons (h1 : DS X W st f) (h2 : DSs X W sts g) : DSs X W (st :: sts) (sSeq f g) := ⟨PSs.imp (pss_cons h1.ps h2.ps) fun E s H ⟨r, env, S, R, z⟩ => by
  refine ⟨r, env, S, R, ?_⟩
  simp only [sSeq] at z
  cases hf : f env S with
  | nx env1 S1 => rw [hf] at z; exact fun r1 H1 s1 e1 R1 => ⟨r1, env1, S1, R1, sresP.ext z e1⟩
  | ret d S1 => rw [hf] at z; exact z
  | brk env1 S1 => rw [hf] at z; exact z
  | ct env1 S1 => rw [hf] at z; exact z
  | exc c env1 S1 => rw [hf] at z; exact z
  | bad => rw [hf] at z; exact z⟩
theorem dss_one (h1 : DS X W st f) : DSs X W [st] f := ⟨pss_one h1.ps⟩
theorem ds_pass : DS X W (.Pass pos) sNil := s_ps ps_pass fun E s H ⟨r, env, S, R, z⟩ => z r H s (Ext.refl r H) R
@[simp] def sBrk : EvS := fun env S => .brk env S
@[simp] def sCt : EvS := fun env S => .ct env S
theorem ds_break : DS X W (.Break pos) sBrk := s_ps ps_break fun E s H ⟨r, env, S, R, z⟩ => z r H s (Ext.refl r H) R
theorem ds_continue : DS X W (.Continue pos) sCt := s_ps ps_continue fun E s H ⟨r, env, S, R, z⟩ => z r H s (Ext.refl r H) R
/-- a statement that is never reached -/
@[simp] def sNever : EvS := fun _ _ => .bad
theorem ds_never : DS X W st sNever := s_ps ps_never fun E s H ⟨r, env, S, R, z⟩ => z
@[simp] def sSet (i : Nat) (f : EvE) : EvS := fun env S => sbind (f env S) env fun d S1 => .nx (env.set i (some d)) S1
theorem ds_set {i : Nat} {y : Str} {pos' : Pos} (hN : X.N.Nodup) (ha : DE X W e fa) (hi : X.N[i]? = some y := by rfl) (hx : Loc X.env.scope y := by first | exact .inl rfl | exact .inr rfl)
    (hs : swapsWith e (some (.Name y pos')) pos.line X.env = pure false := by rfl) (hf : X.fn y = true ∨ X.env.scope.names.lookup y = some .local := by first | exact .inl rfl | exact .inr rfl) : DS X W (.Assign [.Name y pos'] e pos) (sSet i fa) :=
  s_ps (ps_set hN hi hx ha.pe hs hf) fun E s H ⟨r, env, S, R, z⟩ => by
    refine slift_bind (g := fun d S1 => SRes.nx (env.set i (some d)) S1) R z fun d S1 r1 H1 v e1 R1 rv z1 => ?_
    exact z1 r1 H1 _ (Ext.refl r1 H1) (R1.set rv)
@[simp] def sExpr (f : EvE) : EvS := fun env S => sbind (f env S) env fun _ S1 => .nx env S1
theorem ds_expr (ha : DE X W e fa) (hs : swapsWith e none pos.line X.env = pure false := by rfl) : DS X W (.Expr e pos) (sExpr fa) :=
  s_ps (ps_expr ha.pe hs) fun E s H ⟨r, env, S, R, z⟩ => by
    refine slift_bind (g := fun d S1 => SRes.nx env S1) R z fun d S1 r1 H1 v e1 R1 rv z1 => ?_
    exact z1 r1 H1 _ (Ext.refl r1 H1) R1
@[simp] def sRet (f : EvE) : EvS := fun env S => sbind (f env S) env fun d S1 => .ret d S1
theorem ds_ret (ha : DE X W e fa) : DS X W (.Return (some e) pos) (sRet fa) :=
  s_ps (ps_ret ha.pe) fun E s H ⟨r, env, S, R, z⟩ => by
    refine slift_bind (g := fun d S1 => SRes.ret d S1) R z fun d S1 r1 H1 v e1 R1 rv z1 => ?_
    exact z1 r1 H1 _ (Ext.refl r1 H1) R1.st rv
@[simp] def sRetN : EvS := fun _ S => .ret .non S
theorem ds_retN : DS X W (.Return none pos) sRetN := s_ps ps_retN fun E s H ⟨r, env, S, R, z⟩ => z r H _ (Ext.refl r H) R.st .non
@[simp] def sIf (p : AEnv → Sto → Res Bool) (f g : EvS) : EvS := fun env S => sbind (p env S) env fun b S1 => if b then f env S1 else g env S1
theorem ds_if {q : AEnv → Sto → Res Bool} {xs ys : List Stmt} (hc : DT X W c q) (ha : DSs X W xs f) (hb : DSs X W ys g) : DS X W (.If c xs ys pos) (sIf q f g) :=
  s_ps (ps_if hc.pt ha.ps hb.ps) fun E s H ⟨r, env, S, R, z⟩ => by
    refine slift_bind (RR := RVT) (g := fun (b : Bool) S1 => (if b then f env S1 else g env S1 : SRes)) R z fun d S1 r1 H1 v e1 R1 rv z1 => ?_
    cases rv
    cases d with
    | true => rw [if_pos rfl]; exact ⟨r1, env, S1, R1, z1⟩
    | false => rw [if_neg Bool.false_ne_true]; exact ⟨r1, env, S1, R1, z1⟩
/-! ### targets -/
abbrev GvT := D → AEnv → Sto → Option (AEnv × Sto)
def SameBut (vs : List Nat) (s s' : L2.St) : Prop := s'.length = s.length ∧ ∀ i, i ∉ vs → s'[i]? = s[i]?
theorem SameBut.refl (vs : List Nat) (s : L2.St) : SameBut vs s s := ⟨rfl, fun _ _ => rfl⟩
theorem SameBut.trans {vs : List Nat} {s s1 s2 : L2.St} (h : SameBut vs s s1) (h' : SameBut vs s1 s2) : SameBut vs s s2 := ⟨h'.1.trans h.1, fun i hi => (h'.2 i hi).trans (h.2 i hi)⟩
theorem SameBut.mono {vs us : List Nat} {s s1 : L2.St} (h : SameBut vs s s1) (k : ∀ i ∈ vs, i ∈ us) : SameBut us s s1 := ⟨h.1, fun i hi => h.2 i fun z => hi (k i z)⟩
theorem wipe_in {s : L2.St} : ∀ {vs : List Nat} {i : Nat}, i ∈ vs → i < s.length → (wipe s vs)[i]? = some none
  | v :: vs, i, h, hl => by
    unfold wipe
    by_cases hv : v = i
    · subst hv; rw [List.getElem?_set_self (by rw [wipe_length]; exact hl)]
    · rw [List.getElem?_set_ne hv]
      exact wipe_in ((List.mem_cons.mp h).resolve_left fun z => hv z.symm) hl
theorem SameBut.wipe {vs : List Nat} {s s' : L2.St} (h : SameBut vs s s') : L2.wipe s' vs = L2.wipe s vs := by
  apply List.ext_getElem?
  intro i
  by_cases hi : i ∈ vs
  · by_cases hl : i < s.length
    · rw [wipe_in hi hl, wipe_in hi (by rw [h.1]; exact hl)]
    · rw [List.getElem?_eq_none (by rw [wipe_length, h.1]; omega), List.getElem?_eq_none (by rw [wipe_length]; omega)]
  · rw [wipe_out hi, wipe_out hi]; exact h.2 i hi
def liftG (K : PySem.W.Frag) (vs : List Nat) (g : GvT) : TG := fun v s H Q => ∃ r env S d, RA K r H s env S ∧ RV K r H d v ∧ match g d env S with
  | some q => ∀ r' H' s', Ext r H r' H' → RA K r' H' s' q.1 q.2 → SameBut vs s s' → Q s' H'
  | none => False
structure DG (X : Cx) (t : Expr) (vs : List Nat) (g : GvT) : Prop where
  pg : PG X t (liftG X.K vs g)
theorem PG.imp {t : Expr} {q q' : TG} (h : PG X t q) (k : ∀ v s H Q, q' v s H Q → q v s H Q) : PG X t q' := ⟨fun pins s σ H v u Q I r z => h.run pins s σ H v u Q I r (k _ _ _ _ z)⟩
theorem PGs.imp {t : List Expr} {q q' : TGs} (h : PGs X t q) (k : ∀ v s H Q, q' v s H Q → q v s H Q) : PGs X t q' := ⟨fun pins s σ H v u Q I r z => h.run pins s σ H v u Q I r (k _ _ _ _ z)⟩
@[simp] def gN (i : Nat) : GvT := fun d env S => some (env.set i (some d), S)
theorem dg_name {i : Nat} {y : Str} (hN : X.N.Nodup) (hi : X.N[i]? = some y := by rfl) (hx : Loc X.env.scope y := by first | exact .inl rfl | exact .inr rfl) (hf : X.fn y = true ∨ X.env.scope.names.lookup y = some .local := by first | exact .inl rfl | exact .inr rfl) : DG X (.Name y pos) [i] (gN i) :=
  ⟨PG.imp (pg_name hN hi hx hf) fun v s H Q ⟨r, env, S, d, R, rv, z⟩ => z r H _ (Ext.refl r H) (R.set rv) ⟨by simp, fun j hj => List.getElem?_set_ne (fun e => hj (by simp [e]))⟩⟩
/-- several targets -/
abbrev GvTs := List D → AEnv → Sto → Option (AEnv × Sto)
@[simp] def gNil' : GvTs := fun ds env S => match ds with
  | [] => some (env, S)
  | _ => none
@[simp] def gCons' (g : GvT) (h : GvTs) : GvTs := fun ds env S => match ds with
  | d :: ds => (g d env S).bind fun q => h ds q.1 q.2
  | [] => none
structure DGs (X : Cx) (t : List Expr) (vs : List Nat) (g : GvTs) : Prop where
  pgs : PGs X t (fun ws s H Q => ∃ r env S ds, RA X.K r H s env S ∧ RVs X.K r H ds ws ∧ match g ds env S with
    | some q => ∀ r' H' s', Ext r H r' H' → RA X.K r' H' s' q.1 q.2 → SameBut vs s s' → Q s' H'
    | none => False)
theorem dgs_nil : DGs X [] [] gNil' := ⟨PGs.imp pgs_nil fun ws s H Q ⟨r, env, S, ds, R, rv, z⟩ => by
  cases rv with
  | nil => exact ⟨rfl, z r H s (Ext.refl r H) R (SameBut.refl _ _)⟩
  | cons _ _ => exact z.elim⟩
theorem dgs_cons {t : Expr} {ts : List Expr} {vs us : List Nat} {g : GvT} {h : GvTs} (h1 : DG X t vs g) (h2 : DGs X ts us h)
    (hs : (assignEach (t :: ts) X.env).map (·.2) = assign t X.env :: (assignEach ts X.env).map (·.2) := by rfl) : DGs X (t :: ts) (vs ++ us) (gCons' g h) :=
  ⟨PGs.imp (pgs_cons h1.pg h2.pgs hs) fun ws s H Q ⟨r, env, S, ds, R, rv, z⟩ => by
    cases rv with
    | nil => exact z.elim
    | @cons d v ds ws rv rvs =>
      refine ⟨v, ws, rfl, r, env, S, d, R, rv, ?_⟩
      simp only [gCons'] at z
      cases hg : g d env S with
      | none => rw [hg] at z; exact z.elim
      | some q =>
        rw [hg] at z
        intro r1 H1 s1 e1 R1 sb
        refine ⟨r1, q.1, q.2, ds, R1, RVs.ext rvs R.st e1, ?_⟩
        simp only [Option.bind_some] at z
        cases hh : h ds q.1 q.2 with
        | none => rw [hh] at z; exact z.elim
        | some q2 =>
          rw [hh] at z
          exact fun r2 H2 s2 e2 R2 sb2 => z r2 H2 s2 (e1.trans e2) R2 ((sb.mono fun i hi => List.mem_append_left _ hi).trans (sb2.mono fun i hi => List.mem_append_right _ hi))⟩
@[simp] def gTup' (n : Nat) (h : GvTs) : GvT := fun d env S => match d.seq? with
  | some ds => if ds.length = n then h ds env S else none
  | none => none
theorem dg_tup {ts : List Expr} {k n : Nat} {vs : List Nat} {h : GvTs} (hc : X.calm = true) (hg : DGs X ts vs h) (hn : (assignEach ts X.env).length = n := by rfl) (hst : (assignEach ts X.env).findIdx? (·.1) = none := by rfl) : DG X (.Tuple ts k pos) vs (gTup' n h) :=
  ⟨PG.imp (pg_tup hc hg.pgs hn hst) fun v s H Q ⟨r, env, S, d, R, rv, z⟩ => by
    simp only [gTup'] at z
    split at z
    · rename_i q hq
      split at hq
      · rename_i ds hd
        split at hq
        · rename_i hl
          obtain ⟨a, us, rfl, h1, h2⟩ := rv.seq hd
          refine ⟨a, us, rfl, h1, by rw [← h2.length]; exact hl, r, env, S, ds, R, h2, ?_⟩
          rw [hq]
          exact z
        · cases hq
      · cases hq
    · exact z.elim⟩
/-- target = value -/
@[simp] def sNx (o : Option (AEnv × Sto)) : SRes := match o with
  | some q => .nx q.1 q.2
  | none => .bad
@[simp] def sAsg (f : EvE) (g : GvT) : EvS := fun env S => sbind (f env S) env fun d S1 => sNx (g d env S1)
theorem ds_asg {t : Expr} {vs : List Nat} {g : GvT} (ha : DE X W e fa) (hg : DG X t vs g) (hs : swapsWithSole [t] e pos.line X.env = pure false := by rfl) (hw : swappedStores [t] e X.env = pure none := by rfl)
    (h1 : (assignEach [t] X.env).map (·.2) = [assign t X.env] := by rfl) : DS X W (.Assign [t] e pos) (sAsg fa g) :=
  s_ps (ps_asg ha.pe hg.pg hs hw h1) fun E s H ⟨r, env, S, R, z⟩ => by
    refine slift_bind (g := fun d S1 => sNx (g d env S1)) R z fun d S1 r1 H1 v e1 R1 rv z1 => ?_
    refine ⟨r1, env, S1, d, R1, rv, ?_⟩
    cases hq : g d env S1 with
    | none => rw [hq] at z1; exact z1.elim
    | some q => rw [hq] at z1; exact fun r2 H2 s2 e2 R2 _ => z1 r2 H2 s2 e2 R2
/-- a, b = x, y -/
@[simp] def sParK (i j : Nat) (ds : List D) (env : AEnv) (S : Sto) : SRes := match ds with
  | [d, d'] => .nx ((env.set i (some d)).set j (some d')) S
  | _ => .bad
@[simp] def sPar (i j : Nat) (ga : AEnv → Sto → Res (List D)) : EvS := fun env S => sbind (ga env S) env fun ds S1 => sParK i j ds env S1
theorem ds_par {i j : Nat} {y z : Str} {px py pt : Pos} {kt k2 pt2} (hc : X.calm = true) (hN : X.N.Nodup) (ha : DA X W [a, b] ga) (hi : X.N[i]? = some y := by rfl) (hj : X.N[j]? = some z := by rfl) (hij : i ≠ j := by decide)
    (hx : X.env.scope.names.lookup y = some .local := by rfl) (hy : X.env.scope.names.lookup z = some .local := by rfl)
    (hw : swappedStores [.Tuple [.Name y px, .Name z py] kt pt] (.Tuple [a, b] k2 pt2) X.env = pure (some [y, z]) := by rfl)
    (hs : swapsWithSole [.Tuple [.Name y px, .Name z py] kt pt] (.Tuple [a, b] k2 pt2) pos.line X.env = pure false := by rfl) :
    DS X W (.Assign [.Tuple [.Name y px, .Name z py] kt pt] (.Tuple [a, b] k2 pt2) pos) (sPar i j ga) :=
  s_ps (ps_par hc hN hi hj hij hx hy ha.pa hw hs) fun E s H ⟨r, env, S, R, z⟩ => by
    refine slift_bind (RR := RVA X.K) (g := fun ds S1 => sParK i j ds env S1) R z fun ds S1 r1 H1 vs e1 R1 rv z1 => ?_
    cases rv with
    | nil => exact z1.elim
    | cons h t =>
      cases t with
      | nil => exact z1.elim
      | cons h2 t2 =>
        cases t2 with
        | cons _ _ => exact z1.elim
        | nil => exact ⟨_, _, rfl, z1 r1 H1 _ (Ext.refl r1 H1) ((R1.set h).set h2)⟩
/-- o[i] = e: a list -/
def setLD (o i v : D) (S : Sto) : Option Sto := match i, mutL o S with
  | .int k, some (n, xs) => (ixN xs.length k).map fun j => S.set n (.lst (xs.set j v))
  | _, _ => none
@[simp] def sPut (w : D → D → D → Sto → Option Sto) (fo fi f : EvE) : EvS := fun env S => sbind (f env S) env fun v S1 => sbind (fo env S1) env fun o S2 => sbind (fi env S2) env fun i S3 => match w o i v S3 with
  | some S' => .nx env S'
  | none => .bad
@[simp] def sNxS (env : AEnv) (o : Option Sto) : SRes := match o with
  | some S => .nx env S
  | none => .bad
@[simp] def sPut' (w : D → D → D → Sto → Option Sto) (fo fi f : EvE) : EvS := fun env S => sbind (f env S) env fun v S1 => sbind (fo env S1) env fun o S2 => sbind (fi env S2) env fun i S3 => sNxS env (w o i v S3)
theorem put_lift {w : D → D → D → Sto → Option Sto} {fi : EvE} {E : Ends} {s : L2.St} {H : Hp} {P : V → V → V → Hp → Prop} (h : liftS X.K W (sPut' w fo fi fa) E s H)
    (k : ∀ r S d o i xv xo xi H3 S' env, RA X.K r H3 s env S → RV X.K r H3 d xv → RV X.K r H3 o xo → RV X.K r H3 i xi → w o i d S = some S' → (∀ H' , Ext r H3 r H' → RSt X.K r H' S' → E.nx s H') → P xv xo xi H3) :
    liftE X.K W fa s H fun xv H1 => liftE X.K W fo s H1 fun xo H2 => liftE X.K W fi s H2 fun xi H3 => P xv xo xi H3 := by
  obtain ⟨r, env, S, R, z⟩ := h
  refine slift_bind (g := fun v S1 => sbind (fo env S1) env fun o S2 => sbind (fi env S2) env fun i S3 => sNxS env (w o i v S3)) R z fun v S1 r1 H1 xv e1 R1 rv z1 => ?_
  refine slift_bind (g := fun o S2 => sbind (fi env S2) env fun i S3 => sNxS env (w o i v S3)) R1 z1 fun o S2 r2 H2 xo e2 R2 ro z2 => ?_
  refine slift_bind (g := fun i S3 => sNxS env (w o i v S3)) R2 z2 fun i S3 r3 H3 xi e3 R3 ri z3 => ?_
  cases hw : w o i v S3 with
  | none => rw [hw] at z3; exact z3.elim
  | some S' =>
    rw [hw] at z3
    exact k r3 S3 v o i xv xo xi H3 S' env R3 (RV.ext (RV.ext rv R1.st e2) R2.st e3) (RV.ext ro R2.st e3) ri hw fun H' x' R' => z3 r3 H' s x' (R3.ext x' R')
theorem ds_putL {i : Expr} {fi : EvE} {pos' : Pos} (ho : DE X W o fo) (hi : DE X W i fi) (ha : DE X W e fa) (hs : swapsWithSole [.Subscript o i pos'] e pos.line X.env = pure false := by rfl) (hw : swappedStores [.Subscript o i pos'] e X.env = pure none := by rfl)
    (h1 : (assignEach [.Subscript o i pos'] X.env).map (·.2) = [assign (.Subscript o i pos') X.env] := by rfl)
    (hA : ∀ v, assign (.Subscript o i pos') X.env v = (do
      let ov ← holding [v] (eval o X.env)
      let iv ← holding [v, ov] (eval i X.env)
      standAt pos'
      holding [v, ov, iv] (setItem ov iv v)
      release [v, ov, iv] []) := by intro _; rfl) : DS X W (.Assign [.Subscript o i pos'] e pos) (sPut' setLD fo fi fa) :=
  s_ps (ps_asg ha.pe (pg_sub ho.pe hi.pe set_list hA) hs hw h1) fun E s H h => put_lift h fun r S d o i xv xo xi H3 S' env R rv ro ri hw' k => by
    unfold setLD at hw'
    split at hw'
    · rename_i kk n xs hm
      obtain ⟨a, vs, rfl, g1, g2, g3, g4⟩ := mutL_of R.st ro hm
      cases ri
      cases hx : ixN xs.length kk with
      | none => rw [hx] at hw'; cases hw'
      | some j =>
        rw [hx] at hw'; cases hw'
        obtain ⟨R2, x2⟩ := g4 (xs.set j d) (vs.set j xv) (RVs.set rv j g3)
        exact ⟨a, vs, kk, j, rfl, rfl, g2, by rw [← g3.length]; exact hx, k _ x2 R2⟩
    · cases hw'
theorem ds_putD {i : Expr} {fi : EvE} {pos' : Pos} (hu : X.A.units + 1 < cLine) (ho : DE X W o fo) (hi : DE X W i fi) (ha : DE X W e fa) (hs : swapsWith e (some (.Subscript o i pos')) pos.line X.env = pure false := by rfl) :
    DS X W (.Assign [.Subscript o i pos'] e pos) (sPut' dPutD fo fi fa) :=
  s_ps (ps_dput hu ho.pe hi.pe ha.pe hs) fun E s H h => put_lift h fun r S d o i xv xo xi H3 S' env R rv ro ri hw' k => by
    obtain ⟨a, H', rfl, g1, g2, g3⟩ := dput_of R.st ro ri rv hw'
    exact ⟨a, H', rfl, g1, k H' g3 g2⟩
/-! ### while -/
/-- the loop with so many turns at most -/
def whileD (q : AEnv → Sto → Res Bool) (f : EvS) : Nat → AEnv → Sto → SRes
  | 0, _, _ => .bad
  | n + 1, env, S => sbind (q env S) env fun b S1 => if b then match f env S1 with
      | .nx env2 S2 => whileD q f n env2 S2
      | .ct env2 S2 => whileD q f n env2 S2
      | .brk env2 S2 => .nx env2 S2
      | .ret d S2 => .ret d S2
      | .exc c env2 S2 => .exc c env2 S2
      | .bad => .bad
    else .nx env S1
@[simp] def sWhile (fuel : AEnv → Sto → Nat) (q : AEnv → Sto → Res Bool) (f : EvS) : EvS := fun env S => whileD q f (fuel env S) env S
theorem ds_while {q : AEnv → Sto → Res Bool} {fuel : AEnv → Sto → Nat} (hp : PassesOwn (model X.prog X.w) X.A X.env X.xe) (hc : DT X W c q) (hb : DSs X W sts f) : DS X W (.While c sts [] pos) (sWhile fuel q f) :=
  s_ps (ps_while hp hc.pt hb.ps) fun E s H ⟨r, env, S, R, z⟩ => by
    refine ⟨fun m s H => ∃ r env S, RA X.K r H s env S ∧ sresP X.K W r H (whileD q f m env S) E, ⟨_, r, env, S, R, z⟩, ?_⟩
    rintro m s H ⟨r, env, S, R, z⟩
    cases m with
    | zero => exact z.elim
    | succ m =>
      refine slift_bind (RR := RVT) (g := fun (b : Bool) S1 => (if b then match f env S1 with
      | .nx env2 S2 => whileD q f m env2 S2
      | .ct env2 S2 => whileD q f m env2 S2
      | .brk env2 S2 => .nx env2 S2
      | .ret d S2 => .ret d S2
      | .exc c env2 S2 => .exc c env2 S2
      | .bad => .bad
    else .nx env S1 : SRes)) R z fun d S1 r1 H1 v e1 R1 rv z1 => ?_
      cases rv
      cases d with
      | false => rw [if_neg Bool.false_ne_true]; exact z1 r1 H1 s (Ext.refl r1 H1) R1
      | true =>
        rw [if_pos rfl]
        rw [if_pos rfl] at z1
        refine ⟨fun s' H' => ∃ r env S, RA X.K r H' s' env S ∧ sresP X.K W r H' (whileD q f m env S) E, fun s' H' h => ⟨m, Nat.lt_succ_self m, h⟩, r1, env, S1, R1, ?_⟩
        cases hf : f env S1 with
        | nx env2 S2 => rw [hf] at z1; exact fun r2 H2 s2 e2 R2 => ⟨r2, env2, S2, R2, sresP.ext z1 e2⟩
        | ct env2 S2 => rw [hf] at z1; exact fun r2 H2 s2 e2 R2 => ⟨r2, env2, S2, R2, sresP.ext z1 e2⟩
        | brk env2 S2 => rw [hf] at z1; exact z1
        | ret d S2 => rw [hf] at z1; exact z1
        | exc c env2 S2 => rw [hf] at z1; exact z1
        | bad => rw [hf] at z1; exact z1
/-! ### what is walked -/
/-- the turns give these values, at every later heap -/
def Yields (K : PySem.W.Frag) (J : It) (ds : List D) (r0 : List Addr) (H0 : Hp) : Prop := ∀ r H, Ext r0 H0 r H → ∀ i,
  (∀ d, ds[i]? = some d → J.go i H ∧ ∀ v H', J.yld i H v H' → Ext r H r H' ∧ (∀ S, RSt K r H S → RSt K r H' S ∧ RV K r H' d v)) ∧ (ds.length ≤ i → J.stop i H)
def liftI (K : PySem.W.Frag) (W : WX) (it : AEnv → Sto → Res (List D)) : TI := fun t H R => ∃ r env S, RA K r H t env S ∧ match it env S with
  | .ok ds S' => ∀ r' H' J, Ext r H r' H' → RSt K r' H' S' → Yields K J ds r' H' → R J H'
  | .exc c S' => ∀ r' H' cls dx, Ext r H r' H' → RSt K r' H' S' → RX K r' H' c cls dx → W cls dx t H'
  | .bad => False
structure DI (X : Cx) (W : WX) (tg iter : Expr) (it : AEnv → Sto → Res (List D)) : Prop where
  pi : PI X tg iter (liftI X.K W it)
theorem PI.imp {tg iter : Expr} {q q' : TI} (h : PI X tg iter q) (k : ∀ s H R, q' s H R → q s H R) : PI X tg iter q' := ⟨fun pins s σ H R I z => h.run pins s σ H R I (k _ _ _ z)⟩
theorem lift_it {α β : Type} {K : PySem.W.Frag} {r : List Addr} {H : Hp} {t : L2.St} {env : AEnv} {S : Sto} {RR : Rel α β} {fx : AEnv → Sto → Res α} {gx : α → AEnv → Sto → Res (List D)} {Q' : β → Hp → Prop} {Ri : It → Hp → Prop} (R : RA K r H t env S)
    (h : match (fx env S).bind fun a S1 => gx a env S1 with
      | .ok ds S' => ∀ r' H' J, Ext r H r' H' → RSt K r' H' S' → Yields K J ds r' H' → Ri J H'
      | .exc c S' => ∀ r' H' cls dx, Ext r H r' H' → RSt K r' H' S' → RX K r' H' c cls dx → W cls dx t H'
      | .bad => False)
    (k : ∀ a S1 r1 H1 b ds S', Ext r H r1 H1 → RA K r1 H1 t env S1 → RR H r1 H1 a b → gx a env S1 = .ok ds S' → (∀ r' H' J, Ext r1 H1 r' H' → RSt K r' H' S' → Yields K J ds r' H' → Ri J H') → Q' b H1)
    (hx : ∀ a S1 c S', gx a env S1 ≠ .exc c S') : lift K W RR fx t H Q' := by
  refine ⟨r, env, S, R, ?_⟩
  cases hf : fx env S with
  | ok a S1 =>
    rw [hf] at h
    intro r1 H1 b e1 R1 q1
    simp only [Res.bind] at h
    cases hg : gx a env S1 with
    | ok ds S' => rw [hg] at h; exact k a S1 r1 H1 b ds S' e1 (R.ext e1 R1) q1 hg fun r' H' J x' R' y' => h r' H' J (e1.trans x') R' y'
    | exc c S' => exact (hx _ _ _ _ hg).elim
    | bad => rw [hg] at h; exact h.elim
  | exc c S1 => rw [hf] at h; exact h
  | bad => rw [hf] at h; exact h
@[simp] def iTupK (d : D) (S : Sto) : Res (List D) := match d.seq? with
  | some ds => .ok ds S
  | none => .bad
@[simp] def iTup' (fa : EvE) : AEnv → Sto → Res (List D) := fun env S => (fa env S).bind fun d S1 => iTupK d S1
theorem sqT_get {K : PySem.W.Frag} {r : List Addr} {H : Hp} {S : Sto} {d : D} {ds : List D} {v : V} (R : RSt K r H S) (rv : RV K r H d v) (e : d.seq? = some ds) : ∃ a us, v = .ref a ∧ RVs K r H ds us ∧ ∀ r' H', Ext r H r' H' → SqT K H' a us := by
  cases rv with
  | tup h q => cases e; exact ⟨_, _, rfl, q, fun r' H' x => .inl (.inl ((R.tups x).t _ _ h))⟩
  | cst h q => cases e; exact ⟨_, _, rfl, q, fun r' H' x => (h.mono (R.tups x)).sq⟩
  | fup h hd q => cases e; exact ⟨_, _, rfl, q, fun r' H' x => .inl (.inr ⟨_, (R.tups x).f _ _ _ h⟩)⟩
  | _ => cases e
theorem di_tup {tg : Expr} (ha : DE X W e fa) : DI X W tg e (iTup' fa) :=
  ⟨PI.imp (pi_tup ha.pe) fun s H Ri ⟨r, env, S, R, z⟩ => by
    refine lift_it (RR := RVE X.K) (gx := fun d env S1 => iTupK d S1) R z (fun d S1 r1 H1 v ds S' e1 R1 rv hg k => ?_) fun a S1 c S' => by
      simp only [iTupK]; split <;> (intro z; cases z)
    simp only [iTupK] at hg
    split at hg
    · rename_i ds' hd
      cases hg
      obtain ⟨a, us, rfl, q, st⟩ := sqT_get R1.st rv hd
      refine ⟨a, rfl, ⟨us, st r1 H1 (Ext.refl r1 H1)⟩, k r1 H1 _ (Ext.refl r1 H1) R1.st fun r2 H2 x2 i => ⟨fun d' hd' => ?_, fun hl => ⟨us, st r2 H2 x2, by rw [← q.length]; exact hl⟩⟩⟩
      obtain ⟨v', hv', rv'⟩ := RVs.get q hd'
      refine ⟨⟨us, v', st r2 H2 x2, hv'⟩, fun v H' ⟨hH, hall⟩ => ?_⟩
      subst hH
      have := hall us (st r2 _ x2)
      rw [hv'] at this; cases this
      exact ⟨Ext.refl _ _, fun S0 R0 => ⟨R0, RV.ext rv' R1.st x2⟩⟩
    · cases hg⟩
@[simp] def iLst' (ga : AEnv → Sto → Res (List D)) : AEnv → Sto → Res (List D) := fun env S => (ga env S).bind fun d S1 => .ok d S1
theorem di_lst {tg : Expr} (ha : DL X W e ga) : DI X W tg e (iLst' ga) :=
  ⟨PI.imp (pi_list ha.pe) fun s H Ri ⟨r, env, S, R, z⟩ => by
    refine lift_it (RR := RVL X.K) (gx := fun d env S1 => Res.ok d S1) R z (fun d S1 r1 H1 v ds S' e1 R1 rv hg k => ?_) fun a S1 c S' z => by cases z
    cases hg
    obtain ⟨a, vs, rfl, _, na, hq, q⟩ := rv
    refine ⟨a, rfl, ⟨vs, SqL.of hq⟩, k r1 H1 _ (Ext.refl r1 H1) R1.st fun r2 H2 x2 i => ?_⟩
    have hS : SqL X.K H2 a vs := SqL.of (x2.keep a _ na hq).1
    refine ⟨fun d' hd' => ?_, fun hl => ⟨vs, hS, by rw [← q.length]; exact hl⟩⟩
    obtain ⟨v', hv', rv'⟩ := RVs.get q hd'
    refine ⟨⟨vs, v', hS, hv'⟩, fun v H' ⟨hH, hall⟩ => ?_⟩
    subst hH
    have := hall vs hS
    rw [hv'] at this; cases this
    exact ⟨Ext.refl _ _, fun S0 R0 => ⟨R0, RV.ext rv' R1.st x2⟩⟩⟩
/-- lo, lo + 1, .. (n of them) -/
def rngD (lo : Int) (n : Nat) : List D := (List.range n).map fun (i : Nat) => D.int (lo + i)
theorem yields_rng {K : PySem.W.Frag} {lo : Int} {n : Nat} {r : List Addr} {H : Hp} : Yields K (Itr lo n) (rngD lo n) r H := fun r2 H2 x2 i => by
  refine ⟨fun d hd => ?_, fun hl => by show n ≤ i; simpa [rngD] using hl⟩
  unfold rngD at hd
  rw [List.getElem?_map] at hd
  cases hr : (List.range n)[i]? with
  | none => rw [hr] at hd; cases hd
  | some j =>
    rw [hr] at hd
    obtain ⟨h1, h2⟩ := List.getElem?_eq_some_iff.mp hr
    rw [List.getElem_range] at h2
    subst h2
    cases hd
    refine ⟨by show i < n; simpa using h1, fun v H' ⟨hH, hv⟩ => ?_⟩
    subst hH
    subst hv
    exact ⟨Ext.refl _ _, fun S0 R0 => ⟨R0, .int _⟩⟩
/-- small enough for range; said so that a letter stops it -/
def rngB : Int → Bool
  | .ofNat n => Nat.ble n 999999
  | .negSucc n => Nat.ble n 999999
theorem rngB_iff {j : Int} : rngB j = true ↔ -1000000 ≤ j ∧ j < 1000000 := by
  cases j with
  | ofNat n =>
    show Nat.ble n 999999 = true ↔ _
    rw [Nat.ble_eq, Int.ofNat_eq_natCast]; omega
  | negSucc n =>
    show Nat.ble n 999999 = true ↔ _
    rw [Nat.ble_eq, Int.negSucc_eq]; omega
@[simp] def iRng1K (ds : List D) (S : Sto) : Res (List D) := match ds with
  | [.int j] => if rngB j = true then .ok (rngD 0 j.toNat) S else .bad
  | _ => .bad
@[simp] def iRng1' (ga : AEnv → Sto → Res (List D)) : AEnv → Sto → Res (List D) := fun env S => (ga env S).bind fun ds S1 => iRng1K ds S1
theorem di_rng1 {tg : Expr} (hg : Gl X "range") (hm : X.mg "range" = none) (ha : DA X W [a] ga) (hs : starEach [a] X.env = [(false, eval a X.env)] := by rfl) : DI X W tg (.Call (.Name "range" p) [a] [] pos) (iRng1' ga) :=
  ⟨PI.imp (pi_range1 hg hm ha.pa hs) fun s H Ri ⟨r, env, S, R, z⟩ => by
    refine lift_it (RR := RVA X.K) (gx := fun ds env S1 => iRng1K ds S1) R z (fun ds S1 r1 H1 vs ds' S' e1 R1 rv hg k => ?_) fun a S1 c S' => by
      simp only [iRng1K]; split
      · split <;> (intro z; cases z)
      · intro z; cases z
    simp only [iRng1K] at hg
    split at hg
    · rename_i j
      split at hg
      · rename_i hj
        rw [rngB_iff] at hj
        cases hg
        obtain ⟨v, rfl, h⟩ := rv.one
        cases h
        exact ⟨j, rfl, by omega, by omega, k r1 H1 _ (Ext.refl r1 H1) R1.st yields_rng⟩
      · cases hg
    · cases hg⟩
@[simp] def iRng2K (ds : List D) (S : Sto) : Res (List D) := match ds with
  | [.int i, .int j] => if rngB i = true ∧ rngB j = true then .ok (rngD i (j - i).toNat) S else .bad
  | _ => .bad
@[simp] def iRng2' (ga : AEnv → Sto → Res (List D)) : AEnv → Sto → Res (List D) := fun env S => (ga env S).bind fun ds S1 => iRng2K ds S1
theorem di_rng2 {tg : Expr} (hg : Gl X "range") (hm : X.mg "range" = none) (ha : DA X W [a, b] ga) (hs : starEach [a, b] X.env = [(false, eval a X.env), (false, eval b X.env)] := by rfl) (hs2 : starEach [b] X.env = [(false, eval b X.env)] := by rfl) :
    DI X W tg (.Call (.Name "range" p) [a, b] [] pos) (iRng2' ga) :=
  ⟨PI.imp (pi_range2 hg hm ha.pa hs hs2) fun s H Ri ⟨r, env, S, R, z⟩ => by
    refine lift_it (RR := RVA X.K) (gx := fun ds env S1 => iRng2K ds S1) R z (fun ds S1 r1 H1 vs ds' S' e1 R1 rv hg k => ?_) fun a S1 c S' => by
      simp only [iRng2K]; split
      · split <;> (intro z; cases z)
      · intro z; cases z
    simp only [iRng2K] at hg
    split at hg
    · rename_i i j
      split at hg
      · rename_i hj
        rw [rngB_iff, rngB_iff] at hj
        cases hg
        obtain ⟨v, w, rfl, h, h'⟩ := rv.two
        cases h
        cases h'
        exact ⟨i, j, rfl, ⟨by omega, by omega, by omega, by omega⟩, k r1 H1 _ (Ext.refl r1 H1) R1.st yields_rng⟩
      · cases hg
    · cases hg⟩
/-- zip of two tuples: new pairs -/
def zipD (xs ys : List D) : List D := (xs.zip ys).map fun q => D.tup [q.1, q.2]
@[simp] def iZipK (ds : List D) (S : Sto) : Res (List D) := match ds with
  | [d, d'] => match d.seq?, d'.seq? with
    | some xs, some ys => .ok (zipD xs ys) S
    | _, _ => .bad
  | _ => .bad
@[simp] def iZip' (ga : AEnv → Sto → Res (List D)) : AEnv → Sto → Res (List D) := fun env S => (ga env S).bind fun ds S1 => iZipK ds S1
theorem di_zip {elts : List Expr} {kk : Nat} {tpos : Pos} (hg : Gl X "zip") (hm : X.mg "zip" = none) (ha : DA X W [a, b] ga) (hs : starEach [a, b] X.env = (false, eval a X.env) :: starEach [b] X.env := by rfl) (hpl : (backTo pos (starEach [b] X.env)).any (·.1) = false := by rfl) :
    DI X W (.Tuple elts kk tpos) (.Call (.Name "zip" p) [a, b] [] pos) (iZip' ga) :=
  ⟨PI.imp (RZ.pi_zipA hg hm ha.pa hs hpl) fun s H Ri ⟨r, env, S, R, z⟩ => by
    refine lift_it (RR := RVA X.K) (gx := fun ds env S1 => iZipK ds S1) R z (fun ds S1 r1 H1 vs ds' S' e1 R1 rv hg k => ?_) fun a S1 c S' => by
      simp only [iZipK]; split
      · split <;> (intro z; cases z)
      · intro z; cases z
    simp only [iZipK] at hg
    split at hg
    · rename_i d d'
      split at hg
      · rename_i xs ys h1 h2
        cases hg
        obtain ⟨v, w, rfl, g1, g2⟩ := rv.two
        obtain ⟨a, us, rfl, q1, st1⟩ := sqT_get R1.st g1 h1
        obtain ⟨b, ws, rfl, q2, st2⟩ := sqT_get R1.st g2 h2
        refine ⟨a, b, us, ws, rfl, .inr ⟨st1 _ _ (Ext.refl r1 H1), st2 _ _ (Ext.refl r1 H1), k r1 H1 _ (Ext.refl r1 H1) R1.st fun r2 H2 x2 i => ⟨fun dd hd => ?_, fun hl => ?_⟩⟩⟩
        · unfold zipD at hd
          rw [List.getElem?_map] at hd
          cases hz : (xs.zip ys)[i]? with
          | none => rw [hz] at hd; cases hd
          | some q =>
            rw [hz] at hd
            cases hd
            obtain ⟨z1, z2⟩ := List.getElem?_zip_eq_some.mp hz
            obtain ⟨v1, hv1, rv1⟩ := RVs.get q1 z1
            obtain ⟨v2, hv2, rv2⟩ := RVs.get q2 z2
            refine ⟨⟨us, ws, v1, v2, st1 _ _ x2, st2 _ _ x2, hv1, hv2⟩, fun v H' ⟨T, x, y, hv, hT, hH, hx, hy⟩ => ?_⟩
            subst hH
            subst hv
            have e1' := hx us (st1 _ _ x2)
            have e2' := hy ws (st2 _ _ x2)
            rw [hv1] at e1'; cases e1'
            rw [hv2] at e2'; cases e2'
            have xx : Ext r2 H2 r2 (upd H2 T (.tup [v1, v2])) := ⟨⟨[], by simp⟩, fun c o hc e => ⟨by rw [upd_ne (ne_of_none e hT)]; exact e, hc⟩, upd_fr, fun c o u e => by rw [upd_ne (ne_of_none e hT)]; exact e⟩
            refine ⟨xx, fun S0 R0 => ⟨(R0.new hT).1, .tup upd_same ?_⟩⟩
            exact .cons (RV.ext (RV.ext rv1 R1.st x2) R0 xx) (.cons (RV.ext (RV.ext rv2 R1.st x2) R0 xx) .nil)
        · refine ⟨us, ws, st1 _ _ x2, st2 _ _ x2, ?_⟩
          have hl' : min xs.length ys.length ≤ i := by simpa [zipD] using hl
          rw [← q1.length, ← q2.length]
          omega
      · cases hg
    · cases hg⟩
/-! ### for -/
def forD (g : GvT) (f : EvS) : List D → AEnv → Sto → SRes
  | [], env, S => .nx env S
  | d :: ds, env, S => match g d env S with
    | none => .bad
    | some q => match f q.1 q.2 with
      | .nx env2 S2 => forD g f ds env2 S2
      | .ct env2 S2 => forD g f ds env2 S2
      | .brk env2 S2 => .nx env2 S2
      | .ret d S2 => .ret d S2
      | .exc c env2 S2 => .exc c env2 S2
      | .bad => .bad
@[simp] def sFor (it : AEnv → Sto → Res (List D)) (g : GvT) (f : EvS) : EvS := fun env S => sbind (it env S) env fun ds S1 => forD g f ds env S1
theorem ds_for {tg iter : Expr} {vs : List Nat} {it : AEnv → Sto → Res (List D)} {gt : GvT} (hp : PassesOwn (model X.prog X.w) X.A X.env X.xe) (hc : X.calm = true) (hi : DI X W tg iter it) (hg : DG X tg vs gt) (hb : DSs X W sts f)
    (hs : ∀ x, foldedSetIterable iter X.env x = pure x := by intro _; rfl) : DS X W (.For tg iter sts [] pos) (sFor it gt f) :=
  s_ps (ps_for hp hc hi.pi hg.pg hb.ps hs) fun E s H ⟨r, env, S, R, z⟩ => by
    refine ⟨r, env, S, R, ?_⟩
    cases hit : it env S with
    | bad => simp only [sFor, hit, sbind] at z; exact z
    | exc c S1 => simp only [sFor, hit, sbind] at z; exact fun r' H' cls dx x' R' rx => z r' H' s cls dx x' (R.ext x' R') rx
    | ok ds S1 =>
      simp only [sFor, hit, sbind] at z
      intro r1 H1 J x1 R1 Y
      have RA1 : RA X.K r1 H1 s env S1 := R.ext x1 R1
      refine ⟨fun i m s H => ∃ r env S, Ext r1 H1 r H ∧ RA X.K r H s env S ∧ i ≤ ds.length ∧ m = ds.length - i ∧ sresP X.K W r H (forD gt f (ds.drop i) env S) E, ⟨_, r1, env, S1, Ext.refl r1 H1, RA1, Nat.zero_le _, rfl, sresP.ext z x1⟩, ?_⟩
      rintro i m s2 H2 ⟨r2, env2, S2, x2, R2, hle, rfl, z2⟩
      obtain ⟨yg, ys⟩ := Y r2 H2 x2 i
      by_cases hlt : i < ds.length
      · have hd : ds.drop i = ds[i] :: ds.drop (i + 1) := List.drop_eq_getElem_cons hlt
        rw [hd] at z2
        obtain ⟨go, yl⟩ := yg ds[i] (List.getElem?_eq_getElem hlt)
        refine .inr ⟨go, fun s' H' => ∃ r env S, Ext r1 H1 r H' ∧ RA X.K r H' s' env S ∧ i + 1 ≤ ds.length ∧ ds.length - (i + 1) = ds.length - (i + 1) ∧ sresP X.K W r H' (forD gt f (ds.drop (i + 1)) env S) E, fun s' H' ⟨r, env, S, a1, a2, a3, _, a4⟩ => ⟨ds.length - (i + 1), by omega, r, env, S, a1, a2, a3, rfl, a4⟩, fun x H' hy => ?_⟩
        obtain ⟨x3, hS⟩ := yl x H' hy
        obtain ⟨R3, rv⟩ := hS S2 R2.st
        have RA3 := R2.ext x3 R3
        refine ⟨r2, env2, S2, ds[i], RA3, rv, ?_⟩
        unfold forD at z2
        cases hg : gt ds[i] env2 S2 with
        | none => rw [hg] at z2; exact z2
        | some q =>
          rw [hg] at z2
          intro r4 H4 s4 x4 R4 _
          refine ⟨r4, q.1, q.2, R4, ?_⟩
          have x24 : Ext r1 H1 r4 H4 := x2.trans (x3.trans x4)
          have z4 := sresP.ext z2 (x3.trans x4)
          cases hf : f q.1 q.2 with
          | nx env5 S5 => simp only [hf] at z4; exact fun r5 H5 s5 x5 R5 => ⟨r5, env5, S5, x24.trans x5, R5, hlt, rfl, sresP.ext z4 x5⟩
          | ct env5 S5 => simp only [hf] at z4; exact fun r5 H5 s5 x5 R5 => ⟨r5, env5, S5, x24.trans x5, R5, hlt, rfl, sresP.ext z4 x5⟩
          | brk env5 S5 => simp only [hf] at z4; exact z4
          | ret d S5 => simp only [hf] at z4; exact z4
          | exc c env5 S5 => simp only [hf] at z4; exact z4
          | bad => simp only [hf] at z4; exact z4
      · have hn : ds.drop i = [] := List.drop_eq_nil_of_le (by omega)
        rw [hn] at z2
        exact .inl ⟨ys (by omega), z2 r2 H2 s2 (Ext.refl r2 H2) R2⟩
end
end DV
/-! DV8: comprehensions, locked dicts, the rule for a def, other words for what a def does, repr. -/
namespace DV
open PySem PySem.Spec PyProof.Rows L2

section
variable {X : Cx} {W : WX} {a b c e o : Expr} {es : List Expr} {fa fb fc fo : EvE} {ga gb : AEnv → Sto → Res (List D)} {pos p p2 : Pos} {x : Str}
/-- nothing is let out -/
abbrev W0 : WX := fun _ _ _ _ => False
/-! ### comprehensions -/
def wipeA (env : AEnv) : List Nat → AEnv
  | [] => env
  | v :: vs => (wipeA env vs).set v none
theorem wipeA_length (env : AEnv) : ∀ vs, (wipeA env vs).length = env.length
  | [] => rfl
  | v :: vs => by unfold wipeA; rw [List.length_set, wipeA_length env vs]
theorem wipeA_some {env : AEnv} {i : Nat} {d : D} : ∀ {vs : List Nat}, (wipeA env vs)[i]? = some (some d) → env[i]? = some (some d) ∧ i ∉ vs
  | [], h => ⟨h, by simp⟩
  | v :: vs, h => by
    unfold wipeA at h
    by_cases hv : v = i
    · subst hv
      by_cases hl : v < (wipeA env vs).length
      · rw [List.getElem?_set_self hl] at h; cases h
      · rw [List.getElem?_eq_none (by simpa using hl)] at h; cases h
    · rw [List.getElem?_set_ne hv] at h
      obtain ⟨h1, h2⟩ := wipeA_some h
      exact ⟨h1, by simp only [List.mem_cons, not_or]; exact ⟨fun e => hv e.symm, h2⟩⟩
theorem RA.wipe {K : PySem.W.Frag} {r : List Addr} {H : Hp} {t : L2.St} {env : AEnv} {S : Sto} (R : RA K r H t env S) (vs : List Nat) : RA K r H (L2.wipe t vs) (wipeA env vs) S :=
  ⟨R.st, by rw [wipe_length, wipeA_length]; exact R.len, fun i d h => by
    obtain ⟨h1, h2⟩ := wipeA_some h
    obtain ⟨v, e, q⟩ := R.sl i d h1
    exact ⟨v, by rw [wipe_out h2]; exact e, q⟩⟩
theorem SameBut.wiped (vs : List Nat) (s : L2.St) : SameBut vs s (L2.wipe s vs) := ⟨wipe_length s vs, fun i hi => wipe_out hi⟩
/-- an exception is not served here -/
@[simp] def Res.bind0 {α β : Type} (x : Res α) (f : α → Sto → Res β) : Res β := match x with
  | .ok a S => f a S
  | _ => .bad
def compD (vs : List Nat) (g : GvT) (q : AEnv → Sto → Res Bool) (te : EvE) (env : AEnv) : List D → List D → Sto → Res (List D)
  | [], acc, S => .ok acc S
  | d :: ds, acc, S => match g d (wipeA env vs) S with
    | none => .bad
    | some pr => (q pr.1 pr.2).bind0 fun b S3 => if b then (te pr.1 S3).bind0 fun y S4 => if acc.length < LN then compD vs g q te env ds (acc ++ [y]) S4 else .bad
      else compD vs g q te env ds acc S3
@[simp] def lComp (vs : List Nat) (it : AEnv → Sto → Res (List D)) (g : GvT) (q : AEnv → Sto → Res Bool) (te : EvE) : AEnv → Sto → Res (List D) := fun env S => (it env S).bind fun ds S1 => compD vs g q te env ds [] S1
structure DTs (X : Cx) (W : WX) (ifs : List Expr) (f : AEnv → Sto → Res Bool) : Prop where
  pt : PTs X ifs (liftT X.K W f)
theorem PTs.imp {e : List Expr} {t t' : TT} (h : PTs X e t) (k : ∀ s H Q, t' s H Q → t s H Q) : PTs X e t' := ⟨fun pins s u H Q I q => h.run pins s u H Q I (k _ _ _ q)⟩
@[simp] def tYes' : AEnv → Sto → Res Bool := fun _ S => .ok true S
theorem dts_nil : DTs X W [] tYes' := ⟨PTs.imp pts_nil fun s H Q ⟨r, env, S, R, z⟩ => z r H true (Ext.refl r H) R.st rfl⟩
theorem dts_one {q : AEnv → Sto → Res Bool} (h : DT X W c q) : DTs X W [c] q := ⟨pts_one h.pt⟩
/-- a new thing is put at p, where nothing was at the start -/
theorem Ext.at_new {r r' : List Addr} {H H' : Hp} {p : Addr} {o : HO} (x : Ext r H r' H') (hp : H p = none) : Ext r H r' (upd H' p o) :=
  ⟨x.pre, fun a u h e => by
    obtain ⟨h1, h2⟩ := x.keep a u h e
    exact ⟨by rw [upd_ne (ne_of_none e hp)]; exact h1, h2⟩, fun a h => x.fr a (upd_fr a h), fun a ob u e => by rw [upd_ne (ne_of_none e hp)]; exact x.frz a ob u e⟩
theorem RSt.other {K : PySem.W.Frag} {r : List Addr} {H : Hp} {S : Sto} {p : Addr} {xs : List V} {o : HO} (R : RSt K r H S) (np : p ∉ r) (hp : H p = some (.lst xs)) : RSt K r (upd H p o) S :=
  ⟨R.len, R.nd, fun n u e => by
    obtain ⟨a, e1, q⟩ := R.at_ n u e
    exact ⟨a, e1, q.mono (TGrow.upd hp (fun _ z => nomatch z) (fun _ _ z => nomatch z)) (fun _ _ z => z) (upd_ne fun z => np (by rw [← z]; exact List.mem_of_getElem? e1))⟩⟩
theorem dl_comp {elt tg iter : Expr} {ifs : List Expr} {scope : Scope} {own : List (Str × Nat)} {vs : List Nat} {it : AEnv → Sto → Res (List D)} {gt : GvT} {q : AEnv → Sto → Res Bool} {te : EvE} (hc : X.calm = true) (hN : X.N.Nodup) (hi : DI X W tg iter it) (ok : BlkOk X.N X.env.scope scope own)
    (hg : ∀ (s : Shared) (H : Hp) (C : Addr) (cl : List (Str × Addr)) (fp : List Addr), DG (X.blk s H scope (compEnvC scope cl C X.env) fp) tg vs gt)
    (ht : ∀ (s : Shared) (H : Hp) (C : Addr) (cl : List (Str × Addr)) (fp : List Addr), DTs (X.blk s H scope (compEnvC scope cl C X.env) fp) W0 ifs q)
    (he : ∀ (s : Shared) (H : Hp) (C : Addr) (cl : List (Str × Addr)) (fp : List Addr), DE (X.blk s H scope (compEnvC scope cl C X.env) fp) W0 elt te)
    (hv : ∀ i ∈ vs, i ∈ own.map (·.2) := by decide) (hs : ∀ x, foldedSetIterable iter X.env x = pure x := by intro _; rfl) : DL X W (.ListComp elt [⟨tg, iter, ifs, 0⟩] scope pos) (lComp (own.map (·.2)) it gt q te) :=
  dl_pe (pe_lc (wi := liftI X.K W it) (g := liftG X.K vs gt) (tt := liftT X.K W0 q) (te := liftE X.K W0 te) hc hN hi.pi ok (fun s H C cl fp => (hg s H C cl fp).pg) (fun s H C cl fp => (ht s H C cl fp).pt) (fun s H C cl fp => (he s H C cl fp).pe) hs) fun s0 H0 Q ⟨r0, env, S0, R0, z⟩ => by
    refine ⟨r0, env, S0, R0, ?_⟩
    cases hit : it env S0 with
    | bad => simp only [lComp, hit, Res.bind] at z; exact z
    | exc c S1 => simp only [lComp, hit, Res.bind] at z; exact z
    | ok ds S1 =>
      simp only [lComp, hit, Res.bind] at z
      intro r1 H1 J x1 R1 Y Dd hD
      obtain ⟨RN, xN⟩ := R1.new (o := .lst []) hD
      refine ⟨fun i m H => ∃ r S acc av, Ext r1 H1 r H ∧ RSt X.K r H S ∧ Dd ∉ r ∧ H Dd = some (.lst av) ∧ RVs X.K r H acc av ∧ i ≤ ds.length ∧ m = ds.length - i ∧ resP X.K W (RVL X.K) r0 H0 s0 (compD (own.map (·.2)) gt q te env (ds.drop i) acc S) Q,
        ⟨_, r1, S1, [], [], xN, RN, R1.nmem hD, upd_same, .nil, Nat.zero_le _, rfl, z⟩, ?_⟩
      rintro i m H2 ⟨r2, S2, acc, av, x2, R2, nD, hDd, rva, hle, rfl, z2⟩
      obtain ⟨yg, ys⟩ := Y r2 H2 x2 i
      have x02 : Ext r0 H0 r2 H2 := x1.trans x2
      by_cases hlt : i < ds.length
      · have hd : ds.drop i = ds[i] :: ds.drop (i + 1) := List.drop_eq_getElem_cons hlt
        rw [hd] at z2
        obtain ⟨go, yl⟩ := yg ds[i] (List.getElem?_eq_getElem hlt)
        refine .inr ⟨go, fun H' => ∃ r S acc av, Ext r1 H1 r H' ∧ RSt X.K r H' S ∧ Dd ∉ r ∧ H' Dd = some (.lst av) ∧ RVs X.K r H' acc av ∧ i + 1 ≤ ds.length ∧ resP X.K W (RVL X.K) r0 H0 s0 (compD (own.map (·.2)) gt q te env (ds.drop (i + 1)) acc S) Q,
          fun H' ⟨r, S, acc, av, b1, b2, b3, b4, b5, b6, b7⟩ => ⟨ds.length - (i + 1), by omega, r, S, acc, av, b1, b2, b3, b4, b5, b6, rfl, b7⟩, fun xv H' hy => ?_⟩
        obtain ⟨x3, hS⟩ := yl xv H' hy
        obtain ⟨R3, rv⟩ := hS S2 R2
        have RA3 : RA X.K r2 H' s0 env S2 := R0.ext (x02.trans x3) R3
        refine ⟨r2, _, S2, ds[i], RA3.wipe (own.map (·.2)), rv, ?_⟩
        unfold compD at z2
        cases hgt : gt ds[i] (wipeA env (own.map (·.2))) S2 with
        | none => simp only [hgt] at z2; exact z2
        | some pr =>
          simp only [hgt] at z2
          intro r4 H4 s4 x4 R4 sb
          refine ⟨?_, ?_⟩
          · have h1 := (sb.mono hv).wipe
            have h2 := (SameBut.wiped (own.map (·.2)) s0).wipe
            rw [h1, h2]
          · refine ⟨r4, pr.1, pr.2, R4, ?_⟩
            cases hq : q pr.1 pr.2 with
            | bad => simp only [hq, Res.bind0] at z2; exact z2
            | exc c S5 => simp only [hq, Res.bind0] at z2; exact z2.elim
            | ok bb S5 =>
              simp only [hq, Res.bind0] at z2
              intro r5 H5 b' x5 R5 hb
              cases hb
              have x25 : Ext r2 H2 r5 H5 := x3.trans (x4.trans x5)
              cases bb with
              | false =>
                rw [if_neg Bool.false_ne_true]
                rw [if_neg Bool.false_ne_true] at z2
                obtain ⟨k1, k2⟩ := x25.keep Dd _ nD hDd
                exact ⟨r5, S5, acc, av, x2.trans x25, R5, k2, k1, RVs.ext rva R2 x25, hlt, z2⟩
              | true =>
                rw [if_pos rfl]
                rw [if_pos rfl] at z2
                refine ⟨r5, pr.1, S5, R4.ext x5 R5, ?_⟩
                cases hte : te pr.1 S5 with
                | bad => simp only [hte] at z2; exact z2
                | exc c S6 => simp only [hte] at z2; exact z2.elim
                | ok y S6 =>
                  simp only [hte] at z2
                  intro r6 H6 yv x6 R6 ry
                  have x26 : Ext r2 H2 r6 H6 := x25.trans x6
                  obtain ⟨k1, k2⟩ := x26.keep Dd _ nD hDd
                  have rva6 := RVs.ext rva R2 x26
                  by_cases hl : acc.length < LN
                  · rw [if_pos hl] at z2
                    refine ⟨av, k1, by rw [← rva.length, sizeLine_eq]; exact hl, r6, S6, acc ++ [y], av ++ [yv], (x2.trans x26).at_new hD, R6.other k2 k1, k2, upd_same, ?_, hlt, z2⟩
                    exact RVs.mono (TGrow.upd k1 (fun _ z => nomatch z) (fun _ _ z => nomatch z)) (fun _ _ z => z) (RVs.append rva6 (.cons ry .nil))
                  · rw [if_neg hl] at z2; exact z2.elim
      · have hn : ds.drop i = [] := List.drop_eq_nil_of_le (by omega)
        rw [hn] at z2
        exact .inl ⟨ys (by omega), z2 r2 H2 _ x02 R2 ⟨Dd, av, rfl, x1.fr Dd hD, nD, hDd, rva⟩⟩
/-! ### a dict is walked: it is locked meanwhile -/
def rTof (S : Sto) (n : Nat) : Option Sto := match S[n]? with
  | some (.dT kvs) => some (S.set n (.rT kvs))
  | _ => none
def unT (S : Sto) (n : Nat) : Option Sto := match S[n]? with
  | some (.rT kvs) => some (S.set n (.dT kvs))
  | _ => none
@[simp] def unTL (n : Nat) (ds : List D) (S : Sto) : Res (List D) := match unT S n with
  | some S1 => .ok ds S1
  | none => .bad
@[simp] def lLockK (n : Nat) (f : AEnv → Sto → Res (List D)) (env : AEnv) (S : Sto) : Res (List D) := match rTof S n with
  | some S1 => (f env S1).bind0 fun ds S2 => unTL n ds S2
  | none => .bad
@[simp] def lLock (i : Nat) (f : AEnv → Sto → Res (List D)) : AEnv → Sto → Res (List D) := fun env S => match env[i]? with
  | some (some (.loc n)) => lLockK n f env S
  | _ => .bad
theorem lock_at {K : PySem.W.Frag} {r : List Addr} {H : Hp} {S S1 : Sto} {n : Nat} (R : RSt K r H S) (e : rTof S n = some S1) : ∃ d ws, r[n]? = some d ∧ H d = some (.dT ws) ∧ ∀ od, RSt K r (upd H d (.frz od (.dT ws))) S1 ∧ TGrow H (upd H d (.frz od (.dT ws))) := by
  unfold rTof at e
  split at e
  · rename_i kvs e2
    cases e
    obtain ⟨d, e3, ws, e4, q⟩ := R.at_ n _ e2
    refine ⟨d, ws, e3, e4, fun od => ?_⟩
    have g : TGrow H (upd H d (.frz od (.dT ws))) := TGrow.upd e4 (fun _ z => nomatch z) (fun _ _ z => nomatch z)
    have hx := R.put (o := .frz od (.dT ws)) (m := .rT kvs) e3 (fun o u z => by rw [e4] at z; cases z) ⟨od, ws, upd_same, q.mono g fun _ _ z => z⟩
    exact ⟨hx.1, g⟩
  · cases e
theorem unlock_at {K : PySem.W.Frag} {r r' : List Addr} {H Hl H' : Hp} {S1 S2 : Sto} {n : Nat} {d : Addr} {ws : List (List Key × V)} {od : Obj} (hd : r[n]? = some d) (h0 : H d = some (.dT ws)) (hl : Hl = upd H d (.frz od (.dT ws))) (x : Ext r Hl r' H') (R : RSt K r' H' S1) (e : unT S1 n = some S2) :
    H' d = some (.frz od (.dT ws)) ∧ RSt K r' (upd H' d (.dT ws)) S2 ∧ Ext r H r' (upd H' d (.dT ws)) ∧ TGrow H' (upd H' d (.dT ws)) := by
  have hm : d ∈ r := List.mem_of_getElem? hd
  have hH : H' d = some (.frz od (.dT ws)) := x.frz d od _ (by rw [hl]; exact upd_same)
  have g : TGrow H' (upd H' d (.dT ws)) := TGrow.upd hH (fun _ z => nomatch z) (fun _ _ z => nomatch z)
  unfold unT at e
  split at e
  · rename_i kvs e2
    cases e
    obtain ⟨a, e3, o, us, e4, q⟩ := R.at_ n _ e2
    rw [x.get hd] at e3; cases e3
    rw [hH] at e4; cases e4
    refine ⟨hH, ⟨by simp [R.len], R.nd, fun k u e5 => ?_⟩, ⟨x.pre, fun b u hb e5 => ?_, fun b e5 => ?_, fun b ob u e5 => ?_⟩, g⟩
    · by_cases hk : n = k
      · subst hk
        have hlen : n < S1.length := by
          rw [← R.len]; exact (List.getElem?_eq_some_iff.mp (x.get hd)).1
        rw [List.getElem?_set_self hlen] at e5
        cases e5
        exact ⟨d, x.get hd, _, upd_same, q.mono g fun _ _ z => z⟩
      · rw [List.getElem?_set_ne hk] at e5
        obtain ⟨b, e6, q6⟩ := R.at_ k u e5
        refine ⟨b, e6, q6.mono g (fun _ _ z => z) (upd_ne fun z => hk ?_)⟩
        subst z
        obtain ⟨h1, h2⟩ := List.getElem?_eq_some_iff.mp (x.get hd)
        obtain ⟨h3, h4⟩ := List.getElem?_eq_some_iff.mp e6
        exact (List.getElem_inj R.nd).mp (h2.trans h4.symm)
    · have hne : b ≠ d := fun z => hb (by rw [z]; exact hm)
      obtain ⟨h1, h2⟩ := x.keep b u hb (by rw [hl, upd_ne hne]; exact e5)
      exact ⟨by rw [upd_ne hne]; exact h1, h2⟩
    · have h1 := x.fr b (upd_fr b e5)
      rw [hl] at h1
      exact upd_fr b h1
    · have hne : b ≠ d := fun z => by subst z; rw [h0] at e5; cases e5
      rw [upd_ne hne]
      exact x.frz b ob u (by rw [hl, upd_ne hne]; exact e5)
  · cases e
theorem dl_lock {i : Nat} (h : DL X W e ga) : DL X W e (lLock i ga) :=
  dl_pe (pe_lock h.pe) fun s H Q ⟨r, env, S, R, z⟩ => by
    simp only [lLock] at z
    split at z
    · rename_i n hn
      simp only [lLockK] at z
      cases h1 : rTof S n with
      | none => rw [h1] at z; exact z.elim
      | some S1 =>
        rw [h1] at z
        simp only at z
        obtain ⟨d, ws, e1, e2, hl⟩ := lock_at R.st h1
        refine ⟨d, .dT ws, e2, trivial, fun od => ?_⟩
        obtain ⟨Rl, g⟩ := hl od
        refine ⟨r, env, S1, ⟨Rl, R.len, fun j dd hj => let ⟨v, g1, g2⟩ := R.sl j dd hj; ⟨v, g1, g2.mono g fun _ _ z => z⟩⟩, ?_⟩
        cases hf : ga env S1 with
        | bad => rw [hf] at z; exact z
        | exc c S2 => rw [hf] at z; exact z.elim
        | ok ds S2 =>
          rw [hf] at z
          simp only [Res.bind0, unTL] at z
          intro r' H' v x R' rv
          cases h2 : unT S2 n with
          | none => rw [h2] at z; exact z.elim
          | some S3 =>
            rw [h2] at z
            obtain ⟨k1, k2, k3, k4⟩ := unlock_at e1 e2 rfl x R' h2
            refine ⟨k1, z r' _ v k3 k2 ?_⟩
            obtain ⟨a, us, rfl, h0, na, ha, q⟩ := rv
            refine ⟨a, us, rfl, upd_fr a h0, na, ?_, q.mono k4 fun _ _ z => z⟩
            rw [upd_ne (fun zz => by subst zz; rw [k1] at ha; cases ha)]; exact ha
    · exact z.elim
@[simp] def iKeyK (d : D) (S : Sto) : Res (List D) := match d with
  | .loc n => match S[n]? with
    | some (.rT kvs) => .ok (keysD kvs) S
    | _ => .bad
  | _ => .bad
@[simp] def iKeys' (fa : EvE) : AEnv → Sto → Res (List D) := fun env S => (fa env S).bind fun d S1 => iKeyK d S1
theorem di_keys {tg : Expr} (ha : DE X W e fa) : DI X W tg e (iKeys' fa) :=
  ⟨PI.imp (pi_keys ha.pe) fun s H Ri ⟨r, env, S, R, z⟩ => by
    refine lift_it (RR := RVE X.K) (gx := fun d env S1 => iKeyK d S1) R z (fun d S1 r1 H1 v ds S' e1 R1 rv hg k => ?_) fun a S1 c S' => by
      simp only [iKeyK]; split
      · split <;> (intro z; cases z)
      · intro z; cases z
    simp only [iKeyK] at hg
    split at hg
    · rename_i n
      split at hg
      · rename_i kvs e2
        cases hg
        cases rv with
        | @loc _ a h1 =>
          obtain ⟨b, e3, ob, ws, e4, q⟩ := R1.st.at_ n _ e2
          rw [h1] at e3; cases e3
          refine ⟨a, ob, rfl, .inr ⟨ws, e4, k r1 H1 _ (Ext.refl r1 H1) R1.st fun r2 H2 x2 i => ?_⟩⟩
          have h4 : H2 a = some (.frz ob (.dT ws)) := x2.frz a ob _ e4
          have hlen : (keysD kvs).length = ws.length := by unfold keysD; rw [List.length_map]; exact q.len
          refine ⟨fun dd hd => ?_, fun hl => ⟨h4, by rw [← hlen]; exact hl⟩⟩
          have hi := (List.getElem?_eq_some_iff.mp hd).1
          refine ⟨⟨h4, by rw [← hlen]; exact hi⟩, fun v H' ⟨hH, kk, vv, qa, g1, g2, g3⟩ => ?_⟩
          subst hH
          subst g2
          refine ⟨Ext.refl _ _, fun S0 R0 => ⟨R0, ?_⟩⟩
          unfold keysD at hd
          rw [List.getElem?_map] at hd
          obtain ⟨pr, g5, g6⟩ := paired_get q g1
          rw [g5] at hd
          cases hd
          have : pr.1 = kk := g6.1
          show RV X.K r2 H' (D.tup (pr.1.map kD)) _
          rw [this]
          exact .tup g3 (RVs.keys _)
      · cases hg
    · cases hg⟩
/-! ### the rule for a def -/
def startA (n : Nat) (ds : List D) : AEnv := ds.map some ++ List.replicate (n - ds.length) none
def runD (n : Nat) (body : EvS) (ds : List D) (S : Sto) : Res D := match body (startA n ds) S with
  | .nx _ S' => .ok .non S'
  | .ret d S' => .ok d S'
  | .exc c _ S' => .exc c S'
  | _ => .bad
theorem start_RA {K : PySem.W.Frag} {r : List Addr} {H : Hp} {S : Sto} {ds : List D} {vs : List V} {N : List Str} (R : RSt K r H S) (rv : RVs K r H ds vs) : RA K r H (L2.start N vs) (startA N.length ds) S := by
  have hl := rv.length
  refine ⟨R, by simp [L2.start, startA, hl], fun i d h => ?_⟩
  unfold startA at h
  unfold L2.start
  by_cases hi : i < ds.length
  · rw [List.getElem?_append_left (by simpa using hi), List.getElem?_map] at h
    rw [List.getElem?_append_left (by simpa [← hl] using hi), List.getElem?_map]
    cases hd : ds[i]? with
    | none => rw [hd] at h; cases h
    | some d' =>
      rw [hd] at h; cases h
      obtain ⟨v, e, q⟩ := RVs.get rv hd
      exact ⟨v, by rw [e]; rfl, q⟩
  · rw [List.getElem?_append_right (by simpa using hi)] at h
    rw [List.getElem?_replicate] at h
    split at h <;> cases h
/-- what is wanted of an exception that leaves a def -/
abbrev WE0 (E : XK) : WX := fun cls d _ H => E cls d H
theorem fd_of {P : Program} {w : World} {K : PySem.W.Frag} {mg : Str → Option Value} {base : Heap} {nm qual : Str} {st : Stmt} {f : Addr} {fd : FuncData} {N ps : List Str} {k : Nat} {body : EvS} (F : Fun K nm qual st f fd) (Sc : FnScope N ps (defScope st))
    (h : ∀ (cdv : Value) (A : Around) (outer : List Env) (s : Shared) (H : Hp) (E : XK), Room k (A.deeper (envOfC qual (defScope st) s.heap.objs.size f cdv)) → Takes (cxOf (L2.CX P w) P w K mg base N qual (defScope st) f cdv A outer s H E) (WE0 E) →
      DSs (cxOf (L2.CX P w) P w K mg base N qual (defScope st) f cdv A outer s H E) (WE0 E) (defBody st) body) : FnOk P w K mg base (L2.CX P w) (k + 1) f fd ps (spD K ps.length (runD N.length body)) := by
  refine F.okX Sc (fun vs H Q E h => h.1) fun cdv A outer s H vs Q E hr hsp => ?_
  obtain ⟨_, r, S, ds, R, rv, z⟩ := hsp
  refine ⟨_, (h cdv A outer s H E hr (takes_of rfl rfl rfl rfl)).ps, r, startA N.length ds, S, start_RA R rv, ?_⟩
  unfold runD at z
  cases hb : body (startA N.length ds) S with
  | nx env S' => rw [hb] at z; exact fun r' H' t' x R' => z r' H' .non x R'.st .non
  | ret d S' => rw [hb] at z; exact fun r' H' v x R' rv' => z r' H' v x R' rv'
  | brk env S' => rw [hb] at z; exact z.elim
  | ct env S' => rw [hb] at z; exact z.elim
  | exc c env S' => rw [hb] at z; exact fun r' H' t' cls dx x R' rx => z r' H' cls dx x R'.st rx
  | bad => rw [hb] at z; exact z.elim
/-! ### other words for what a def does -/
mutual
def clD (n : Nat) : D → Bool
  | .loc k => decide (k < n)
  | .tup ds => clDs n ds
  | .cst ds => clDs n ds
  | .fup ds => clDs n ds
  | _ => true
def clDs (n : Nat) : List D → Bool
  | [] => true
  | d :: ds => clD n d && clDs n ds
end
def clO (n : Nat) : MO → Bool
  | .lst ds => clDs n ds
  | .ro ds => clDs n ds
  | .dK kvs => kvs.all fun kv => clD n kv.2
  | .dT kvs => kvs.all fun kv => clD n kv.2
  | .rK kvs => kvs.all fun kv => clD n kv.2
  | .rT kvs => kvs.all fun kv => clD n kv.2
  | .ins _ fs => fs.all fun kv => clD n kv.2
section
variable {K : PySem.W.Frag} {r : List Addr} {H : Hp} {n : Nat}
mutual
theorem RV.cl : ∀ {d : D} {v : V}, RV K r H d v → clD r.length d = true
  | _, _, .non => rfl
  | _, _, .bl _ => rfl
  | _, _, .int _ => rfl
  | _, _, .str _ => rfl
  | _, _, .tup _ q => RVs.cl q
  | _, _, .cst _ q => RVs.cl q
  | _, _, .fup _ _ q => RVs.cl q
  | _, _, .loc h => decide_eq_true (List.getElem?_eq_some_iff.mp h).1
theorem RVs.cl : ∀ {ds : List D} {vs : List V}, RVs K r H ds vs → clDs r.length ds = true
  | _, _, .nil => rfl
  | _, _, .cons h q => by rw [clDs, RV.cl h, RVs.cl q]; rfl
end
mutual
theorem RV.cut : ∀ {d : D} {v : V}, RV K r H d v → clD n d = true → RV K (r.take n) H d v
  | _, _, .non, _ => .non
  | _, _, .bl _, _ => .bl _
  | _, _, .int _, _ => .int _
  | _, _, .str _, _ => .str _
  | _, _, .tup h q, e => .tup h (RVs.cutN q e)
  | _, _, .cst h q, e => .cst h (RVs.cutN q e)
  | _, _, .fup h hd q, e => .fup h hd (RVs.cutN q e)
  | _, _, .loc h, e => .loc (by rw [List.getElem?_take_of_lt (of_decide_eq_true e)]; exact h)
theorem RVs.cutN : ∀ {ds : List D} {vs : List V}, RVs K r H ds vs → clDs n ds = true → RVs K (r.take n) H ds vs
  | _, _, .nil, _ => .nil
  | _, _, .cons h q, e => by
    simp only [clDs, Bool.and_eq_true] at e
    exact .cons (RV.cut h e.1) (RVs.cutN q e.2)
end
theorem PKV.cl {κ : Type} : ∀ {kvs : List (κ × D)} {ws : List (κ × V)}, PKV K r H kvs ws → (kvs.all fun kv => clD r.length kv.2) = true
  | _, _, .nil => rfl
  | _, _, .cons h t => by rw [List.all_cons, h.2.cl, PKV.cl t]; rfl
theorem PKV.cutN {κ : Type} : ∀ {kvs : List (κ × D)} {ws : List (κ × V)}, PKV K r H kvs ws → (kvs.all fun kv => clD n kv.2) = true → PKV K (r.take n) H kvs ws
  | _, _, .nil, _ => .nil
  | _, _, .cons h t, e => by
    rw [List.all_cons, Bool.and_eq_true] at e
    exact .cons ⟨h.1, h.2.cut e.1⟩ (PKV.cutN t e.2)
theorem RO.cl {o : MO} {a : Addr} (h : RO K r H o a) : clO r.length o = true := by
  cases o with
  | lst ds => obtain ⟨vs, _, q⟩ := h; exact q.cl
  | ro ds => obtain ⟨_, vs, _, q⟩ := h; exact q.cl
  | dK kvs => obtain ⟨vs, _, q⟩ := h; exact q.cl
  | dT kvs => obtain ⟨vs, _, q⟩ := h; exact q.cl
  | rK kvs => obtain ⟨_, vs, _, q⟩ := h; exact q.cl
  | rT kvs => obtain ⟨_, vs, _, q⟩ := h; exact q.cl
  | ins C fs => obtain ⟨_, vs, _, q⟩ := h; exact q.cl
theorem RO.cutN {o : MO} {a : Addr} (h : RO K r H o a) (e : clO n o = true) : RO K (r.take n) H o a := by
  cases o with
  | lst ds => obtain ⟨vs, h1, q⟩ := h; exact ⟨vs, h1, q.cutN e⟩
  | ro ds => obtain ⟨o, vs, h1, q⟩ := h; exact ⟨o, vs, h1, q.cutN e⟩
  | dK kvs => obtain ⟨vs, h1, q⟩ := h; exact ⟨vs, h1, q.cutN e⟩
  | dT kvs => obtain ⟨vs, h1, q⟩ := h; exact ⟨vs, h1, q.cutN e⟩
  | rK kvs => obtain ⟨o, vs, h1, q⟩ := h; exact ⟨o, vs, h1, q.cutN e⟩
  | rT kvs => obtain ⟨o, vs, h1, q⟩ := h; exact ⟨o, vs, h1, q.cutN e⟩
  | ins C fs => obtain ⟨dx, vs, h1, q⟩ := h; exact ⟨dx, vs, h1, q.cutN e⟩
theorem RSt.cl {S : Sto} (R : RSt K r H S) : ∀ o ∈ S, clO S.length o = true := fun o ho => by
  obtain ⟨k, hk, e⟩ := List.mem_iff_getElem.mp ho
  obtain ⟨a, _, q⟩ := R.at_ k o (by rw [List.getElem?_eq_getElem hk, e])
  rw [← R.len]; exact q.cl
/-- what is left over is forgotten -/
theorem RSt.forget {S g : Sto} {r0 : List Addr} {H0 : Hp} {S0 : Sto} (R0 : RSt K r0 H0 S0) (R : RSt K r H (S ++ g)) (x : Ext r0 H0 r H) (hl : S0.length ≤ S.length) (hc : ∀ o ∈ S, clO S.length o = true) :
    RSt K (r.take S.length) H S ∧ Ext r0 H0 (r.take S.length) H := by
  have hlen : r.length = S.length + g.length := by rw [R.len, List.length_append]
  refine ⟨⟨by rw [List.length_take]; omega, R.nd.sublist (List.take_sublist _ _), fun k o e => ?_⟩, ⟨?_, fun a o h e => ?_, x.fr, x.frz⟩⟩
  · have hk : k < S.length := (List.getElem?_eq_some_iff.mp e).1
    obtain ⟨a, e1, q⟩ := R.at_ k o (by rw [List.getElem?_append_left hk]; exact e)
    exact ⟨a, by rw [List.getElem?_take_of_lt hk]; exact e1, q.cutN (hc o (List.mem_of_getElem? e))⟩
  · obtain ⟨t, e⟩ := x.pre
    refine ⟨t.take (S.length - r0.length), ?_⟩
    rw [e, List.take_append, List.take_of_length_le (by rw [R0.len]; exact hl)]
  · obtain ⟨h1, h2⟩ := x.keep a o h e
    exact ⟨h1, fun z => h2 (List.mem_of_mem_take z)⟩
end
/-- what stands for d stands for d' too -/
def Wk (d d' : D) : Prop := ∀ K r H v, RV K r H d v → RV K r H d' v
theorem Wk.refl (d : D) : Wk d d := fun _ _ _ _ h => h
theorem Wk.tup (ds : List D) : Wk (.tup ds) (.cst ds) := fun _ _ _ _ h => by
  cases h with
  | tup h q => exact .cst (.inl h) q
theorem Wk.fup (ds : List D) : Wk (.fup ds) (.cst ds) := fun _ _ _ _ h => by
  cases h with
  | fup h _ q => exact .cst (.inr (.inl ⟨_, h⟩)) q
/-- x does as much as y says -/
def RLe (S0 : Sto) (x y : Res D) : Prop := match y with
  | .bad => True
  | .ok d' S2 => ∃ d g, x = .ok d (S2 ++ g) ∧ Wk d d' ∧ (g = [] ∨ (S0.length ≤ S2.length ∧ clD S2.length d' = true ∧ ∀ o ∈ S2, clO S2.length o = true))
  | .exc c S2 => ∃ g, x = .exc c (S2 ++ g) ∧ (g = [] ∨ (S0.length ≤ S2.length ∧ (∀ o ∈ S2, clO S2.length o = true) ∧ (c.fs.getD []).all (fun kv => clD S2.length kv.2) = true))
theorem spD_le {K : PySem.W.Frag} {n : Nat} {F F' : List D → Sto → Res D} (h : ∀ ds S, ds.length = n → (∀ o ∈ S, clO S.length o = true) → RLe S (F ds S) (F' ds S)) : ∀ vs H Q E, spD K n F' vs H Q E → spD K n F vs H Q E := by
  rintro vs H Q E ⟨hl, r, S, ds, R, rv, z⟩
  refine ⟨hl, r, S, ds, R, rv, ?_⟩
  have le := h ds S (by rw [rv.length]; exact hl) R.cl
  unfold RLe at le
  cases hF' : F' ds S with
  | bad => rw [hF'] at z; exact z.elim
  | ok d' S2 =>
    rw [hF'] at z le
    obtain ⟨d, g, e, wk, hg⟩ := le
    rw [e]
    intro r' H' v x R' rv'
    rcases hg with rfl | ⟨h1, h2, h3⟩
    · rw [List.append_nil] at R'
      exact z r' H' v x R' (wk _ _ _ _ rv')
    · obtain ⟨R2, x2⟩ := RSt.forget R R' x h1 h3
      exact z _ H' v x2 R2 ((wk _ _ _ _ rv').cut h2)
  | exc c S2 =>
    rw [hF'] at z le
    obtain ⟨g, e, hg⟩ := le
    rw [e]
    intro r' H' cls dx x R' rx
    rcases hg with rfl | ⟨h1, h2, h3⟩
    · rw [List.append_nil] at R'
      exact z r' H' cls dx x R' rx
    · obtain ⟨R2, x2⟩ := RSt.forget R R' x h1 h2
      refine z _ H' cls dx x2 R2 ⟨rx.1, ?_⟩
      have rx2 := rx.2
      cases hf : c.fs with
      | none => rw [hf] at rx2; exact rx2
      | some fs =>
        rw [hf] at rx2 h3
        obtain ⟨a, fs', g1, g2, g3, g4⟩ := rx2
        exact ⟨a, fs', g1, fun zz => g2 (List.mem_of_mem_take zz), g3, g4.cutN h3⟩
theorem fd_le {P : Program} {w : World} {K : PySem.W.Frag} {mg : Str → Option Value} {base : Heap} {CX : CXT} {k n : Nat} {f : Addr} {fd : FuncData} {ps : List Str} {F F' : List D → Sto → Res D} (G : FnOk P w K mg base CX k f fd ps (spD K n F))
    (h : ∀ ds S, ds.length = n → (∀ o ∈ S, clO S.length o = true) → RLe S (F ds S) (F' ds S)) : FnOk P w K mg base CX k f fd ps (spD K n F') := G.imp (spD_le h)
/-! ### repr -/
def ShowOk (q : PyData) : Prop := q.showable = true ∧ q.hasDict = false ∧ q.shown.length ≤ LN ∧ q.depth ≤ 20
instance (q : PyData) : Decidable (ShowOk q) := by unfold ShowOk; exact inferInstance
def gRepr (ds : List D) (_ : Sto) : Option D := match ds with
  | [d] => d.py.bind fun q => if ShowOk q then some (.str q.shown) else none
  | _ => none
theorem c_repr (hgd : X.A.guards = some []) (hu : X.A.units + 64 < cLine) : CallD X (.builtin "repr") gRepr := by
  intro pins s σ H xs us Q I rx h
  obtain ⟨r, S, ds, R, rv, q⟩ := h
  unfold gRepr at q
  split at q
  · rename_i d
    obtain ⟨v, rfl, h⟩ := rv.one
    cases hp : d.py with
    | none => rw [hp] at q; exact q.elim
    | some pd =>
      rw [hp] at q
      simp only [Option.bind_some] at q
      obtain ⟨⟨h1, h2, h3, h4⟩, q⟩ := ite_out q
      have fin : Q (.str pd.shown) H := OutD.now q R (.str _)
      obtain ⟨u, rfl, ru⟩ := vals1 rx
      obtain ⟨as, hr⟩ := Dp.reads I pd v u (h.dp hp) ru
      cases h with
      | non =>
        cases ru; cases hp
        exact PySem.P.repr_of_none ⟨.str "None", H, I.tok _, ⟨_, rfl⟩, by simpa [PyData.shown] using fin⟩
      | bl b =>
        cases ru; cases hp
        exact PySem.P.repr_of_bool ⟨.str _, H, I.tok _, ⟨_, rfl⟩, by cases b <;> simpa [PyData.shown] using fin⟩
      | int i =>
        obtain ⟨t, rfl⟩ := ru
        cases hp
        exact PySem.P.repr_of_int (by simpa [PyData.showable] using h1) ⟨.str _, H, I.tok _, ⟨_, rfl⟩, by simpa [PyData.shown] using fin⟩
      | str z =>
        obtain ⟨t, rfl⟩ := ru
        cases hp
        refine PySem.P.repr_of_str ⟨.str _, H, I.tok _, ⟨_, rfl⟩, by simpa [PyData.shown] using fin⟩ ?_
        simp only [PyData.shown] at h3
        exact LN_line h3
      | @tup ds' vs a _ _ =>
        cases ru
        exact repr_of_reads' hr h1 (fun z => by rw [h2] at z; cases z) hgd (by omega) (fun _ _ z => z) (fun h' u tk hk => ⟨.str pd.shown, H, I.kept hk, ⟨_, rfl⟩, fin⟩) (LN_line h3)
      | @cst ds' vs a _ _ =>
        cases ru
        exact repr_of_reads' hr h1 (fun z => by rw [h2] at z; cases z) hgd (by omega) (fun _ _ z => z) (fun h' u tk hk => ⟨.str pd.shown, H, I.kept hk, ⟨_, rfl⟩, fin⟩) (LN_line h3)
      | @fup ds' vs a _ _ _ _ =>
        cases ru
        exact repr_of_reads' hr h1 (fun z => by rw [h2] at z; cases z) hgd (by omega) (fun _ _ z => z) (fun h' u tk hk => ⟨.str pd.shown, H, I.kept hk, ⟨_, rfl⟩, fin⟩) (LN_line h3)
      | loc _ => cases hp
  · exact q.elim
end
end DV
/-! DV9: a def of the text as a callee; small words for the printed derivations. -/
namespace DV
open PySem PySem.Spec PyProof.Rows L2
/-- a def of the text, known by its name: it does what T says -/
def Cal (P : Program) (w : World) (K : PySem.W.Frag) (mg : Str → Option Value) (base : Heap) (nm : Str) (k : Nat) (ps : List Str) (T : List D → Sto → Res D) : Prop :=
  ∃ f fd, mg nm = some (.ref f) ∧ PySem.W.keepIn K (.ref f) = true ∧ Binds K fd ps [] ∧ FnOk P w K mg base (L2.CX P w) k f fd ps (spD K ps.length T)
section
variable {X : Cx} {W : WX} {a b c e o : Expr} {es : List Expr} {fa fb fc fo : EvE} {ga gb : AEnv → Sto → Res (List D)} {pos p p2 : Pos} {x : Str}
theorem d_cal {nm : Str} {k k' n : Nat} {ps : List Str} {T : List D → Sto → Res D} (G : Cal X.prog X.w X.K X.mg X.base nm k ps T) (hr : Room k' X.A) (hk : k ≤ k') (tk : Takes X W) (hg : Gl X nm) (ha : DA X W (e :: es) ga) (hdb : (nm == ("__debug__" : Str)) = false := by decide) (hn : ps.length = n := by rfl)
    (he : starEach (e :: es) X.env = (false, eval e X.env) :: starEach es X.env := by rfl) (hpl : (backTo pos (starEach es X.env)).any (·.1) = false := by rfl) : DE X W (.Call (.Name nm p) (e :: es) [] pos) (eCall n T ga) := by
  subst hn
  obtain ⟨f, fd, h1, h2, h3, h4⟩ := G
  exact d_call h4 (hr.mono hk) tk hg h1 h2 h3 ha hdb he hpl
theorem tkB : Takes X W0 := fun u s' ⟨_, _, _, _, _, _, _, _, _, _, _, _, _, _, _, _, w⟩ => w.elim
theorem un0 {k : Nat} {A : Around} (r : Room k A) : A.units < cLine := by have := r.un; omega
theorem un1 {k : Nat} {A : Around} (r : Room k A) : A.units + 1 < cLine := by have := r.un; omega
theorem un64 {k : Nat} {A : Around} (r : Room k A) : A.units + 64 < cLine := by have := r.un; omega
end
theorem cal_mk {P : Program} {w : World} {K : PySem.W.Frag} {mg : Str → Option Value} {base : Heap} {nm : Str} {st : Stmt} {f : Addr} {fd : FuncData} {N ps : List Str} {k : Nat} {body : EvS} (F : Fun K nm nm st f fd) (b : Binds K fd ps []) (m : mg nm = some (.ref f)) (Sc : FnScope N ps (defScope st))
    (h : ∀ (cdv : Value) (A : Around) (outer : List Env) (s : Shared) (H : Hp) (E : XK), Room k (A.deeper (envOfC nm (defScope st) s.heap.objs.size f cdv)) → Takes (cxOf (L2.CX P w) P w K mg base N nm (defScope st) f cdv A outer s H E) (WE0 E) →
      PassesOwn (model P w) (A.deeper (envOfC nm (defScope st) s.heap.objs.size f cdv)) (cxOf (L2.CX P w) P w K mg base N nm (defScope st) f cdv A outer s H E).env (cxOf (L2.CX P w) P w K mg base N nm (defScope st) f cdv A outer s H E).xe →
      DSs (cxOf (L2.CX P w) P w K mg base N nm (defScope st) f cdv A outer s H E) (WE0 E) (defBody st) body) : Cal P w K mg base nm (k + 1) ps (runD N.length body) :=
  ⟨f, fd, m, F.kp, b, fd_of F Sc fun cdv A outer s H E hr tk => h cdv A outer s H E hr tk (passes_of (X := cxOf (L2.CX P w) P w K mg base N nm (defScope st) f cdv A outer s H E) rfl)⟩
/-- the builtins and constants that the text uses -/
structure Bt (mg : Str → Option Value) : Prop where
  abs : mg "abs" = none
  isi : mg "isinstance" = none
  int : mg "int" = none
  bool : mg "bool" = none
  tuple : mg "tuple" = none
  len : mg "len" = none
  all : mg "all" = none
  sorted : mg "sorted" = none
  zip : mg "zip" = none
  dict : mg "dict" = none
  range : mg "range" = none
  max : mg "max" = none
  sum : mg "sum" = none
  list : mg "list" = none
  repr : mg "repr" = none
  str : mg "str" = none
/-- turns of a loop that makes the int in a slot smaller -/
def fuI (i : Nat) (env : AEnv) (_ : Sto) : Nat := match env[i]? with
  | some (some (.int n)) => n.natAbs + 2
  | _ => 0
theorem bt_int : bootBuiltins "int" = some (.type "int") := by rfl
theorem bt_bool : bootBuiltins "bool" = some (.type "bool") := by rfl
theorem bt_tuple : bootBuiltins "tuple" = some (.type "tuple") := by rfl
theorem bt_list : bootBuiltins "list" = some (.type "list") := by rfl
theorem bt_str : bootBuiltins "str" = some (.type "str") := by rfl
theorem bt_dict : bootBuiltins "dict" = some (.type "dict") := by rfl
theorem bt_abs : bootBuiltins "abs" = some (.builtin "abs") := by rfl
theorem bt_len : bootBuiltins "len" = some (.builtin "len") := by rfl
theorem bt_all : bootBuiltins "all" = some (.builtin "all") := by rfl
theorem bt_sorted : bootBuiltins "sorted" = some (.builtin "sorted") := by rfl
theorem bt_max : bootBuiltins "max" = some (.builtin "max") := by rfl
theorem bt_sum : bootBuiltins "sum" = some (.builtin "sum") := by rfl
theorem bt_repr : bootBuiltins "repr" = some (.builtin "repr") := by rfl
end DV
/-! DV10: a list backwards; the law's own run where the guards are known. -/
namespace DV
open PySem PySem.Spec PyProof.Rows L2
section
variable {X : Cx} {W : WX} {a b c e o : Expr} {es : List Expr} {fa fb fc fo : EvE} {ga gb : AEnv → Sto → Res (List D)} {pos p p2 p3 : Pos} {x : Str}
/-- a new list, the other way round: the step is 0 - 1, written so -/
theorem pe_back {t : TE} {k0 k1 : Nat} {q0 q1 q2 : Pos} (he : PE X e t) : PE X (.Subscript e (.Slice none none (some (.BinOp (.Constant (.int 0) k0 q0) .Sub (.Constant (.int 1) k1 q1) q2)) p3) pos) (tRevL X.K t) := by
  constructor
  intro pins s σ H Q inv h
  refine Subscript_ (thn (he.run pins s σ H _ inv h) ?_)
  rintro val sa ⟨x, Ha, invA, ra, aL, xs, rfl, hSq, fin⟩
  cases ra
  have pstep : PO X (some (.BinOp (.Constant (.int 0) k0 q0) .Sub (.Constant (.int 1) k1 q1) q2)) _ := po_some (pe_op op_sub pe_int pe_int)
  refine wpAny_Slice (thn (po_none.run pins sa σ Ha (fun w Hw => w = none ∧ Hw = Ha) invA ⟨rfl, rfl⟩) ?_)
  rintro lo sb ⟨_, _, invB, pLo, rfl, rfl⟩
  refine thn (po_none.run pins sb σ _ (fun w Hw => w = none ∧ Hw = _) invB ⟨rfl, rfl⟩) ?_
  rintro up sc ⟨_, _, invC, pUp, rfl, rfl⟩
  refine thn (pstep.run pins sc σ _ (fun w Hw => w = some (-1) ∧ Hw = _) invC ⟨0, 1, rfl, rfl, _, rfl, rfl, rfl⟩) ?_
  rintro st sd ⟨_, _, invD, pSt, rfl, rfl⟩
  have inv5 : Inv X pins σ _ { sd with heap := sd.heap.push { cls := .type "slice", data := .fields #[lo, up, st] } } := invD.kept (t' := sd.toks) fun _ _ q => Heap.get?_push_of_some _ q
  obtain ⟨its, rr, lst, small⟩ := inv5.list hSq
  have len := rr.length
  show wpAny (model X.prog X.w) X.A (subscriptTail e (.Slice none none (some (.BinOp (.Constant (.int 0) k0 q0) .Sub (.Constant (.int 1) k1 q1) q2)) p3) (.ref aL) (.ref sd.heap.objs.size)) _ _ _
  refine tail_any (ops := [.ref aL, .ref sd.heap.objs.size]) lst.isList.typeIs (PySem.slot_list_getitem.lookup) ?_ (by with_unfolding_all rfl)
  apply wpAny_getItem_list_slice lst.isList (Heap.IsSliceOf.new _ lo up st) pLo pUp pSt (by decide)
  · rw [PySem.W.krv_pick]
    exact ⟨.ref _, _, inv5.laid (t' := sd.toks) (o := .lst xs.reverse) (fun _ _ q => Heap.get?_push_of_some _ q) (Nat.le_refl _) ⟨by rw [List.length_reverse]; exact small, _, 0, rr.reverse, Heap.get?_push_size _ rfl⟩, rfl, fin _ (inv5.hok.fresh (Nat.le_refl _))⟩
@[simp] def lRev (fa : EvE) : AEnv → Sto → Res (List D) := fun env S => (fa env S).bind fun d S1 => ofL ((lstOf d S1).map List.reverse) S1
theorem dl_rev {k0 k1 : Nat} {q0 q1 q2 : Pos} (ha : DE X W a fa) : DL X W (.Subscript a (.Slice none none (some (.BinOp (.Constant (.int 0) k0 q0) .Sub (.Constant (.int 1) k1 q1) q2)) p3) pos) (lRev fa) :=
  dl_pe (pe_back ha.pe) fun s H Q ⟨r, env, S, R, q⟩ => by
    refine lift_map (g := fun d _ S1 => ofL ((lstOf d S1).map List.reverse) S1) R q fun d S1 r1 H1 x e1 R1 rx q1 => ?_
    cases hx : lstOf d S1 with
    | none => rw [hx] at q1; exact q1.elim
    | some xs =>
      rw [hx] at q1
      obtain ⟨a, vs, rfl, hs, qv⟩ := RV.lst rx R1.st hx
      exact ⟨a, vs, rfl, hs, fun p hp => new_lst (resP.ext anti_L q1 e1) (Ext.refl r1 H1) R1.st qv.reverse hp⟩
end
/-! ### the law's own run -/
/-- a def's body, entered from A: as the promise of a def, but A is known -/
theorem fn_here {P : Program} {w : World} {K : PySem.W.Frag} {mg : Str → Option Value} {base : Heap} {nm qual : Str} {st : Stmt} {f : Addr} {fd : FuncData} {N ps : List Str} {A : Around} {outer : List Env} {s : Shared} {H : Hp} {us : List Value} {vs : List V} {Q : VK} {E : XK}
    (F : Fun K nm qual st f fd) (Sc : FnScope N ps (defScope st)) (hh : A.handled = none) (hd : A.depth < recursionLimit) (e0 : Env0 P w K mg base A outer s H) (hb : BindsTo s fd ⟨us, []⟩ (ps.zip us)) (rv : Vals vs us) (hl : vs.length = ps.length)
    (body : ∀ cdv, ∃ t, PSs (cxOf (L2.CX P w) P w K mg base N qual (defScope st) f cdv A outer s H E) (defBody st) t ∧ t { nx := fun _ H' => Q .non H', rt := Q } (L2.start N vs) H) :
    codeAny (model P w) A (.call (.ref f) ⟨us, []⟩) (CR (L2.CX P w) outer P w H s Q E) s := by
  obtain ⟨oc, od, kV, doc, pm, an, cdv, ct, osl, rfl, lk, hcd⟩ := F.ex
  have inK : K.In s.heap := e0.mod.kin.keeps fun b o e => (e0.bs b o e).1
  have noL : s.heap.NoLimit := e0.mod.nolimit.keeps fun b o e => (e0.bs b o e).1
  obtain ⟨t, ht, hq⟩ := body cdv
  refine Att.call_fn inK noL lk hcd hd hb ?_ (fun s₁ icc => ?_) Sc.co Sc.gen Sc.kind
  · rw [List.all_eq_true]
    rintro ⟨y, u⟩ hy
    rcases Sc.par y (List.of_mem_zip hy).1 with q | q
    · rw [q]; rfl
    · rw [q]; rfl
  · have inv : Inv (cxOf (L2.CX P w) P w K mg base N qual (defScope st) f cdv A outer s H E) [] (L2.start N vs) H s₁ := inv_start Sc hh e0 hl rv icc
    refine wpAny_mono (ht.run [] s₁ (L2.start N vs) H _ inv hq) (fun fl s' z => ?_) fun _ _ z => z
    cases fl with
    | next =>
      obtain ⟨σ', H', J, q⟩ := z
      exact ⟨V.non, H', J.os, J.bare, J.base, J.hok, rfl, q⟩
    | ret u =>
      obtain ⟨v, σ', H', J, ru, q⟩ := z
      exact ⟨v, H', J.os, J.bare, J.base, J.hok, ru, q⟩
    | brk => obtain ⟨_, _, _, q⟩ := z; exact q.elim
    | cont => obtain ⟨_, _, _, q⟩ := z; exact q.elim
/-- the heap that knows the script alone -/
def HScript (K : PySem.W.Frag) (a : Addr) (o : Obj) (xs : List V) : Hp := fun b => if b = a ∧ K.lookup a = none then some (.frz o (.lst xs)) else none
theorem HScript.some {K : PySem.W.Frag} {a b : Addr} {o : Obj} {xs : List V} {u : HO} (h : HScript K a o xs b = some u) : b = a ∧ K.lookup a = none ∧ u = .frz o (.lst xs) := by
  unfold HScript at h
  split at h
  · rename_i q; exact ⟨q.1, q.2, (Option.some.inj h).symm⟩
  · cases h
theorem HScript.none_of {K : PySem.W.Frag} {a b : Addr} {o : Obj} {xs : List V} (h : b = a → K.lookup a = none → False) : HScript K a o xs b = none := by
  unfold HScript
  rw [if_neg fun q => h q.1 q.2]
theorem law_here {P : Program} {w : World} {K : PySem.W.Frag} {mg mb : Str → Option Value} {fa a : Addr} {fd : FuncData} {x nm qual : Str} {st : Stmt} {N : List Str} {s₁ : Shared} {vs : List Value} {ns : List Int}
    (inK : K.In s₁.heap) (gl : s₁.heap.Ns mainGlobals mg) (bn : s₁.heap.Ns builtinsNs mb) (bb : ∀ x : Str, x ≠ "__name__" → mb x = bootBuiltins x) (noL : s₁.heap.NoLimit) (gn : s₁.gens = #[])
    (ga : s₁.heap.get? a = some { cls := .type "list", data := .seq vs.toArray }) (ia : IntsAre vs ns) (hl : ns.length ≤ sizeLine) (F : Fun K nm qual st fa fd) (Sc : FnScope N [x] (defScope st)) (hb : ∀ (s : Shared) (u : Value), BindsTo s fd ⟨[u], []⟩ [(x, u)])
    (body : ∀ base : Heap, K.In base → base.Ns mainGlobals mg → ∀ (H : Hp) (cdv : Value), (∀ b, H b = none ∨ ∃ o xs, H b = some (.frz o (.lst xs))) → SqL K H a (ns.map V.int) →
      ∃ t, PSs (cxOf (L2.CX P w) P w K mg base N qual (defScope st) fa cdv callerA [] s₁ H fun _ _ _ => False) (defBody st) t ∧ t { nx := fun _ _ => V.non = .bl true, rt := fun v _ => v = .bl true } (L2.start N [.ref a]) H) :
    codeAny (model P w) callerA (.call (.ref fa) ⟨[.ref a], []⟩) (fun r s' => r = .ok (.ret (.bool true)) ∧ OldK s₁.heap s'.heap ∧ s'.os = s₁.os ∧ AllBare s'.gens) s₁ := by
  generalize hH : HScript K a { cls := .type "list", data := .seq vs.toArray } (ns.map V.int) = H
  have ho : ∀ {b u}, H b = some u → b = a ∧ K.lookup a = none ∧ u = .frz { cls := .type "list", data := .seq vs.toArray } (.lst (ns.map V.int)) := fun {b u} e => HScript.some (by rw [hH]; exact e)
  have hn : ∀ {b}, (b = a → K.lookup a = none → False) → H b = none := fun {b} e => by rw [← hH]; exact HScript.none_of e
  have sz : (ns.map V.int).length ≤ sizeLine := by rw [List.length_map]; exact hl
  have rel := vals_ints ia
  have only : ∀ b, H b = none ∨ ∃ o xs, H b = some (.frz o (.lst xs)) := fun b => by
    cases q : H b with
    | none => exact .inl rfl
    | some u => obtain ⟨_, _, rfl⟩ := ho q; exact .inr ⟨_, _, rfl⟩
  have sq : SqL K H a (ns.map V.int) := by
    cases hk : K.lookup a with
    | none => exact .inl (.inr ⟨{ cls := .type "list", data := .seq vs.toArray }, by rw [← hH]; exact if_pos ⟨rfl, hk⟩⟩)
    | some o =>
      have e := inK a o hk
      rw [ga] at e; cases e
      exact .inr ⟨_, vs.toArray, _, hk, rfl, rfl, rfl, by rw [List.size_toArray]; have := ia.length; omega, by simpa using rel⟩
  have hok : HOk P w H s₁.heap := fun b u e => by
    obtain ⟨rfl, _, rfl⟩ := ho e
    exact ⟨ga, sz, vs, _, rel, ga⟩
  have stays : ∀ {b : Addr} {m : Str → Option Value}, s₁.heap.Ns b m → (hidT s₁.heap H).Ns b m := fun {b m} ⟨o, es, ep, e, d, r⟩ => ⟨o, es, ep, hidT_get e (hn fun z _ => by
    subst z; rw [ga] at e; cases e; cases d), d, r⟩
  have kb : K.In (hidT s₁.heap H) := fun b o e => hidT_get (inK b o e) (hn fun z q => by subst z; rw [q] at e; cases e)
  have md : Mod K mg (hidT s₁.heap H) := ⟨kb, stays gl, ⟨mb, stays bn, bb⟩, let ⟨mc, h1, h2⟩ := noL; ⟨mc, stays h1, h2⟩⟩
  have e0 : Env0 P w K mg (hidT s₁.heap H) callerA [] s₁ H := ⟨rfl, md, fun b o e => of_hidT e, Nat.le_of_eq (hidT_size _ _), trivial, fun b q => (nomatch q), hok, .of_eq gn⟩
  refine codeAny_mono (fn_here (us := [.ref a]) (vs := [.ref a]) (Q := fun v _ => v = .bl true) (E := fun _ _ _ => False) F Sc rfl (by decide) e0 (hb s₁ (.ref a)) (.cons rfl .nil) rfl fun cdv => ?_) fun r s' z => ?_
  · obtain ⟨t, t1, t2⟩ := body _ kb (stays gl) H cdv only sq
    exact ⟨t, t1, t2⟩
  · cases r with
    | error e => obtain ⟨_, _, _, _, _, _, _, _, _, _, _, _, no⟩ := z; exact no.elim
    | ok fl =>
      cases fl with
      | ret u =>
        obtain ⟨v, H', os, bare, un, ok', ru, q⟩ := z
        cases q
        cases ru
        refine ⟨rfl, OldK.of_keep fun b o e => ?_, os, bare⟩
        cases q : H b with
        | none => exact un.keep b o e q (fun z => nomatch z) (fun z => nomatch z)
        | some u =>
          obtain ⟨rfl, _, rfl⟩ := ho q
          rw [ga] at e; cases e
          exact (ok' _ _ (un.frzs _ _ _ q)).1
      | next => exact z.elim
      | brk => exact z.elim
      | cont => exact z.elim
end DV
/-! EV: what the operations give, for simp. -/
namespace DV
open PySem PySem.Spec PyProof.Rows L2
section
variable {i j : Int} {ds es : List D} {S : Sto} {n : Nat}
@[simp] theorem LN_eq : LN = 16777216 := rfl
@[simp] theorem seq_tup : (D.tup ds).seq? = some ds := rfl
@[simp] theorem seq_cst : (D.cst ds).seq? = some ds := rfl
@[simp] theorem seq_fup : (D.fup ds).seq? = some ds := rfl
@[simp] theorem oAdd_int : oAdd (.int i) (.int j) = some (.int (i + j)) := rfl
@[simp] theorem oSub_int : oSub (.int i) (.int j) = some (.int (i - j)) := rfl
@[simp] theorem oMul_int : oMul (.int i) (.int j) = if i.natAbs.log2 + j.natAbs.log2 < 1000000 then some (.int (i * j)) else none := rfl
@[simp] theorem oDiv_int : oDiv (.int i) (.int j) = if 0 < j ∧ j.natAbs.log2 < 9000 then some (.int (i / j)) else none := rfl
@[simp] theorem oMod_int : oMod (.int i) (.int j) = if 0 < j then some (.int (i % j)) else none := rfl
@[simp] theorem oNeg_int : oNeg (.int i) = some (.int (-i)) := rfl
@[simp] theorem oPow_int : oPow (.int i) (.int j) = if 0 ≤ j ∧ j ≤ 1000000 ∧ i.natAbs < 2 ^ 64 then some (.int (i ^ j.toNat)) else none := rfl
@[simp] theorem cEq_int : cEq (.int i) (.int j) = some (decide (i = j)) := rfl
@[simp] theorem cEq_str {x y : Str} : cEq (.str x) (.str y) = some (decide (x = y)) := rfl
@[simp] theorem cLt_int : cLt (.int i) (.int j) = some (decide (i < j)) := rfl
@[simp] theorem cLe_int : cLe (.int i) (.int j) = some (decide (i ≤ j)) := rfl
@[simp] theorem cGt_int : cGt (.int i) (.int j) = some (decide (j < i)) := rfl
@[simp] theorem cGe_int : cGe (.int i) (.int j) = some (decide (j ≤ i)) := rfl
@[simp] theorem gAbs_int : gAbs [.int i] S = some (.int (if i < 0 then -i else i)) := rfl
@[simp] theorem gInt_int : gInt [.int i] S = some (.int i) := rfl
@[simp] theorem gMax2_int : gMax2 [.int i, .int j] S = some (.int (if j > i then j else i)) := rfl
@[simp] theorem gTup_some : gTup ds = some (.tup ds) := rfl
@[simp] theorem gFup_some : gFup ds = some (.fup ds) := rfl
@[simp] theorem gLen_some : gLen ds = some (.int ds.length) := rfl
theorem atI_nat' {α : Type} {xs : List α} {k : Int} (h : 0 ≤ k) : atI xs k = xs[k.toNat]? := by
  obtain ⟨n, rfl⟩ := Int.eq_ofNat_of_zero_le h
  unfold atI ixN
  rw [if_pos (by omega)]
  simp only [Int.toNat_natCast]
  by_cases hl : n < xs.length
  · rw [if_pos (by omega)]; rfl
  · rw [if_neg (by omega)]
    rw [List.getElem?_eq_none (by omega)]; rfl
@[simp] theorem atI_0 {α : Type} {xs : List α} : atI xs 0 = xs[0]? := atI_nat' (by decide)
@[simp] theorem atI_1 {α : Type} {xs : List α} : atI xs 1 = xs[1]? := atI_nat' (by decide)
@[simp] theorem atI_2 {α : Type} {xs : List α} : atI xs 2 = xs[2]? := atI_nat' (by decide)
@[simp] theorem atI_3 {α : Type} {xs : List α} : atI xs 3 = xs[3]? := atI_nat' (by decide)
@[simp] theorem atI_n {α : Type} {xs : List α} {k : Nat} : atI xs (k : Int) = xs[k]? := by rw [atI_nat' (by omega)]; simp
theorem ix_seq {d : D} {xs : List D} {k : Int} (h : d.seq? = some xs) : ixD d (.int k) S = atI xs k := by
  cases d <;> simp [D.seq?] at h <;> subst h <;> rfl
@[simp] theorem ix_tup {k : Int} : ixD (.tup ds) (.int k) S = atI ds k := rfl
@[simp] theorem ix_cst {k : Int} : ixD (.cst ds) (.int k) S = atI ds k := rfl
@[simp] theorem ix_fup {k : Int} : ixD (.fup ds) (.int k) S = atI ds k := rfl
theorem ix_loc {k : Int} {xs : List D} (h : S[n]? = some (.lst xs)) : ixD (.loc n) (.int k) S = atI xs k := by simp [ixD, h]
@[simp] theorem run_def {k : Nat} {b : EvS} {ds : List D} {S : Sto} : runD k b ds S = match b (startA k ds) S with
  | .nx _ S' => .ok .non S'
  | .ret d S' => .ok d S'
  | .exc c _ S' => .exc c S'
  | _ => .bad := rfl
@[simp] theorem start_def {k : Nat} {ds : List D} : startA k ds = ds.map some ++ List.replicate (k - ds.length) none := rfl
end
end DV
/-! DW1: enumerate of a tuple. -/
namespace DV
open PySem PySem.Spec PyProof.Rows L2
section
variable {prog : Program} {w : World} {A : Around} {E : Value → Shared → Prop} {s : Shared}
/-- a step of enumerate over a tuple: the pair is laid at the next place -/
theorem enumT_step {en jt tp : Addr} {n : Nat} {xs : Array Value} {u old : Value} {Q : Value → Shared → Prop} (he : IsEnum s.heap en jt n old) (hj : s.heap.IsTupleIter jt tp n) (ht : s.heap.IsTuple tp xs) (hu : xs[n]? = some u) (ap : en ≠ jt)
    (fin : ∀ h', IsEnumOut h' en jt ((n : Int) + 1) u s.heap.objs.size → h'.IsTupleIter jt tp (n + 1) → h'.get? s.heap.objs.size = some { cls := .type "tuple", data := .seq #[.int n s.toks, u] } →
      (∀ b o, b ≠ en → b ≠ jt → s.heap.get? b = some o → h'.get? b = some o) → Q (.ref s.heap.objs.size) { s with heap := h', toks := s.toks + 1 }) :
    wpAny (model prog w) A (Builtin.«enumerate.__next__» ⟨[.ref en], []⟩) (fun r s' => ∃ v, r = .done (.ret v) ∧ Q v s') E s := by
  obtain ⟨hp, gg, dd, tk, oo⟩ := s
  have below : en < hp.objs.size := Heap.lt_size he
  show wpAny _ _ (field (.ref en) 2 >>= fun it => _) _ _ _
  apply wpAny_bind
  apply wpAny_field he rfl (x := .ref jt) rfl
  apply wpAny_bind
  apply RZ.nextOf_tuple_item hj ht hu
  intro k1 hj1 sb1
  have sb1' : Heap.SameBut jt hp k1 := sb1
  have en1 : IsEnum k1 en jt n old := (sb1'.2 en ap).trans he
  show wpAny _ _ (field (.ref en) 3 >>= fun cnt => _) _ _ ⟨k1, gg, dd, tk, oo⟩
  apply wpAny_bind
  apply wpAny_field en1 rfl (x := rawInt n) rfl
  show wpAny _ _ (field (.ref en) 4 >>= fun stp => _) _ _ ⟨k1, gg, dd, tk, oo⟩
  apply wpAny_bind
  apply wpAny_field en1 rfl (x := .none) rfl
  show wpAny _ _ (mkInt n >>= fun num => _) _ _ ⟨k1, gg, dd, tk, oo⟩
  apply wpAny_bind
  apply wpAny_mkInt
  show wpAny _ _ (setField (.ref en) 3 (rawInt ((n : Int) + 1)) >>= fun _ => _) _ _ ⟨k1, gg, dd, tk + 1, oo⟩
  apply wpAny_bind
  refine wpAny_setField_rec en1 (by simp) fun k2 en2 sb2 => ?_
  have sb2' : Heap.SameBut en k1 k2 := sb2
  have en2' : IsEnum k2 en jt ((n : Int) + 1) old := en2
  show wpAny _ _ (setField (.ref en) 4 .none >>= fun _ => _) _ _ ⟨k2, gg, dd, tk + 1, oo⟩
  apply wpAny_bind
  refine wpAny_setField_rec en2' (by simp) fun k3 en3 sb3 => ?_
  have sb3' : Heap.SameBut en k2 k3 := sb3
  have en3' : IsEnum k3 en jt ((n : Int) + 1) old := en3
  have size3 : k3.objs.size = hp.objs.size := by rw [sb3'.1, sb2'.1, sb1'.1]
  show wpAny _ _ (newTuple [.int n tk, u] >>= fun made => _) _ _ ⟨k3, gg, dd, tk + 1, oo⟩
  apply wpAny_bind
  refine wpAny_newTuple ?_
  obtain ⟨k4, hk4⟩ : ∃ k, k = k3.push { cls := .type "tuple", data := .seq #[.int n tk, u] } := ⟨_, rfl⟩
  have en4 : IsEnum k4 en jt ((n : Int) + 1) old := by rw [hk4]; exact Heap.get?_push_of_some _ en3'
  have tup4 : k4.get? hp.objs.size = some { cls := .type "tuple", data := .seq #[.int n tk, u] } := by
    rw [hk4, ← size3]; exact Heap.get?_push_size _ rfl
  have old4 : ∀ b o, b ≠ en → b ≠ jt → hp.get? b = some o → k4.get? b = some o := fun b o n1 n2 q => by
    rw [hk4]
    exact Heap.get?_push_of_some _ (sb3'.extBut b o n1 (sb2'.extBut b o n1 (sb1'.extBut b o n2 q)))
  have jt4 : k4.IsTupleIter jt tp (n + 1) := by
    obtain ⟨o, ho, rest⟩ := (hj1.extBut sb2'.extBut ap.symm).extBut sb3'.extBut ap.symm
    exact ⟨o, by rw [hk4]; exact Heap.get?_push_of_some _ ho, rest⟩
  show wpAny _ _ (Builtin.SmallTypes.ownedTupleIsFree (.ref en) >>= fun free => _) _ _ ⟨k3.push { cls := .type "tuple", data := .seq #[.int n tk, u] }, gg, dd, tk + 1, oo⟩
  rw [← hk4, size3]
  apply wpAny_bind
  unfold Builtin.SmallTypes.ownedTupleIsFree
  apply wpAny_bind
  apply wpAny_field en4 rfl (x := .none) rfl
  apply wpAny_pure
  rw [if_pos rfl]
  apply wpAny_bind
  apply wpAny_rule
  apply wpAny_bind
  apply wpAny_field en4 rfl (x := old) rfl
  apply wpAny_bind
  refine wpAny_setField_rec en4 (by simp) fun k5 en5 sb5 => ?_
  have sb5' : Heap.SameBut en k4 k5 := sb5
  have en5' : IsEnum k5 en jt ((n : Int) + 1) u := en5
  show wpAny _ _ (Builtin.SmallTypes.ownedTupleHandOut (.ref en) (.ref hp.objs.size) >>= fun _ => _) _ _ ⟨k5, gg, dd, tk + 1, oo⟩
  apply wpAny_bind
  unfold Builtin.SmallTypes.ownedTupleHandOut
  apply wpAny_bind
  refine wpAny_setField_rec en5' (by simp) fun k6 en6 sb6 => ?_
  have sb6' : Heap.SameBut en k5 k6 := sb6
  have en6' : IsEnumOut k6 en jt ((n : Int) + 1) u hp.objs.size := en6
  refine wpAny_setField_rec en6' (by simp) fun k7 en7 sb7 => ?_
  have sb7' : Heap.SameBut en k6 k7 := sb7
  have far : hp.objs.size ≠ en := Nat.ne_of_gt below
  apply wpAny_bind
  apply wpAny_letGo
  apply wpAny_pure
  refine ⟨_, rfl, fin k7 en7 (((jt4.extBut sb5'.extBut ap.symm).extBut sb6'.extBut ap.symm).extBut sb7'.extBut ap.symm) ?_ fun b o n1 n2 q => ?_⟩
  · exact sb7'.extBut _ _ far (sb6'.extBut _ _ far (sb5'.extBut _ _ far tup4))
  · exact sb7'.extBut b o n1 (sb6'.extBut b o n1 (sb5'.extBut b o n1 (old4 b o n1 n2 q)))
theorem enumT_item {en jt tp : Addr} {n : Nat} {xs : Array Value} {u old : Value} {Q : Option Value → Shared → Prop} (he : IsEnum s.heap en jt n old) (hj : s.heap.IsTupleIter jt tp n) (ht : s.heap.IsTuple tp xs) (hu : xs[n]? = some u) (ap : en ≠ jt)
    (fin : ∀ h', IsEnumOut h' en jt ((n : Int) + 1) u s.heap.objs.size → h'.IsTupleIter jt tp (n + 1) → h'.get? s.heap.objs.size = some { cls := .type "tuple", data := .seq #[.int n s.toks, u] } →
      (∀ b o, b ≠ en → b ≠ jt → s.heap.get? b = some o → h'.get? b = some o) → Q (some (.ref s.heap.objs.size)) { s with heap := h', toks := s.toks + 1 }) : wpAny (model prog w) A (pyNext (.ref en)) Q E s := by
  have ty : s.TypeIs (.ref en) "enumerate" := ⟨_, he, rfl⟩
  unfold pyNext
  apply wpAny_bind
  apply wpAny_attempt
  refine wpAny_callSpecial?_slot (name := Str.ofString "__next__") ty F.slot_enumerate_next ?_
  exact wpAny_call_entry F.slot_enumerate_next ty F.entry_enumerate_next (enumT_step he hj ht hu ap fun h' a b c d => wpAny_pure (fin h' a b c d)) (F.args_enumerate_next_1 _)
theorem enumT_end {en jt tp : Addr} {n : Nat} {xs : Array Value} {old : Value} {Q : Option Value → Shared → Prop} (hh : A.handled = none) (he : IsEnum s.heap en jt n old) (hj : s.heap.IsTupleIter jt tp n) (ht : s.heap.IsTuple tp xs) (hu : xs[n]? = none)
    (fin : ∀ h', Heap.ExtBut jt s.heap h' → Q none { s with heap := h' }) : wpAny (model prog w) A (pyNext (.ref en)) Q E s := by
  have ty : s.TypeIs (.ref en) "enumerate" := ⟨_, he, rfl⟩
  unfold pyNext
  apply wpAny_bind
  apply wpAny_attempt
  refine wpAny_callSpecial?_slot (name := Str.ofString "__next__") ty F.slot_enumerate_next ?_
  refine wpAny_call_entry F.slot_enumerate_next ty F.entry_enumerate_next ?_ (F.args_enumerate_next_1 _)
  show wpAny _ _ (field (.ref en) 2 >>= fun it => _) _ _ _
  apply wpAny_bind
  apply wpAny_field he rfl (x := .ref jt) rfl
  apply wpAny_bind
  refine RZ.nextOf_tuple_end hh hj ht hu fun k ex grown isx => ?_
  obtain ⟨ob, g1, g2⟩ := isx
  apply wpAny_bind
  refine wpAny_isInstance (T := "StopIteration") (b := true) ⟨ob, g1, g2⟩ isSubtype_stop ?_
  exact wpAny_pure (fin _ grown)
end
end DV
/-! DW2: for k, x in enumerate(a tuple). -/
namespace DV
open PySem PySem.Spec PyProof.Rows L2
open AutoSeq1 (wpAny_loadPart')
theorem enumT_new (tp : Addr) (xs : Array Value) : Meets (Builtin.«enumerate.__new__» ⟨[.type "enumerate", .ref tp], []⟩) (fun _ R s => s.heap.IsTuple tp xs ∧
      R (.ok (.ret (.ref (s.heap.push { cls := .type "tuple_iterator", data := .fields #[.ref tp, .int 0 0] }).objs.size)))
        { s with heap := (s.heap.push { cls := .type "tuple_iterator", data := .fields #[.ref tp, .int 0 0] }).push { cls := .type "enumerate", data := .fields #[.none, .bool false, .ref s.heap.objs.size, rawInt 0, .none, .none] } }) :=
  .of_wp fun prog w A R s h => by
    obtain ⟨hp, gg, dd, tk, oo⟩ := s
    obtain ⟨ht, hR⟩ := h
    have subE := sub_enumerate
    have isT : Heap.IsTuple (Shared.heap ⟨hp, gg, dd, tk, oo⟩) tp xs := ht
    wp_walk
    refine wpAny_stack_any fun st => wpAny_pure ?_
    split
    · rename_i c _ _ _ _ _
      cases (c == Value.type "enumerate") <;> (wp_walk using wpAny_pyIter_tuple isT) <;> exact ⟨_, rfl, hR⟩
    · wp_walk using wpAny_pyIter_tuple isT
      exact ⟨_, rfl, hR⟩
section
variable {prog : Program} {w : World} {A : Around} {E : Value → Shared → Prop} {s : Shared}
theorem call_enumT {tp : Addr} {xs : Array Value} {Q : Value → Shared → Prop} (ht : s.heap.IsTuple tp xs)
    (fin : ∀ h', IsEnum h' (s.heap.objs.size + 1) s.heap.objs.size 0 .none → h'.IsTupleIter s.heap.objs.size tp 0 → (∀ b o, s.heap.get? b = some o → h'.get? b = some o) → Q (.ref (s.heap.objs.size + 1)) { s with heap := h' }) :
    wpAny (model prog w) A (call (.type "enumerate") [.ref tp]) Q E s := by
  refine callType_new F.called_enumerate (by decide) (F.typeCall_enumerate_1 _) (F.newCall_enumerate_1 _) (fun obj => F.args_object_init_2 obj _) F.entry_enumerate_new (enumT_new tp xs) ⟨ht, ?_⟩
  have one : (s.heap.push { cls := .type "tuple_iterator", data := .fields #[.ref tp, .int 0 0] }).objs.size = s.heap.objs.size + 1 := Heap.size_push ..
  show _ ∧ _
  have laid := Heap.get?_push_size (s.heap.push { cls := .type "tuple_iterator", data := .fields #[.ref tp, .int 0 0] }) (o := { cls := .type "enumerate", data := .fields #[.none, .bool false, .ref s.heap.objs.size, rawInt 0, .none, .none] }) rfl
  rw [one] at laid ⊢
  exact ⟨⟨_, laid, rfl⟩, fin _ laid ⟨_, Heap.get?_push_of_some _ (Heap.get?_push_size _ rfl), rfl, rfl⟩ fun b o q => Heap.get?_push_of_some _ (Heap.get?_push_of_some _ q)⟩
end
/-- the tuple at a, each item in a new pair with its place -/
def IteT (K : PySem.W.Frag) (a : Addr) : It :=
  ⟨fun i H => ∃ (xs : List V) (x : V), SqT K H a xs ∧ xs[i]? = some x, fun i H v H' => ∃ T x, v = .ref T ∧ H T = none ∧ H' = upd H T (.tup [.int (i : Nat), x]) ∧ ∀ xs, SqT K H a xs → xs[i]? = some x, fun i H => ∃ xs : List V, SqT K H a xs ∧ xs.length ≤ i⟩
theorem turn_enumT {P : Program} {w : World} {K : PySem.W.Frag} {elts : List Expr} {kk : Nat} {tpos : Pos} (a en jt : Addr) :
    Turn P w K (.Tuple elts kk tpos) (IteT K a) [en, jt] en (fun i h => (∃ old, IsEnum h en jt ((i : Nat) : Int) old) ∧ h.IsTupleIter jt a i ∧ en ≠ jt) where
  mem := List.mem_cons_self
  obj := by
    rintro i h ⟨⟨old, q1⟩, ⟨ob, q2, _, q3⟩, _⟩ b hb
    rcases List.mem_cons.mp hb with rfl | hb
    · exact ⟨_, q1, fun v z => nomatch z⟩
    · rcases List.mem_cons.mp hb with rfl | hb
      · exact ⟨ob, q2, fun v z => by rw [q3] at z; cases z⟩
      · cases hb
  keep := by
    rintro i h h' ⟨⟨old, q1⟩, q2, q3⟩ k
    exact ⟨⟨old, k en List.mem_cons_self _ q1⟩, q2.at fun o z => k jt (List.mem_cons_of_mem _ List.mem_cons_self) o z, q3⟩
  item := by
    intro X e1 e2 e3 calm i pins s σ H E inv free st go
    subst e1 e2 e3
    obtain ⟨⟨old, q1⟩, q2, ap⟩ := st
    obtain ⟨xs, x, sq, hx⟩ := go
    obtain ⟨its, rel, isT, _⟩ := inv.tuple sq
    obtain ⟨u, hu, ru⟩ := rel.get hx
    have le : en < s.heap.objs.size := Heap.lt_size q1
    have lj : jt < s.heap.objs.size := by obtain ⟨_, z, _⟩ := q2; exact Heap.lt_size z
    refine enumT_item q1 q2 isT (u := u) (by simpa using hu) ap fun h1 out jt1 tup1 old1 => ?_
    refine ⟨_, rfl, wpAny_letOwnedTupleGo_enum (s := { s with heap := h1, toks := s.toks + 1 }) out fun h2 en2 sb => ?_⟩
    have tup2 : h2.get? s.heap.objs.size = some { cls := .type "tuple", data := .seq #[.int i s.toks, u] } := (sb.2 _ (Nat.ne_of_gt le)).trans tup1
    have fresh : ObjOk X.prog X.w (upd H s.heap.objs.size (.tup [.int (i : Nat), x])) h2 s.heap.objs.size (.tup [.int (i : Nat), x]) :=
      ⟨(show 2 ≤ sizeLine by decide), [.int i s.toks, u], .cons ⟨_, rfl⟩ (.cons ru .nil), ⟨_, tup2, rfl, _, rfl⟩⟩
    have stay : ∀ b o, b ∉ [en, jt] → s.heap.get? b = some o → h2.get? b = some o := fun b o nb z => by
      have n1 : b ≠ en := fun e => nb (by rw [e]; exact List.mem_cons_self)
      have n2 : b ≠ jt := fun e => nb (by rw [e]; exact List.mem_cons_of_mem _ List.mem_cons_self)
      exact (sb.2 b n1).trans (old1 b o n1 n2 z)
    have inv2 : Inv X pins σ (upd H s.heap.objs.size (.tup [.int (i : Nat), x])) { s with heap := h2, toks := s.toks + 1 } := inv.turnedNew (ch := [en, jt]) stay free (Nat.le_refl _) fresh
    refine ⟨.ref s.heap.objs.size, _, inv2, rfl, ⟨_, x, rfl, inv.hok.fresh (Nat.le_refl _), rfl, fun ys hy => by rw [inv.tuple_inj hy sq]; exact hx⟩, ⟨⟨u, ?_⟩, jt1.at fun o z => (sb.2 jt ap.symm).trans z, ap⟩, fun b hb => ?_⟩
    · rw [show ((i + 1 : Nat) : Int) = (i : Int) + 1 by omega]; exact en2
    · have lb : b < s.heap.objs.size := by
        rcases List.mem_cons.mp hb with rfl | hb
        · exact le
        · rcases List.mem_cons.mp hb with rfl | hb
          · exact lj
          · cases hb
      rw [upd_ne (Nat.ne_of_lt lb)]
      exact (free b hb).1
  done := by
    intro X e1 e2 e3 calm i pins s σ H E inv free st stop
    subst e1 e2 e3
    obtain ⟨⟨old, q1⟩, q2, ap⟩ := st
    obtain ⟨xs, sq, hx⟩ := stop
    obtain ⟨its, rel, isT, _⟩ := inv.tuple sq
    obtain ⟨f0, f1, f2, f3, f4, f5⟩ := free jt (List.mem_cons_of_mem _ List.mem_cons_self)
    have len := rel.length
    exact enumT_end (inv.ok.hd calm) q1 q2 isT (by simp; omega) fun h' grown => ⟨rfl, inv.turned (t' := s.toks) (fun b o hb z => grown b o hb z) f0 f1 f3 f4 f5⟩
  self := fun A i s Q E st h => wpAny_pyIter_enum st.1.choose_spec h
def iEnumT (K : PySem.W.Frag) (ta : TA) : TI := fun σ H R => ta σ H fun vs H1 => ∃ a xs, vs = [.ref a] ∧ SqT K H1 a xs ∧ R (IteT K a) H1
theorem pi_enumT {X : Cx} {e : Expr} {ta : TA} {p pos tpos : Pos} {elts : List Expr} {kk : Nat} (hg : Gl X "enumerate") (hm : X.mg "enumerate" = none) (ha : PA X [e] ta) (hs : starEach [e] X.env = [(false, eval e X.env)] := by rfl) :
    PI X (.Tuple elts kk tpos) (.Call (.Name "enumerate" p) [e] [] pos) (iEnumT X.K ta) := by
  constructor
  intro pins s σ H R inv h
  refine Call_ (ld_blt inv hg hm boot_enumerate (PyProof.Rows.callWith_type1 (thn (ha.run pos pins s σ H _ inv h) ?_) hs rfl))
  rintro us s1 ⟨vs, H1, inv1, rel, a, xs, rfl, sq, q⟩
  cases rel with
  | cons r rr =>
    cases rr
    cases r
    obtain ⟨its, rv, isT, _⟩ := inv1.tuple sq
    refine call_enumT (show s1.heap.IsTuple a its.toArray from isT) fun h' en jt keep => wpAny_pyIter_enum en ?_
    have inv2 : Inv X pins σ H1 { s1 with heap := h' } := inv1.kept (t' := s1.toks) keep
    refine ⟨s1.heap.objs.size + 1, [s1.heap.objs.size + 1, s1.heap.objs.size], _, _, H1, rfl, inv2, turn_enumT a (s1.heap.objs.size + 1) s1.heap.objs.size, ⟨⟨.none, en⟩, jt, Nat.succ_ne_self _⟩, fun b hb => ?_, q⟩
    have above : s1.heap.objs.size ≤ b := by
      rcases List.mem_cons.mp hb with rfl | hb
      · exact Nat.le_succ _
      · rcases List.mem_cons.mp hb with rfl | hb
        · exact Nat.le_refl _
        · cases hb
    exact inv1.fpOk above (inv1.hok.fresh above)
end DV
/-! DW3: walks over named lists (they must stay as they are), enumerate, zip. -/
namespace DV
open PySem PySem.Spec PyProof.Rows L2
/-- these objects of the store stand so -/
def Cw (ws : List (Nat × MO)) (S : Sto) : Prop := ∀ p ∈ ws, S[p.1]? = some p.2
theorem Cw.nil (S : Sto) : Cw [] S := fun _ h => by cases h
theorem Cw.one {n : Nat} {o : MO} {S : Sto} : Cw [(n, o)] S ↔ S[n]? = some o := ⟨fun h => h _ List.mem_cons_self, fun h p hp => by
  rcases List.mem_cons.mp hp with rfl | hp
  · exact h
  · cases hp⟩
abbrev Wt := List (Nat × MO)
def Yw (K : PySem.W.Frag) (J : It) (ds : List D) (ws : Wt) (r0 : List Addr) (H0 : Hp) : Prop := ∀ r H, Ext r0 H0 r H → ∀ S, RSt K r H S → Cw ws S → ∀ i,
  (∀ d, ds[i]? = some d → J.go i H ∧ ∀ v H', J.yld i H v H' → Ext r H r H' ∧ RSt K r H' S ∧ RV K r H' d v) ∧ (ds.length ≤ i → J.stop i H)
def liftIw (K : PySem.W.Frag) (W : WX) (it : AEnv → Sto → Res (List D × Wt)) : TI := fun t H R => ∃ r env S, RA K r H t env S ∧ match it env S with
  | .ok p S' => ∀ r' H' J, Ext r H r' H' → RSt K r' H' S' → Yw K J p.1 p.2 r' H' → R J H'
  | .exc c S' => ∀ r' H' cls dx, Ext r H r' H' → RSt K r' H' S' → RX K r' H' c cls dx → W cls dx t H'
  | .bad => False
structure DIw (X : Cx) (W : WX) (tg iter : Expr) (it : AEnv → Sto → Res (List D × Wt)) : Prop where
  pi : PI X tg iter (liftIw X.K W it)
theorem lift_iw {α β : Type} {K : PySem.W.Frag} {W : WX} {r : List Addr} {H : Hp} {t : L2.St} {env : AEnv} {S : Sto} {RR : Rel α β} {fx : AEnv → Sto → Res α} {gx : α → AEnv → Sto → Res (List D × Wt)} {Q' : β → Hp → Prop} {Ri : It → Hp → Prop} (R : RA K r H t env S)
    (h : match (fx env S).bind fun a S1 => gx a env S1 with
      | .ok p S' => ∀ r' H' J, Ext r H r' H' → RSt K r' H' S' → Yw K J p.1 p.2 r' H' → Ri J H'
      | .exc c S' => ∀ r' H' cls dx, Ext r H r' H' → RSt K r' H' S' → RX K r' H' c cls dx → W cls dx t H'
      | .bad => False)
    (k : ∀ a S1 r1 H1 b p S', Ext r H r1 H1 → RA K r1 H1 t env S1 → RR H r1 H1 a b → gx a env S1 = .ok p S' → (∀ r' H' J, Ext r1 H1 r' H' → RSt K r' H' S' → Yw K J p.1 p.2 r' H' → Ri J H') → Q' b H1)
    (hx : ∀ a S1 c S', gx a env S1 ≠ .exc c S') : lift K W RR fx t H Q' := by
  refine ⟨r, env, S, R, ?_⟩
  cases hf : fx env S with
  | ok a S1 =>
    rw [hf] at h
    intro r1 H1 b e1 R1 q1
    simp only [Res.bind] at h
    cases hg : gx a env S1 with
    | ok p S' => rw [hg] at h; exact k a S1 r1 H1 b p S' e1 (R.ext e1 R1) q1 hg fun r' H' J x' R' y' => h r' H' J (e1.trans x') R' y'
    | exc c S' => exact (hx _ _ _ _ hg).elim
    | bad => rw [hg] at h; exact h.elim
  | exc c S1 => rw [hf] at h; exact h
  | bad => rw [hf] at h; exact h
section
variable {X : Cx} {W : WX} {a b c e o : Expr} {es : List Expr} {fa fb fc fo : EvE} {ga gb : AEnv → Sto → Res (List D)} {pos p p2 : Pos} {x : Str} {st : Stmt} {sts : List Stmt} {f g : EvS}
@[simp] def iLocK (d : D) (S : Sto) : Res (List D × Wt) := match d with
  | .loc n => match S[n]? with
    | some (.lst ds) => .ok (ds, [(n, .lst ds)]) S
    | _ => .bad
  | _ => .bad
@[simp] def iLoc' (fa : EvE) : AEnv → Sto → Res (List D × Wt) := fun env S => (fa env S).bind fun d S1 => iLocK d S1
theorem loc_sq {K : PySem.W.Frag} {r1 r2 : List Addr} {H1 H2 : Hp} {S2 : Sto} {n : Nat} {a : Addr} {ds : List D} (x : Ext r1 H1 r2 H2) (h1 : r1[n]? = some a) (R2 : RSt K r2 H2 S2) (e : S2[n]? = some (.lst ds)) : ∃ vs, SqL K H2 a vs ∧ RVs K r2 H2 ds vs := by
  obtain ⟨b, e3, vs, e4, q⟩ := R2.at_ n _ e
  rw [x.get h1] at e3
  cases e3
  exact ⟨vs, SqL.of e4, q⟩
theorem di_loc {tg : Expr} (ha : DE X W e fa) : DIw X W tg e (iLoc' fa) :=
  ⟨PI.imp (pi_list ha.pe) fun s H Ri ⟨r, env, S, R, z⟩ => by
    refine lift_iw (RR := RVE X.K) (gx := fun d env S1 => iLocK d S1) R z (fun d S1 r1 H1 v pr S' e1 R1 rv hg k => ?_) fun a S1 c S' => by
      simp only [iLocK]; split
      · split <;> (intro z; cases z)
      · intro z; cases z
    simp only [iLocK] at hg
    split at hg
    · rename_i n
      split at hg
      · rename_i ds e2
        cases hg
        cases rv with
        | @loc _ a h1 =>
          obtain ⟨vs0, sq0, _⟩ := loc_sq (Ext.refl r1 H1) h1 R1.st e2
          refine ⟨a, rfl, ⟨vs0, sq0⟩, k r1 H1 _ (Ext.refl r1 H1) R1.st fun r2 H2 x2 S2 R2 cw i => ?_⟩
          obtain ⟨vs, sq, q⟩ := loc_sq x2 h1 R2 (Cw.one.mp cw)
          refine ⟨fun d hd => ?_, fun hl => ⟨vs, sq, by rw [← q.length]; exact hl⟩⟩
          obtain ⟨v', hv', rv'⟩ := RVs.get q hd
          refine ⟨⟨vs, v', sq, hv'⟩, fun v H' ⟨hH, hall⟩ => ?_⟩
          subst hH
          have := hall vs sq
          rw [hv'] at this; cases this
          exact ⟨Ext.refl _ _, R2, rv'⟩
      · cases hg
    · cases hg⟩
def enumD (ds : List D) : List D := (List.range ds.length).map fun (i : Nat) => D.tup [.int i, ds[i]?.getD .non]
theorem enumD_get {ds : List D} {i : Nat} {d : D} (h : (enumD ds)[i]? = some d) : ∃ x, ds[i]? = some x ∧ d = .tup [.int i, x] := by
  unfold enumD at h
  rw [List.getElem?_map] at h
  by_cases hi : i < ds.length
  · rw [List.getElem?_range hi] at h
    cases h
    exact ⟨ds[i], List.getElem?_eq_getElem hi, by simp [List.getElem?_eq_getElem hi]⟩
  · rw [List.getElem?_eq_none (by simpa using hi)] at h; cases h
@[simp] def iEnK (ds : List D) (S : Sto) : Res (List D × Wt) := match ds with
  | [d] => match d.seq? with
    | some xs => .ok (enumD xs, []) S
    | none => .bad
  | _ => .bad
@[simp] def iEn' (ga : AEnv → Sto → Res (List D)) : AEnv → Sto → Res (List D × Wt) := fun env S => (ga env S).bind fun ds S1 => iEnK ds S1
theorem di_enum {elts : List Expr} {kk : Nat} {tpos : Pos} (hg : Gl X "enumerate") (hm : X.mg "enumerate" = none) (ha : DA X W [a] ga) (hs : starEach [a] X.env = [(false, eval a X.env)] := by rfl) : DIw X W (.Tuple elts kk tpos) (.Call (.Name "enumerate" p) [a] [] pos) (iEn' ga) :=
  ⟨PI.imp (pi_enumT hg hm ha.pa hs) fun s H Ri ⟨r, env, S, R, z⟩ => by
    refine lift_iw (RR := RVA X.K) (gx := fun ds env S1 => iEnK ds S1) R z (fun ds S1 r1 H1 vs pr S' e1 R1 rv hg k => ?_) fun a S1 c S' => by
      simp only [iEnK]; split
      · split <;> (intro z; cases z)
      · intro z; cases z
    simp only [iEnK] at hg
    split at hg
    · rename_i d
      split at hg
      · rename_i xs h1
        cases hg
        obtain ⟨v, rfl, g1⟩ := rv.one
        obtain ⟨a, us, rfl, q1, st1⟩ := sqT_get R1.st g1 h1
        refine ⟨a, us, rfl, st1 _ _ (Ext.refl r1 H1), k r1 H1 _ (Ext.refl r1 H1) R1.st fun r2 H2 x2 S2 R2 _ i => ⟨fun dd hd => ?_, fun hl => ⟨us, st1 _ _ x2, by simp only [enumD, List.length_map, List.length_range] at hl; rw [← q1.length]; exact hl⟩⟩⟩
        obtain ⟨y, hy, rfl⟩ := enumD_get hd
        obtain ⟨v1, hv1, rv1⟩ := RVs.get q1 hy
        refine ⟨⟨us, v1, st1 _ _ x2, hv1⟩, fun v H' ⟨T, y', hv, hT, hH, hall⟩ => ?_⟩
        subst hv hH
        have := hall us (st1 _ _ x2)
        rw [hv1] at this; cases this
        have rvx : RVs X.K r2 H2 [.int i, y] [.int i, v1] := .cons (.int _) (.cons (RV.ext rv1 R1.st x2) .nil)
        obtain ⟨R3, x3⟩ := R2.new (o := .tup [.int i, v1]) hT
        exact ⟨x3, R3, .tup upd_same (RVs.ext rvx R2 x3)⟩
      · cases hg
    · cases hg⟩
open Classical in
/-- a loop over things whose lists must stay -/
noncomputable def forW (ws : Wt) (g : GvT) (f : EvS) : List D → AEnv → Sto → SRes
  | [], env, S => if Cw ws S then .nx env S else .bad
  | d :: ds, env, S => if Cw ws S then (match g d env S with
    | none => .bad
    | some q => match f q.1 q.2 with
      | .nx env2 S2 => forW ws g f ds env2 S2
      | .ct env2 S2 => forW ws g f ds env2 S2
      | .brk env2 S2 => .nx env2 S2
      | .ret d S2 => .ret d S2
      | .exc c env2 S2 => .exc c env2 S2
      | .bad => .bad) else .bad
@[simp] noncomputable def sForW (it : AEnv → Sto → Res (List D × Wt)) (g : GvT) (f : EvS) : EvS := fun env S => sbind (it env S) env fun p S1 => forW p.2 g f p.1 env S1
theorem ds_forw {tg iter : Expr} {vs : List Nat} {it : AEnv → Sto → Res (List D × Wt)} {gt : GvT} (hp : PassesOwn (model X.prog X.w) X.A X.env X.xe) (hc : X.calm = true) (hi : DIw X W tg iter it) (hg : DG X tg vs gt) (hb : DSs X W sts f)
    (hs : ∀ x, foldedSetIterable iter X.env x = pure x := by intro _; rfl) : DS X W (.For tg iter sts [] pos) (sForW it gt f) :=
  s_ps (ps_for hp hc hi.pi hg.pg hb.ps hs) fun E s H ⟨r, env, S, R, z⟩ => by
    refine ⟨r, env, S, R, ?_⟩
    cases hit : it env S with
    | bad => simp only [sForW, hit, sbind] at z; exact z
    | exc c S1 => simp only [sForW, hit, sbind] at z; exact fun r' H' cls dx x' R' rx => z r' H' s cls dx x' (R.ext x' R') rx
    | ok pr S1 =>
      obtain ⟨ds, ws⟩ := pr
      simp only [sForW, hit, sbind] at z
      intro r1 H1 J x1 R1 Y
      have RA1 : RA X.K r1 H1 s env S1 := R.ext x1 R1
      refine ⟨fun i m s H => ∃ r env S, Ext r1 H1 r H ∧ RA X.K r H s env S ∧ i ≤ ds.length ∧ m = ds.length - i ∧ sresP X.K W r H (forW ws gt f (ds.drop i) env S) E, ⟨_, r1, env, S1, Ext.refl r1 H1, RA1, Nat.zero_le _, rfl, sresP.ext z x1⟩, ?_⟩
      rintro i m s2 H2 ⟨r2, env2, S2, x2, R2, hle, rfl, z2⟩
      by_cases cw : Cw ws S2
      · obtain ⟨yg, ys⟩ := Y r2 H2 x2 S2 R2.st cw i
        by_cases hlt : i < ds.length
        · have hd : ds.drop i = ds[i] :: ds.drop (i + 1) := List.drop_eq_getElem_cons hlt
          rw [hd] at z2
          obtain ⟨go, yl⟩ := yg ds[i] (List.getElem?_eq_getElem hlt)
          refine .inr ⟨go, fun s' H' => ∃ r env S, Ext r1 H1 r H' ∧ RA X.K r H' s' env S ∧ i + 1 ≤ ds.length ∧ sresP X.K W r H' (forW ws gt f (ds.drop (i + 1)) env S) E, fun s' H' ⟨r, env, S, a1, a2, a3, a4⟩ => ⟨ds.length - (i + 1), by omega, r, env, S, a1, a2, a3, rfl, a4⟩, fun x H' hy => ?_⟩
          obtain ⟨x3, R3, rv⟩ := yl x H' hy
          have RA3 := R2.ext x3 R3
          refine ⟨r2, env2, S2, ds[i], RA3, rv, ?_⟩
          unfold forW at z2
          rw [if_pos cw] at z2
          cases hg : gt ds[i] env2 S2 with
          | none => rw [hg] at z2; exact z2
          | some q =>
            rw [hg] at z2
            intro r4 H4 s4 x4 R4 _
            refine ⟨r4, q.1, q.2, R4, ?_⟩
            have x24 : Ext r1 H1 r4 H4 := x2.trans (x3.trans x4)
            have z4 := sresP.ext z2 (x3.trans x4)
            cases hf : f q.1 q.2 with
            | nx env5 S5 => simp only [hf] at z4; exact fun r5 H5 s5 x5 R5 => ⟨r5, env5, S5, x24.trans x5, R5, hlt, sresP.ext z4 x5⟩
            | ct env5 S5 => simp only [hf] at z4; exact fun r5 H5 s5 x5 R5 => ⟨r5, env5, S5, x24.trans x5, R5, hlt, sresP.ext z4 x5⟩
            | brk env5 S5 => simp only [hf] at z4; exact z4
            | ret d S5 => simp only [hf] at z4; exact z4
            | exc c env5 S5 => simp only [hf] at z4; exact z4
            | bad => simp only [hf] at z4; exact z4
        · have hn : ds.drop i = [] := List.drop_eq_nil_of_le (by omega)
          rw [hn] at z2
          unfold forW at z2
          rw [if_pos cw] at z2
          exact .inl ⟨ys (show ds.length ≤ i by omega), z2 r2 H2 s2 (Ext.refl r2 H2) R2⟩
      · exfalso
        cases hd : ds.drop i with
        | nil => rw [hd] at z2; unfold forW at z2; rw [if_neg cw] at z2; exact z2
        | cons d ds' => rw [hd] at z2; unfold forW at z2; rw [if_neg cw] at z2; exact z2
theorem Yw.of {K : PySem.W.Frag} {J : It} {ds : List D} {r : List Addr} {H : Hp} (h : Yields K J ds r H) : Yw K J ds [] r H := fun r2 H2 x2 S R _ i => ⟨fun d hd => ⟨((h r2 H2 x2 i).1 d hd).1, fun v H' hy => ⟨(((h r2 H2 x2 i).1 d hd).2 v H' hy).1, (((h r2 H2 x2 i).1 d hd).2 v H' hy).2 S R⟩⟩, (h r2 H2 x2 i).2⟩
end
end DV
/-! DW4: zip of a list and a tuple. -/
namespace DV
open PySem PySem.Spec PyProof.Rows L2
open AutoSeq1 (wpAny_loadPart')
section
variable {prog : Program} {w : World} {A : Around} {E : Value → Shared → Prop} {s : Shared}
theorem zipM_step {zz ti ot ia ib la tb : Addr} {m n : Nat} {xs ys : Array Value} {u v p q : Value} {Q : Value → Shared → Prop} (ap : ZipApart zz ti ot ia ib la tb) (hz : IsZip s.heap zz ti ot .none) (hti : IsPair s.heap ti (.ref ia) (.ref ib)) (hot : IsPair s.heap ot p q)
    (ha : s.heap.IsListIter ia la m) (hb : s.heap.IsTupleIter ib tb n) (hla : s.heap.IsList la xs) (htb : s.heap.IsTuple tb ys) (hu : xs[m]? = some u) (hv : ys[n]? = some v)
    (fin : ∀ h', IsZip h' zz ti ot (rawInt s.heap.objs.size) → IsPair h' ot u v → h'.IsListIter ia la (m + 1) → h'.IsTupleIter ib tb (n + 1) → IsPair h' s.heap.objs.size u v →
      (∀ c o, c ≠ zz → c ≠ ot → c ≠ ia → c ≠ ib → s.heap.get? c = some o → h'.get? c = some o) → Q (.ref s.heap.objs.size) { s with heap := h' }) :
    wpAny (model prog w) A (Builtin.«zip.__next__» ⟨[.ref zz], []⟩) (fun r s' => ∃ x, r = .done (.ret x) ∧ Q x s') E s := by
  show wpAny _ _ (field (.ref zz) 2 >>= fun strict => _) _ _ _
  apply wpAny_bind
  apply wpAny_field hz rfl (x := .bool false) rfl
  show wpAny _ _ (field (.ref zz) 3 >>= fun its => _) _ _ _
  apply wpAny_bind
  apply wpAny_field hz rfl (x := .ref ti) rfl
  apply wpAny_bind
  apply wpAny_seqItems hti rfl
  show wpAny _ _ (Builtin.SmallTypes.ownedTupleIsFree (.ref zz) >>= fun free => _) _ _ _
  apply wpAny_bind
  unfold Builtin.SmallTypes.ownedTupleIsFree
  apply wpAny_bind
  apply wpAny_field hz rfl (x := .none) rfl
  apply wpAny_pure
  simp only [if_true]
  apply wpAny_bind
  apply wpAny_rule
  apply wpAny_bind
  apply wpAny_field hz rfl (x := .ref ot) rfl
  apply wpAny_bind
  refine wpAny_setField_rec hz (by simp) fun k1 z1 s1 => ?_
  have z1' : IsZip k1 zz ti ot .ellipsis := z1
  apply wpAny_bind
  simp only [List.zipIdx_cons, List.zipIdx_nil, List.forIn_cons, List.forIn_nil]
  apply wpAny_bind
  apply wpAny_bind
  apply wpAny_onRaise
  show wpAny _ _ (Builtin.SmallTypes.nextOf (.ref ia) >>= fun got => _) _ _ _
  apply wpAny_bind
  refine wpAny_nextOf_list_item (ha.extBut s1.extBut ap.i1z) (hla.extBut s1.extBut ap.l1z) hu fun k2 a2 s2 => ?_
  apply wpAny_pure
  have o2 : IsPair k2 ot p q := s2.extBut _ _ ap.TOi1 (s1.extBut _ _ ap.TOz hot)
  apply wpAny_bind
  apply wpAny_seqItems o2 rfl
  apply wpAny_bind
  refine wpAny_updateSeq_pair o2 fun k3 o3 s3 => ?_
  have o3' : IsPair k3 ot u q := o3
  apply wpAny_bind
  apply wpAny_letGo
  apply wpAny_pure
  apply wpAny_bind
  apply wpAny_bind
  apply wpAny_onRaise
  show wpAny _ _ (Builtin.SmallTypes.nextOf (.ref ib) >>= fun got => _) _ _ _
  apply wpAny_bind
  refine RZ.nextOf_tuple_item (((hb.extBut s1.extBut ap.i2z).extBut s2.extBut ap.i12.symm).extBut s3.extBut ap.TOi2.symm) (((htb.extBut s1.extBut ap.l2z).extBut s2.extBut ap.l2i1).extBut s3.extBut ap.l2TO) hv fun k4 b4 s4 => ?_
  apply wpAny_pure
  have o4 : IsPair k4 ot u q := s4.extBut _ _ ap.TOi2 o3'
  apply wpAny_bind
  apply wpAny_seqItems o4 rfl
  apply wpAny_bind
  refine wpAny_updateSeq_pair o4 fun k5 o5 s5 => ?_
  have o5' : IsPair k5 ot u v := o5
  apply wpAny_bind
  apply wpAny_letGo
  apply wpAny_pure
  apply wpAny_pure
  apply wpAny_bind
  apply wpAny_seqItems o5' rfl
  apply wpAny_bind
  refine wpAny_newTuple ?_
  have size5 : k5.objs.size = s.heap.objs.size := by rw [s5.1, s4.1, s3.1, s2.1, s1.1]
  have z5 : IsZip k5 zz ti ot .ellipsis := s5.extBut _ _ ap.TOz.symm (s4.extBut _ _ ap.i2z.symm (s3.extBut _ _ ap.TOz.symm (s2.extBut _ _ ap.i1z.symm z1')))
  have keep5 : ∀ c o, c ≠ zz → c ≠ ot → c ≠ ia → c ≠ ib → s.heap.get? c = some o → k5.get? c = some o := fun c o n1 n2 n3 n4 e =>
    s5.extBut _ _ n2 (s4.extBut _ _ n4 (s3.extBut _ _ n2 (s2.extBut _ _ n3 (s1.extBut _ _ n1 e))))
  have a5 : k5.IsListIter ia la (m + 1) := ((a2.extBut s3.extBut ap.TOi1.symm).extBut s4.extBut ap.i12).extBut s5.extBut ap.TOi1.symm
  have b5 : k5.IsTupleIter ib tb (n + 1) := b4.extBut s5.extBut ap.TOi2.symm
  have below : zz < k5.objs.size := Heap.lt_size z5
  show wpAny _ _ (Builtin.SmallTypes.ownedTupleHandOut (.ref zz) (.ref k5.objs.size) >>= fun _ => _) _ _ _
  apply wpAny_bind
  unfold Builtin.SmallTypes.ownedTupleHandOut
  have z6 : IsZip (k5.push { cls := .type "tuple", data := .seq #[u, v] }) zz ti ot .ellipsis := Heap.get?_push_of_some _ z5
  apply wpAny_bind
  refine wpAny_setField_rec z6 (by simp) fun k7 z7 s7 => ?_
  have z7' : IsZip k7 zz ti ot (rawInt k5.objs.size) := z7
  refine wpAny_setField_rec z7' (by simp) fun k8 z8 s8 => ?_
  have z8' : IsZip k8 zz ti ot (rawInt k5.objs.size) := z8
  have up : ∀ c o, c ≠ zz → k5.get? c = some o → k8.get? c = some o := fun c o n1 e => s8.extBut _ _ n1 (s7.extBut _ _ n1 (Heap.get?_push_of_some _ e))
  have far := Nat.ne_of_gt below
  have made : IsPair k8 k5.objs.size u v := s8.extBut _ _ far (s7.extBut _ _ far (Heap.get?_push_size _ rfl))
  rw [size5] at z8' made
  apply wpAny_pure
  refine ⟨_, rfl, ?_⟩
  show Q (.ref k5.objs.size) _
  rw [size5]
  exact fin k8 z8' (up _ _ ap.TOz o5') (a5.at fun o e => up _ o ap.i1z e) (b5.at fun o e => up _ o ap.i2z e) made fun c o n1 n2 n3 n4 e => up c o n1 (keep5 c o n1 n2 n3 n4 e)
theorem zipM_stop {zz ti ot ia ib la tb : Addr} {m n : Nat} {xs ys : Array Value} {p q : Value} {Q : Fin → Shared → Prop} (hh : A.handled = none) (ap : ZipApart zz ti ot ia ib la tb) (hz : IsZip s.heap zz ti ot .none) (hti : IsPair s.heap ti (.ref ia) (.ref ib)) (hot : IsPair s.heap ot p q)
    (ha : s.heap.IsListIter ia la m) (hb : s.heap.IsTupleIter ib tb n) (hla : s.heap.IsList la xs) (htb : s.heap.IsTuple tb ys) (over : xs[m]? = none ∨ ys[n]? = none)
    (fin : ∀ h' e, (∀ c o, c ≠ zz → c ≠ ot → c ≠ ia → c ≠ ib → s.heap.get? c = some o → h'.get? c = some o) → (∃ o, h'.get? e = some o ∧ o.cls = .type "StopIteration") → E (.ref e) { s with heap := h' }) :
    wpAny (model prog w) A (Builtin.«zip.__next__» ⟨[.ref zz], []⟩) Q E s := by
  show wpAny _ _ (field (.ref zz) 2 >>= fun strict => _) _ _ _
  apply wpAny_bind
  apply wpAny_field hz rfl (x := .bool false) rfl
  show wpAny _ _ (field (.ref zz) 3 >>= fun its => _) _ _ _
  apply wpAny_bind
  apply wpAny_field hz rfl (x := .ref ti) rfl
  apply wpAny_bind
  apply wpAny_seqItems hti rfl
  show wpAny _ _ (Builtin.SmallTypes.ownedTupleIsFree (.ref zz) >>= fun free => _) _ _ _
  apply wpAny_bind
  unfold Builtin.SmallTypes.ownedTupleIsFree
  apply wpAny_bind
  apply wpAny_field hz rfl (x := .none) rfl
  apply wpAny_pure
  simp only [if_true]
  apply wpAny_bind
  apply wpAny_rule
  apply wpAny_bind
  apply wpAny_field hz rfl (x := .ref ot) rfl
  apply wpAny_bind
  refine wpAny_setField_rec hz (by simp) fun k1 z1 s1 => ?_
  have z1' : IsZip k1 zz ti ot .ellipsis := z1
  apply wpAny_bind
  simp only [List.zipIdx_cons, List.zipIdx_nil, List.forIn_cons, List.forIn_nil]
  apply wpAny_bind
  apply wpAny_bind
  apply wpAny_onRaise
  show wpAny _ _ (Builtin.SmallTypes.nextOf (.ref ia) >>= fun got => _) _ _ _
  apply wpAny_bind
  cases hu : xs[m]? with
  | none =>
    refine wpAny_nextOf_list_end hh (ha.extBut s1.extBut ap.i1z) (hla.extBut s1.extBut ap.l1z) hu fun k2 ex s2 isx => ?_
    obtain ⟨ob, g1, g2⟩ := isx
    have z2 : IsZip k2 zz ti ot .ellipsis := s2 _ _ ap.i1z.symm z1'
    have ne : ex ≠ zz := fun x => by subst x; rw [z2] at g1; cases g1; simp at g2
    refine wpAny_setField_rec z2 (by simp) fun k3 _ s3 => fin k3 ex (fun c o n1 _ n3 _ x => s3.extBut _ _ n1 (s2 _ _ n3 (s1.extBut _ _ n1 x))) ⟨ob, s3.extBut _ _ ne g1, g2⟩
  | some u =>
    have hv : ys[n]? = none := over.resolve_left (by rw [hu]; simp)
    refine wpAny_nextOf_list_item (ha.extBut s1.extBut ap.i1z) (hla.extBut s1.extBut ap.l1z) hu fun k2 a2 s2 => ?_
    apply wpAny_pure
    have o2 : IsPair k2 ot p q := s2.extBut _ _ ap.TOi1 (s1.extBut _ _ ap.TOz hot)
    apply wpAny_bind
    apply wpAny_seqItems o2 rfl
    apply wpAny_bind
    refine wpAny_updateSeq_pair o2 fun k3 o3 s3 => ?_
    apply wpAny_bind
    apply wpAny_letGo
    apply wpAny_pure
    apply wpAny_bind
    apply wpAny_bind
    apply wpAny_onRaise
    show wpAny _ _ (Builtin.SmallTypes.nextOf (.ref ib) >>= fun got => _) _ _ _
    apply wpAny_bind
    refine RZ.nextOf_tuple_end hh (((hb.extBut s1.extBut ap.i2z).extBut s2.extBut ap.i12.symm).extBut s3.extBut ap.TOi2.symm) (((htb.extBut s1.extBut ap.l2z).extBut s2.extBut ap.l2i1).extBut s3.extBut ap.l2TO) hv fun k4 ex s4 isx => ?_
    obtain ⟨ob, g1, g2⟩ := isx
    have z4 : IsZip k4 zz ti ot .ellipsis := s4 _ _ ap.i2z.symm (s3.extBut _ _ ap.TOz.symm (s2.extBut _ _ ap.i1z.symm z1'))
    have ne : ex ≠ zz := fun x => by subst x; rw [z4] at g1; cases g1; simp at g2
    refine wpAny_setField_rec z4 (by simp) fun k5 _ s5 => fin k5 ex (fun c o n1 n2 n3 n4 x => s5.extBut _ _ n1 (s4 _ _ n4 (s3.extBut _ _ n2 (s2.extBut _ _ n3 (s1.extBut _ _ n1 x))))) ⟨ob, s5.extBut _ _ ne g1, g2⟩
end
end DV
/-! DW5: for x, y in zip(a list, a tuple). -/
namespace DV
open PySem PySem.Spec PyProof.Rows L2
open AutoSeq1 (wpAny_loadPart')
section
variable {prog : Program} {w : World} {A : Around} {E : Value → Shared → Prop} {s : Shared}
theorem zipM_item {zz ti ot ia ib la tb : Addr} {m n : Nat} {xs ys : Array Value} {u v p q : Value} {Q : Option Value → Shared → Prop} (ap : ZipApart zz ti ot ia ib la tb) (hz : IsZip s.heap zz ti ot .none) (hti : IsPair s.heap ti (.ref ia) (.ref ib)) (hot : IsPair s.heap ot p q)
    (ha : s.heap.IsListIter ia la m) (hb : s.heap.IsTupleIter ib tb n) (hla : s.heap.IsList la xs) (htb : s.heap.IsTuple tb ys) (hu : xs[m]? = some u) (hv : ys[n]? = some v)
    (fin : ∀ h', IsZip h' zz ti ot (rawInt s.heap.objs.size) → IsPair h' ot u v → h'.IsListIter ia la (m + 1) → h'.IsTupleIter ib tb (n + 1) → IsPair h' s.heap.objs.size u v →
      (∀ c o, c ≠ zz → c ≠ ot → c ≠ ia → c ≠ ib → s.heap.get? c = some o → h'.get? c = some o) → Q (some (.ref s.heap.objs.size)) { s with heap := h' }) : wpAny (model prog w) A (pyNext (.ref zz)) Q E s := by
  have ty : s.TypeIs (.ref zz) "zip" := ⟨_, hz, rfl⟩
  unfold pyNext
  apply wpAny_bind
  apply wpAny_attempt
  refine wpAny_callSpecial?_slot (name := Str.ofString "__next__") ty F.slot_zip_next ?_
  exact wpAny_call_entry F.slot_zip_next ty F.entry_zip_next (zipM_step ap hz hti hot ha hb hla htb hu hv fun h' b1 b2 b3 b4 b5 b6 => wpAny_pure (fin h' b1 b2 b3 b4 b5 b6)) (F.args_zip_next_1 _)
theorem zipM_end {zz ti ot ia ib la tb : Addr} {m n : Nat} {xs ys : Array Value} {p q : Value} {Q : Option Value → Shared → Prop} (hh : A.handled = none) (ap : ZipApart zz ti ot ia ib la tb) (hz : IsZip s.heap zz ti ot .none) (hti : IsPair s.heap ti (.ref ia) (.ref ib)) (hot : IsPair s.heap ot p q)
    (ha : s.heap.IsListIter ia la m) (hb : s.heap.IsTupleIter ib tb n) (hla : s.heap.IsList la xs) (htb : s.heap.IsTuple tb ys) (over : xs[m]? = none ∨ ys[n]? = none)
    (fin : ∀ h', (∀ c o, c ≠ zz → c ≠ ot → c ≠ ia → c ≠ ib → s.heap.get? c = some o → h'.get? c = some o) → Q none { s with heap := h' }) : wpAny (model prog w) A (pyNext (.ref zz)) Q E s := by
  have ty : s.TypeIs (.ref zz) "zip" := ⟨_, hz, rfl⟩
  unfold pyNext
  apply wpAny_bind
  apply wpAny_attempt
  refine wpAny_callSpecial?_slot (name := Str.ofString "__next__") ty F.slot_zip_next ?_
  refine wpAny_call_entry F.slot_zip_next ty F.entry_zip_next (zipM_stop hh ap hz hti hot ha hb hla htb over fun h' ex keep isx => ?_) (F.args_zip_next_1 _)
  obtain ⟨ob, g1, g2⟩ := isx
  apply wpAny_bind
  refine wpAny_isInstance (T := "StopIteration") (b := true) ⟨ob, g1, g2⟩ isSubtype_stop ?_
  exact wpAny_pure (fin _ keep)
end
abbrev zm1 (h : Heap) (la : Addr) : Heap := h.push { cls := .type "list_iterator", data := .fields #[.ref la, .int 0 0] }
abbrev zm2 (h : Heap) (la tb : Addr) : Heap := (zm1 h la).push { cls := .type "tuple_iterator", data := .fields #[.ref tb, .int 0 0] }
abbrev zm3 (h : Heap) (la tb : Addr) : Heap := (zm2 h la tb).push { cls := .type "tuple", data := .seq #[.ref h.objs.size, .ref (zm1 h la).objs.size] }
abbrev zm4 (h : Heap) (la tb : Addr) : Heap := (zm3 h la tb).push { cls := .type "tuple", data := .seq #[.none, .none] }
abbrev zm5 (h : Heap) (la tb : Addr) : Heap := (zm4 h la tb).push { cls := .type "zip", data := .fields #[.none, .bool false, .bool false, .ref (zm2 h la tb).objs.size, .ref (zm3 h la tb).objs.size] }
theorem zipM_new (la tb : Addr) (xs ys : Array Value) :
    Meets (Builtin.«zip.__new__» ⟨[.type "zip", .ref la, .ref tb], []⟩) (fun _ R s => s.heap.IsList la xs ∧ s.heap.IsTuple tb ys ∧ R (.ok (.ret (.ref (zm4 s.heap la tb).objs.size))) { s with heap := zm5 s.heap la tb }) :=
  .of_wp fun prog w A R s h => by
    obtain ⟨hp, gg, dd, tk, oo⟩ := s
    obtain ⟨hla, htb, hR⟩ := h
    have subZ := sub_zip
    have isL : Heap.IsList (Shared.heap ⟨hp, gg, dd, tk, oo⟩) la xs := hla
    have isT : Heap.IsTuple (Shared.heap ⟨hp.push { cls := .type "list_iterator", data := .fields #[.ref la, .int 0 0] }, gg, dd, tk, oo⟩) tb ys := Heap.IsTuple.push htb _
    wp_walk using wpAny_pyIter_list isL, wpAny_pyIter_tuple isT
    exact ⟨_, rfl, hR⟩
section
variable {prog : Program} {w : World} {A : Around} {E : Value → Shared → Prop} {s : Shared}
theorem call_zipM {la tb : Addr} {xs ys : Array Value} {Q : Value → Shared → Prop} (hla : s.heap.IsList la xs) (htb : s.heap.IsTuple tb ys)
    (fin : ∀ h', IsZip h' (s.heap.objs.size + 4) (s.heap.objs.size + 2) (s.heap.objs.size + 3) .none → IsPair h' (s.heap.objs.size + 2) (.ref s.heap.objs.size) (.ref (s.heap.objs.size + 1)) → IsPair h' (s.heap.objs.size + 3) .none .none →
      h'.IsListIter s.heap.objs.size la 0 → h'.IsTupleIter (s.heap.objs.size + 1) tb 0 → (∀ c o, s.heap.get? c = some o → h'.get? c = some o) → Q (.ref (s.heap.objs.size + 4)) { s with heap := h' }) :
    wpAny (model prog w) A (call (.type "zip") [.ref la, .ref tb]) Q E s := by
  refine callType_new F.called_zip (by decide) (F.typeCall_zip_2 _ _) (F.newCall_zip_2 _ _) (fun obj => F.args_object_init_3 obj _ _) F.entry_zip_new (zipM_new la tb xs ys) ⟨hla, htb, ?_⟩
  have n1 : (zm1 s.heap la).objs.size = s.heap.objs.size + 1 := Heap.size_push ..
  have n2 : (zm2 s.heap la tb).objs.size = s.heap.objs.size + 2 := by rw [Heap.size_push, n1]
  have n3 : (zm3 s.heap la tb).objs.size = s.heap.objs.size + 3 := by rw [Heap.size_push, n2]
  have n4 : (zm4 s.heap la tb).objs.size = s.heap.objs.size + 4 := by rw [Heap.size_push, n3]
  have p5 : (zm5 s.heap la tb).get? (zm4 s.heap la tb).objs.size = some _ := Heap.get?_push_size _ rfl
  have p4 : (zm5 s.heap la tb).get? (zm3 s.heap la tb).objs.size = some _ := Heap.get?_push_of_some _ (Heap.get?_push_size _ rfl)
  have p3 : (zm5 s.heap la tb).get? (zm2 s.heap la tb).objs.size = some _ := Heap.get?_push_of_some _ (Heap.get?_push_of_some _ (Heap.get?_push_size _ rfl))
  have p2 : (zm5 s.heap la tb).get? (zm1 s.heap la).objs.size = some _ := Heap.get?_push_of_some _ (Heap.get?_push_of_some _ (Heap.get?_push_of_some _ (Heap.get?_push_size _ rfl)))
  have p1 : (zm5 s.heap la tb).get? s.heap.objs.size = some _ := Heap.get?_push_of_some _ (Heap.get?_push_of_some _ (Heap.get?_push_of_some _ (Heap.get?_push_of_some _ (Heap.get?_push_size _ rfl))))
  show _ ∧ _
  rw [n2, n3, n4] at p5
  rw [n3] at p4
  rw [n1, n2] at p3
  rw [n1] at p2
  rw [n4]
  refine ⟨⟨_, p5, rfl⟩, fin _ p5 p3 p4 ⟨_, p1, rfl, rfl⟩ ⟨_, p2, rfl, rfl⟩ fun c o q => ?_⟩
  exact Heap.get?_push_of_some _ (Heap.get?_push_of_some _ (Heap.get?_push_of_some _ (Heap.get?_push_of_some _ (Heap.get?_push_of_some _ q))))
end
/-- the list at a, the tuple at b, the items in new pairs -/
def ItzM (K : PySem.W.Frag) (a b : Addr) : It :=
  ⟨fun i H => ∃ (xs ys : List V) (x y : V), SqL K H a xs ∧ SqT K H b ys ∧ xs[i]? = some x ∧ ys[i]? = some y,
    fun i H v H' => ∃ T x y, v = .ref T ∧ H T = none ∧ H' = upd H T (.tup [x, y]) ∧ (∀ xs, SqL K H a xs → xs[i]? = some x) ∧ ∀ ys, SqT K H b ys → ys[i]? = some y,
    fun i H => ∃ xs ys : List V, SqL K H a xs ∧ SqT K H b ys ∧ (xs.length ≤ i ∨ ys.length ≤ i)⟩
theorem mem5 {a b c d e x : Addr} (h : x ∈ [a, b, c, d, e]) : x = a ∨ x = b ∨ x = c ∨ x = d ∨ x = e := by simpa using h
theorem turn_zipM {P : Program} {w : World} {K : PySem.W.Frag} {elts : List Expr} {kk : Nat} {tpos : Pos} {la tb zz ti ot ia ib : Addr} (ap : ZipApart zz ti ot ia ib la tb) :
    Turn P w K (.Tuple elts kk tpos) (ItzM K la tb) [zz, ti, ot, ia, ib] zz (fun i h => IsZip h zz ti ot .none ∧ IsPair h ti (.ref ia) (.ref ib) ∧ (∃ x y, IsPair h ot x y) ∧ h.IsListIter ia la i ∧ h.IsTupleIter ib tb i) where
  mem := List.mem_cons_self
  obj := by
    rintro i h ⟨hz, hti, ⟨x, y, hot⟩, ⟨o1, e1, _, d1⟩, ⟨o2, e2, _, d2⟩⟩ c hc
    rcases mem5 hc with rfl | rfl | rfl | rfl | rfl
    · exact ⟨_, hz, fun v q => nomatch q⟩
    · exact ⟨_, hti, fun v q => nomatch q⟩
    · exact ⟨_, hot, fun v q => nomatch q⟩
    · exact ⟨o1, e1, fun v q => by rw [d1] at q; cases q⟩
    · exact ⟨o2, e2, fun v q => by rw [d2] at q; cases q⟩
  keep := by
    rintro i h h' ⟨hz, hti, ⟨x, y, hot⟩, ha, hb⟩ k
    exact ⟨k zz (by simp) _ hz, k ti (by simp) _ hti, ⟨x, y, k ot (by simp) _ hot⟩, ha.at fun o q => k ia (by simp) o q, hb.at fun o q => k ib (by simp) o q⟩
  item := by
    intro X e1 e2 e3 calm i pins s σ H E inv free st go
    subst e1 e2 e3
    obtain ⟨hz, hti, ⟨x0, y0, hot⟩, ha, hb⟩ := st
    obtain ⟨xs, ys, x, y, sx, sy, hx, hy⟩ := go
    obtain ⟨its, rel, isL, _⟩ := inv.list sx
    obtain ⟨its2, rel2, isT, _⟩ := inv.tuple sy
    obtain ⟨u, hu, ru⟩ := rel.get hx
    obtain ⟨u2, hu2, ru2⟩ := rel2.get hy
    have lz : zz < s.heap.objs.size := Heap.lt_size hz
    refine zipM_item ap hz hti hot ha hb isL.isList isT (u := u) (v := u2) (by simpa using hu) (by simpa using hu2) fun h1 z1 ot1 a1 b1 tup1 old1 => ?_
    refine ⟨_, rfl, wpAny_letOwnedTupleGo_zip (s := { s with heap := h1 }) z1 fun h2 z2 sb => ?_⟩
    have tup2 : h2.get? s.heap.objs.size = some { cls := .type "tuple", data := .seq #[u, u2] } := (sb.2 _ (Nat.ne_of_gt lz)).trans tup1
    have fresh : ObjOk X.prog X.w (upd H s.heap.objs.size (.tup [x, y])) h2 s.heap.objs.size (.tup [x, y]) := ⟨(show 2 ≤ sizeLine by decide), [u, u2], .cons ru (.cons ru2 .nil), ⟨_, tup2, rfl, _, rfl⟩⟩
    have stay : ∀ c o, c ∉ [zz, ti, ot, ia, ib] → s.heap.get? c = some o → h2.get? c = some o := fun c o nc z => by
      simp only [List.mem_cons, List.mem_nil_iff, or_false, not_or] at nc
      exact (sb.2 c nc.1).trans (old1 c o nc.1 nc.2.2.1 nc.2.2.2.1 nc.2.2.2.2 z)
    have inv2 : Inv X pins σ (upd H s.heap.objs.size (.tup [x, y])) { s with heap := h2 } := inv.turnedNew (t' := s.toks) (ch := [zz, ti, ot, ia, ib]) stay free (Nat.le_refl _) fresh
    refine ⟨.ref s.heap.objs.size, _, inv2, rfl, ⟨_, x, y, rfl, inv.hok.fresh (Nat.le_refl _), rfl, fun l hl => by rw [inv.list_inj hl sx]; exact hx, fun l hl => by rw [inv.tuple_inj hl sy]; exact hy⟩, ⟨z2, ?_, ⟨u, u2, ?_⟩, ?_, ?_⟩, fun c hc => ?_⟩
    · exact (sb.2 _ ap.TIz).trans (old1 _ _ ap.TIz ap.TITO ap.TIi1 ap.TIi2 hti)
    · exact (sb.2 _ ap.TOz).trans ot1
    · exact a1.at fun o q => (sb.2 _ ap.i1z).trans q
    · exact b1.at fun o q => (sb.2 _ ap.i2z).trans q
    · have lc : c < s.heap.objs.size := by
        rcases mem5 hc with rfl | rfl | rfl | rfl | rfl
        · exact lz
        · exact Heap.lt_size hti
        · exact Heap.lt_size hot
        · obtain ⟨_, e1, _⟩ := ha; exact Heap.lt_size e1
        · obtain ⟨_, e2, _⟩ := hb; exact Heap.lt_size e2
      rw [upd_ne (Nat.ne_of_lt lc)]
      exact (free c hc).1
  done := by
    intro X e1 e2 e3 calm i pins s σ H E inv free st stop
    subst e1 e2 e3
    obtain ⟨hz, hti, ⟨x0, y0, hot⟩, ha, hb⟩ := st
    obtain ⟨xs, ys, sx, sy, over⟩ := stop
    obtain ⟨its, rel, isL, _⟩ := inv.list sx
    obtain ⟨its2, rel2, isT, _⟩ := inv.tuple sy
    have n1 := rel.length
    have n2 := rel2.length
    have ov : its.toArray[i]? = none ∨ its2.toArray[i]? = none := over.imp (fun q => by simp; omega) fun q => by simp; omega
    refine zipM_end (inv.ok.hd calm) ap hz hti hot ha hb isL.isList isT ov fun h' keep => ⟨rfl, inv.turnedL (t' := s.toks) (ch := [zz, ti, ot, ia, ib]) (fun c o nc q => ?_) free⟩
    simp only [List.mem_cons, List.mem_nil_iff, or_false, not_or] at nc
    exact keep c o nc.1 nc.2.2.1 nc.2.2.2.1 nc.2.2.2.2 q
  self := fun A i s Q E st h => wpAny_pyIter_zip st.1 h
def iZipM (K : PySem.W.Frag) (ta : TA) : TI := fun σ H R => ta σ H fun vs H1 => ∃ a b xs ys, vs = [.ref a, .ref b] ∧ SqL K H1 a xs ∧ SqT K H1 b ys ∧ R (ItzM K a b) H1
theorem pi_zipM {X : Cx} {e e2 : Expr} {ta : TA} {p pos tpos : Pos} {elts : List Expr} {kk : Nat} (hg : Gl X "zip") (hm : X.mg "zip" = none) (ha : PA X [e, e2] ta)
    (hs : starEach [e, e2] X.env = (false, eval e X.env) :: starEach [e2] X.env := by rfl) (hpl : (backTo pos (starEach [e2] X.env)).any (·.1) = false := by rfl) : PI X (.Tuple elts kk tpos) (.Call (.Name "zip" p) [e, e2] [] pos) (iZipM X.K ta) := by
  constructor
  intro pins s σ H R inv h
  refine Call_ (ld_blt inv hg hm PyProof.Rows.boot_zip (PyProof.Rows.callWith_type1 (thn (ha.run pos pins s σ H _ inv h) ?_) hs hpl))
  rintro us s1 ⟨vs, H1, inv1, rel, a, b, xs, ys, rfl, sx, sy, q⟩
  cases rel with
  | cons r rr =>
    cases rr with
    | cons r' rr =>
      cases rr
      cases r
      cases r'
      obtain ⟨its, rv, isL, _⟩ := inv1.list sx
      obtain ⟨its2, rv2, isT, _⟩ := inv1.tuple sy
      obtain ⟨ob, hob, _⟩ := id isT
      refine call_zipM isL.isList (show s1.heap.IsTuple b its2.toArray from isT) fun h' hz hti hot h1 h2 keep => wpAny_pyIter_zip hz ?_
      have inv2 : Inv X pins σ H1 { s1 with heap := h' } := inv1.kept (t' := s1.toks) keep
      refine ⟨s1.heap.objs.size + 4, [s1.heap.objs.size + 4, s1.heap.objs.size + 2, s1.heap.objs.size + 3, s1.heap.objs.size, s1.heap.objs.size + 1], _, _, H1, rfl, inv2, turn_zipM (PySem.W.ktu_apart s1.heap.objs.size a b isL.lt (Heap.lt_size hob)), ⟨hz, hti, ⟨_, _, hot⟩, h1, h2⟩, fun c hc => ?_, q⟩
      have above : s1.heap.objs.size ≤ c := by rcases mem5 hc with rfl | rfl | rfl | rfl | rfl <;> omega
      exact inv1.fpOk above (inv1.hok.fresh above)
end DV
/-! DW6: zip of a list and a tuple on D; comprehensions over what is watched; list * int; list + new list. -/
namespace DV
open PySem PySem.Spec PyProof.Rows L2
section
variable {X : Cx} {W : WX} {a b c e o : Expr} {es : List Expr} {fa fb fc fo : EvE} {ga gb : AEnv → Sto → Res (List D)} {pos p p2 : Pos} {x : Str} {st : Stmt} {sts : List Stmt} {f g : EvS}
@[simp] def iZmK (ds : List D) (S : Sto) : Res (List D × Wt) := match ds with
  | [.loc n, d'] => match S[n]?, d'.seq? with
    | some (.lst xs), some ys => .ok (zipD xs ys, [(n, .lst xs)]) S
    | _, _ => .bad
  | _ => .bad
@[simp] def iZm' (ga : AEnv → Sto → Res (List D)) : AEnv → Sto → Res (List D × Wt) := fun env S => (ga env S).bind fun ds S1 => iZmK ds S1
theorem di_zipm {elts : List Expr} {kk : Nat} {tpos : Pos} (hg : Gl X "zip") (hm : X.mg "zip" = none) (ha : DA X W [a, b] ga) (hs : starEach [a, b] X.env = (false, eval a X.env) :: starEach [b] X.env := by rfl) (hpl : (backTo pos (starEach [b] X.env)).any (·.1) = false := by rfl) :
    DIw X W (.Tuple elts kk tpos) (.Call (.Name "zip" p) [a, b] [] pos) (iZm' ga) :=
  ⟨PI.imp (pi_zipM hg hm ha.pa hs hpl) fun s H Ri ⟨r, env, S, R, z⟩ => by
    refine lift_iw (RR := RVA X.K) (gx := fun ds env S1 => iZmK ds S1) R z (fun ds S1 r1 H1 vs pr S' e1 R1 rv hg k => ?_) fun a S1 c S' => by
      simp only [iZmK]; split
      · split <;> (intro z; cases z)
      · intro z; cases z
    simp only [iZmK] at hg
    split at hg
    · rename_i n d'
      split at hg
      · rename_i xs ys h1 h2
        cases hg
        obtain ⟨v, w, rfl, g1, g2⟩ := rv.two
        cases g1 with
        | @loc _ a ha1 =>
          obtain ⟨us0, sq0, _⟩ := loc_sq (Ext.refl r1 H1) ha1 R1.st h1
          obtain ⟨b, ws, rfl, q2, st2⟩ := sqT_get R1.st g2 h2
          refine ⟨a, b, us0, ws, rfl, sq0, st2 _ _ (Ext.refl r1 H1), k r1 H1 _ (Ext.refl r1 H1) R1.st fun r2 H2 x2 S2 R2 cw i => ?_⟩
          obtain ⟨us, sq, q1⟩ := loc_sq x2 ha1 R2 (Cw.one.mp cw)
          refine ⟨fun dd hd => ?_, fun hl => ⟨us, ws, sq, st2 _ _ x2, ?_⟩⟩
          · unfold zipD at hd
            rw [List.getElem?_map] at hd
            cases hz : (xs.zip ys)[i]? with
            | none => rw [hz] at hd; cases hd
            | some q =>
              rw [hz] at hd
              cases hd
              obtain ⟨z1, z2⟩ := List.getElem?_zip_eq_some.mp hz
              obtain ⟨v1, hv1, rv1⟩ := RVs.get q1 z1
              obtain ⟨v2, hv2, rv2⟩ := RVs.get q2 z2
              refine ⟨⟨us, ws, v1, v2, sq, st2 _ _ x2, hv1, hv2⟩, fun v H' ⟨T, x, y, hv, hT, hH, hx, hy⟩ => ?_⟩
              subst hv hH
              have e1 := hx us sq
              have e2 := hy ws (st2 _ _ x2)
              rw [hv1] at e1; cases e1
              rw [hv2] at e2; cases e2
              have rvx : RVs X.K r2 H2 [q.1, q.2] [v1, v2] := .cons rv1 (.cons (RV.ext rv2 R1.st x2) .nil)
              obtain ⟨R3, x3⟩ := R2.new (o := .tup [v1, v2]) hT
              exact ⟨x3, R3, .tup upd_same (RVs.ext rvx R2 x3)⟩
          · have n1 := q1.length
            have n2 := q2.length
            simp only [zipD, List.length_map, List.length_zip] at hl
            omega
      · cases hg
    · cases hg⟩
open Classical in
noncomputable def compW (ws : Wt) (vs : List Nat) (g : GvT) (q : AEnv → Sto → Res Bool) (te : EvE) (env : AEnv) : List D → List D → Sto → Res (List D)
  | [], acc, S => if Cw ws S then .ok acc S else .bad
  | d :: ds, acc, S => if Cw ws S then (match g d (wipeA env vs) S with
    | none => .bad
    | some pr => (q pr.1 pr.2).bind0 fun b S3 => if b then (te pr.1 S3).bind0 fun y S4 => if acc.length < LN then compW ws vs g q te env ds (acc ++ [y]) S4 else .bad
      else compW ws vs g q te env ds acc S3) else .bad
@[simp] noncomputable def lCompW (vs : List Nat) (it : AEnv → Sto → Res (List D × Wt)) (g : GvT) (q : AEnv → Sto → Res Bool) (te : EvE) : AEnv → Sto → Res (List D) := fun env S => (it env S).bind fun p S1 => compW p.2 vs g q te env p.1 [] S1
theorem lcw_of {own : List (Str × Nat)} {vs : List Nat} {it : AEnv → Sto → Res (List D × Wt)} {gt : GvT} {q : AEnv → Sto → Res Bool} {te : EvE} (hv : ∀ i ∈ vs, i ∈ own.map (·.2)) :
    ∀ s0 H0 Q, liftL X.K W (lCompW (own.map (·.2)) it gt q te) s0 H0 Q → tLc (liftIw X.K W it) (liftG X.K vs gt) (liftT X.K W0 q) (liftE X.K W0 te) (own.map (·.2)) s0 H0 Q :=
  fun s0 H0 Q ⟨r0, env, S0, R0, z⟩ => by
    refine ⟨r0, env, S0, R0, ?_⟩
    cases hit : it env S0 with
    | bad => simp only [lCompW, hit, Res.bind] at z; exact z
    | exc c S1 => simp only [lCompW, hit, Res.bind] at z; exact z
    | ok pr0 S1 =>
      obtain ⟨ds, ws⟩ := pr0
      simp only [lCompW, hit, Res.bind] at z
      intro r1 H1 J x1 R1 Y Dd hD
      obtain ⟨RN, xN⟩ := R1.new (o := .lst []) hD
      refine ⟨fun i m H => ∃ r S acc av, Ext r1 H1 r H ∧ RSt X.K r H S ∧ Dd ∉ r ∧ H Dd = some (.lst av) ∧ RVs X.K r H acc av ∧ i ≤ ds.length ∧ m = ds.length - i ∧ resP X.K W (RVL X.K) r0 H0 s0 (compW ws (own.map (·.2)) gt q te env (ds.drop i) acc S) Q,
        ⟨_, r1, S1, [], [], xN, RN, R1.nmem hD, upd_same, .nil, Nat.zero_le _, rfl, z⟩, ?_⟩
      rintro i m H2 ⟨r2, S2, acc, av, x2, R2, nD, hDd, rva, hle, rfl, z2⟩
      by_cases cw : Cw ws S2
      · obtain ⟨yg, ys⟩ := Y r2 H2 x2 S2 R2 cw i
        have x02 : Ext r0 H0 r2 H2 := x1.trans x2
        by_cases hlt : i < ds.length
        · have hd : ds.drop i = ds[i] :: ds.drop (i + 1) := List.drop_eq_getElem_cons hlt
          rw [hd] at z2
          obtain ⟨go, yl⟩ := yg ds[i] (List.getElem?_eq_getElem hlt)
          refine .inr ⟨go, fun H' => ∃ r S acc av, Ext r1 H1 r H' ∧ RSt X.K r H' S ∧ Dd ∉ r ∧ H' Dd = some (.lst av) ∧ RVs X.K r H' acc av ∧ i + 1 ≤ ds.length ∧ resP X.K W (RVL X.K) r0 H0 s0 (compW ws (own.map (·.2)) gt q te env (ds.drop (i + 1)) acc S) Q,
            fun H' ⟨r, S, acc, av, b1, b2, b3, b4, b5, b6, b7⟩ => ⟨ds.length - (i + 1), by omega, r, S, acc, av, b1, b2, b3, b4, b5, b6, rfl, b7⟩, fun xv H' hy => ?_⟩
          obtain ⟨x3, R3, rv⟩ := yl xv H' hy
          have RA3 : RA X.K r2 H' s0 env S2 := R0.ext (x02.trans x3) R3
          refine ⟨r2, _, S2, ds[i], RA3.wipe (own.map (·.2)), rv, ?_⟩
          unfold compW at z2
          rw [if_pos cw] at z2
          cases hgt : gt ds[i] (wipeA env (own.map (·.2))) S2 with
          | none => simp only [hgt] at z2; exact z2
          | some pr =>
            simp only [hgt] at z2
            intro r4 H4 s4 x4 R4 sb
            refine ⟨?_, ?_⟩
            · have h1 := (sb.mono hv).wipe
              have h2 := (SameBut.wiped (own.map (·.2)) s0).wipe
              rw [h1, h2]
            · refine ⟨r4, pr.1, pr.2, R4, ?_⟩
              cases hq : q pr.1 pr.2 with
              | bad => simp only [hq, Res.bind0] at z2; exact z2
              | exc c S5 => simp only [hq, Res.bind0] at z2; exact z2.elim
              | ok bb S5 =>
                simp only [hq, Res.bind0] at z2
                intro r5 H5 b' x5 R5 hb
                cases hb
                have x25 : Ext r2 H2 r5 H5 := x3.trans (x4.trans x5)
                cases bb with
                | false =>
                  rw [if_neg Bool.false_ne_true]
                  rw [if_neg Bool.false_ne_true] at z2
                  obtain ⟨k1, k2⟩ := x25.keep Dd _ nD hDd
                  exact ⟨r5, S5, acc, av, x2.trans x25, R5, k2, k1, RVs.ext rva R2 x25, hlt, z2⟩
                | true =>
                  rw [if_pos rfl]
                  rw [if_pos rfl] at z2
                  refine ⟨r5, pr.1, S5, R4.ext x5 R5, ?_⟩
                  cases hte : te pr.1 S5 with
                  | bad => simp only [hte] at z2; exact z2
                  | exc c S6 => simp only [hte] at z2; exact z2.elim
                  | ok y S6 =>
                    simp only [hte] at z2
                    intro r6 H6 yv x6 R6 ry
                    have x26 : Ext r2 H2 r6 H6 := x25.trans x6
                    obtain ⟨k1, k2⟩ := x26.keep Dd _ nD hDd
                    have rva6 := RVs.ext rva R2 x26
                    by_cases hl : acc.length < LN
                    · rw [if_pos hl] at z2
                      refine ⟨av, k1, by rw [← rva.length, sizeLine_eq]; exact hl, r6, S6, acc ++ [y], av ++ [yv], (x2.trans x26).at_new hD, R6.other k2 k1, k2, upd_same, ?_, hlt, z2⟩
                      exact RVs.mono (TGrow.upd k1 (fun _ z => nomatch z) (fun _ _ z => nomatch z)) (fun _ _ z => z) (RVs.append rva6 (.cons ry .nil))
                    · rw [if_neg hl] at z2; exact z2.elim
        · have hn : ds.drop i = [] := List.drop_eq_nil_of_le (by omega)
          rw [hn] at z2
          unfold compW at z2
          rw [if_pos cw] at z2
          exact .inl ⟨ys (show ds.length ≤ i by omega), z2 r2 H2 _ x02 R2 ⟨Dd, av, rfl, x1.fr Dd hD, nD, hDd, rva⟩⟩
      · exfalso
        cases hd : ds.drop i with
        | nil => rw [hd] at z2; unfold compW at z2; rw [if_neg cw] at z2; exact z2
        | cons d ds' => rw [hd] at z2; unfold compW at z2; rw [if_neg cw] at z2; exact z2
theorem dl_compw {elt tg iter : Expr} {ifs : List Expr} {scope : Scope} {own : List (Str × Nat)} {vs : List Nat} {it : AEnv → Sto → Res (List D × Wt)} {gt : GvT} {q : AEnv → Sto → Res Bool} {te : EvE} (hc : X.calm = true) (hN : X.N.Nodup) (hi : DIw X W tg iter it) (ok : BlkOk X.N X.env.scope scope own)
    (hg : ∀ (s : Shared) (H : Hp) (C : Addr) (cl : List (Str × Addr)) (fp : List Addr), DG (X.blk s H scope (compEnvC scope cl C X.env) fp) tg vs gt)
    (ht : ∀ (s : Shared) (H : Hp) (C : Addr) (cl : List (Str × Addr)) (fp : List Addr), DTs (X.blk s H scope (compEnvC scope cl C X.env) fp) W0 ifs q)
    (he : ∀ (s : Shared) (H : Hp) (C : Addr) (cl : List (Str × Addr)) (fp : List Addr), DE (X.blk s H scope (compEnvC scope cl C X.env) fp) W0 elt te)
    (hv : ∀ i ∈ vs, i ∈ own.map (·.2) := by decide) (hs : ∀ x, foldedSetIterable iter X.env x = pure x := by intro _; rfl) : DL X W (.ListComp elt [⟨tg, iter, ifs, 0⟩] scope pos) (lCompW (own.map (·.2)) it gt q te) :=
  dl_pe (pe_lc (wi := liftIw X.K W it) (g := liftG X.K vs gt) (tt := liftT X.K W0 q) (te := liftE X.K W0 te) hc hN hi.pi ok (fun s H C cl fp => (hg s H C cl fp).pg) (fun s H C cl fp => (ht s H C cl fp).pt) (fun s H C cl fp => (he s H C cl fp).pe) hs) (lcw_of hv)
/-- x = [..] on one line, x a local -/
theorem ds_setC {i : Nat} {y : Str} {py spos : Pos} {elt tg iter : Expr} {ifs : List Expr} {scope : Scope} {own : List (Str × Nat)} {vs : List Nat} {it : AEnv → Sto → Res (List D × Wt)} {gt : GvT} {q : AEnv → Sto → Res Bool} {te : EvE} (hc : X.calm = true) (hN : X.N.Nodup) (hi : DIw X W tg iter it) (ok : BlkOk X.N X.env.scope scope own)
    (hg : ∀ (s : Shared) (H : Hp) (C : Addr) (cl : List (Str × Addr)) (fp : List Addr), DG (X.blk s H scope (compEnvC scope cl C X.env) fp) tg vs gt)
    (ht : ∀ (s : Shared) (H : Hp) (C : Addr) (cl : List (Str × Addr)) (fp : List Addr), DTs (X.blk s H scope (compEnvC scope cl C X.env) fp) W0 ifs q)
    (he : ∀ (s : Shared) (H : Hp) (C : Addr) (cl : List (Str × Addr)) (fp : List Addr), DE (X.blk s H scope (compEnvC scope cl C X.env) fp) W0 elt te)
    (hsw : swapsWith (.ListComp elt [⟨tg, iter, ifs, 0⟩] scope pos) (some (.Name y py)) spos.line X.env = pure true) (hy : X.N[i]? = some y := by rfl) (hyl : X.env.scope.names.lookup y = some .local := by rfl)
    (hv : ∀ i ∈ vs, i ∈ own.map (·.2) := by decide) (hs : ∀ x, foldedSetIterable iter X.env x = pure x := by intro _; rfl) : DS X W (.Assign [.Name y py] (.ListComp elt [⟨tg, iter, ifs, 0⟩] scope pos) spos) (sSet i (eMat (lCompW (own.map (·.2)) it gt q te))) :=
  s_ps (ps_setLc (wi := liftIw X.K W it) (g := liftG X.K vs gt) (tt := liftT X.K W0 q) (te := liftE X.K W0 te) hc hN hy hyl hsw hi.pi ok (fun s H C cl fp => (hg s H C cl fp).pg) (fun s H C cl fp => (ht s H C cl fp).pt) (fun s H C cl fp => (he s H C cl fp).pe) hs) fun E s H ⟨r, env, S, R, z⟩ => by
    refine lcw_of hv s H _ ⟨r, env, S, R, ?_⟩
    cases hL : lCompW (own.map (·.2)) it gt q te env S with
    | bad => simp only [sSet, eMat, hL, Res.bind, sbind] at z; exact z
    | exc c S1 => simp only [sSet, eMat, hL, Res.bind, sbind] at z; exact fun r' H' cls dx x' R' rx => z r' H' s cls dx x' (R.ext x' R') rx
    | ok ds S1 =>
      simp only [sSet, eMat, hL, Res.bind, sbind] at z
      intro r' H' v x' R' rv
      obtain ⟨a, us, rfl, h0, na, ha, q0⟩ := rv
      obtain ⟨R2, x2⟩ := R'.adopt x' h0 na ha q0
      exact z _ _ _ x2 ((R.ext x2 R2).set (.loc (by rw [← R'.len]; simp)))
end
end DV
/-! DW7: a new list times an int; a named list and a new one put together. -/
namespace DV
open PySem PySem.Spec PyProof.Rows L2
section
variable {X : Cx} {W : WX} {a b c e o : Expr} {es : List Expr} {fa fb fc fo : EvE} {ga gb : AEnv → Sto → Res (List D)} {pos p p2 : Pos} {x : Str}
@[simp] def lMulK (xs : List D) (d : D) (S : Sto) : Res (List D) := match d with
  | .int k => if rngB k = true ∧ xs.length * k.toNat ≤ LN then .ok (List.replicate k.toNat xs).flatten S else .bad
  | _ => .bad
@[simp] def lMul (ga : AEnv → Sto → Res (List D)) (fb : EvE) : AEnv → Sto → Res (List D) := fun env S => (ga env S).bind fun xs S1 => (fb env S1).bind fun d S2 => lMulK xs d S2
theorem dl_mul (ha : DL X W a ga) (hb : DE X W b fb) : DL X W (.BinOp a .Mult b pos) (lMul ga fb) :=
  dl_pe (pe_op op_rep ha.pe hb.pe) fun s H Q ⟨r, env, S, R, z⟩ => by
    refine lift_map (RR := RVL X.K) (g := fun xs env S1 => (fb env S1).bind fun d S2 => lMulK xs d S2) R z fun xs S1 r1 H1 v e1 R1 rv z1 => ?_
    obtain ⟨l, vs, rfl, h0, na, ha, q⟩ := rv
    have z1' : resP X.K W (RVL X.K) r1 H1 s ((fb env S1).bind fun d S2 => lMulK xs d S2) Q := resP.ext anti_L z1 e1
    refine lift_bind (RR := RVE X.K) (g := fun d env S2 => lMulK xs d S2) anti_L R1 z1' fun d S2 r2 H2 w e2 R2 rw' z2 => ?_
    simp only [lMulK] at z2
    split at z2
    · rename_i k
      cases rw'
      by_cases hk : rngB k = true ∧ xs.length * k.toNat ≤ LN
      · rw [if_pos hk] at z2
        obtain ⟨h1, h2⟩ := rngB_iff.mp hk.1
        refine ⟨l, k, vs, rfl, rfl, (e2.keep l _ na ha).1, by omega, by omega, by rw [← q.length]; exact LN_line hk.2, fun p hp => ?_⟩
        exact new_lst z2 (Ext.refl r2 H2) R2.st (RVs.rep (RVs.ext q R1.st e2) _) hp
      · rw [if_neg hk] at z2; exact z2.elim
    · exact z2.elim
@[simp] def lCat1K (d : D) (ys : List D) (S : Sto) : Res (List D) := match mutL d S with
  | some (_, xs) => if xs.length + ys.length ≤ LN then .ok (xs ++ ys) S else .bad
  | none => .bad
@[simp] def lCat1 (fa : EvE) (gb : AEnv → Sto → Res (List D)) : AEnv → Sto → Res (List D) := fun env S => (fa env S).bind fun d S1 => (gb env S1).bind fun ys S2 => lCat1K d ys S2
theorem dl_cat1 (ha : DE X W a fa) (hb : DL X W b gb) : DL X W (.BinOp a .Add b pos) (lCat1 fa gb) :=
  dl_pe (pe_op op_cat ha.pe hb.pe) fun s H Q ⟨r, env, S, R, z⟩ => by
    refine lift_map (RR := RVE X.K) (g := fun d env S1 => (gb env S1).bind fun ys S2 => lCat1K d ys S2) R z fun d S1 r1 H1 v e1 R1 rv z1 => ?_
    have z1' : resP X.K W (RVL X.K) r1 H1 s ((gb env S1).bind fun ys S2 => lCat1K d ys S2) Q := resP.ext anti_L z1 e1
    refine lift_map (RR := RVL X.K) (g := fun ys env S2 => lCat1K d ys S2) R1 z1' fun ys S2 r2 H2 w e2 R2 rw' z2 => ?_
    obtain ⟨b, us, rfl, h0', nb, hb, q'⟩ := rw'
    simp only [lCat1K] at z2
    split at z2
    · rename_i n xs hm
      by_cases hl : xs.length + ys.length ≤ LN
      · rw [if_pos hl] at z2
        obtain ⟨l, vs, rfl, _, hl2, q, _⟩ := mutL_of R2.st (RV.ext rv R1.st e2) hm
        refine ⟨l, b, vs, us, rfl, rfl, hl2, hb, by rw [← q.length, ← q'.length]; exact LN_line hl, fun p hp => ?_⟩
        exact new_lst z2 e2 R2.st (RVs.append q q') hp
      · rw [if_neg hl] at z2; exact z2.elim
    · exact z2.elim
end
end DV
/-! DW8: instances: made, their attributes, their methods (none of which raises). -/
namespace DV
open PySem PySem.Spec PyProof.Rows L2
theorem pass_no {X : Cx} : Passes (L2.CX X.prog X.w) X (fun _ _ _ => False) := fun _ _ _ _ _ _ _ ⟨_, _, _, _, _, _, _, _, _, _, _, _, no⟩ => no.elim
def putFD (f : Str) (v : D) : List (Str × D) → List (Str × D)
  | [] => [(f, v)]
  | (g, x) :: r => if g = f then (g, v) :: r else (g, x) :: putFD f v r
theorem PKV.putF {K : PySem.W.Frag} {r : List Addr} {H : Hp} {f : Str} {d : D} {v : V} (hv : RV K r H d v) : ∀ {fs : List (Str × D)} {ws : List (Str × V)}, PKV K r H fs ws → PKV K r H (putFD f d fs) (L2.putF f v ws)
  | _, _, .nil => .cons ⟨rfl, hv⟩ .nil
  | (a, d') :: fs, (b, v') :: ws, .cons ⟨h1, h2⟩ t => by
    have h1' : a = b := h1
    subst h1'
    unfold putFD L2.putF
    by_cases h : a = f
    · rw [if_pos h, if_pos h]; exact .cons ⟨rfl, hv⟩ t
    · rw [if_neg h, if_neg h]; exact .cons ⟨rfl, h2⟩ (PKV.putF hv t)
theorem PKV.lookS {K : PySem.W.Frag} {r : List Addr} {H : Hp} {f : Str} : ∀ {fs : List (Str × D)} {ws : List (Str × V)}, PKV K r H fs ws → (∀ d, fs.lookup f = some d → ∃ v, ws.lookup f = some v ∧ RV K r H d v) ∧ (fs.lookup f = none → ws.lookup f = none)
  | _, _, .nil => ⟨fun d h => (by cases h), fun _ => rfl⟩
  | (a, d') :: fs, (b, v') :: ws, .cons ⟨h1, h2⟩ t => by
    have h1' : a = b := h1
    subst h1'
    have ih := PKV.lookS (f := f) t
    simp only [List.lookup_cons]
    by_cases h : (f == a) = true
    · simp only [h]
      exact ⟨fun d e => (by cases e; exact ⟨v', rfl, h2⟩), fun e => (by cases e)⟩
    · rw [Bool.not_eq_true] at h
      simp only [h]; exact ih
/-- the instance's own attributes -/
def insD (C : Addr) (d : D) (S : Sto) : Option (Nat × List (Str × D)) := match d with
  | .loc n => match S[n]? with
    | some (.ins C' fs) => if C' = C then some (n, fs) else none
    | _ => none
  | _ => none
theorem ins_of {K : PySem.W.Frag} {r : List Addr} {H : Hp} {S : Sto} {C : Addr} {d : D} {v : V} {n : Nat} {fs : List (Str × D)} (R : RSt K r H S) (h : RV K r H d v) (e : insD C d S = some (n, fs)) :
    ∃ a dx ws, d = .loc n ∧ v = .ref a ∧ r[n]? = some a ∧ H a = some (.ins C dx ws) ∧ PKV K r H fs ws := by
  cases h with
  | @loc k a h1 =>
    simp only [insD] at e
    split at e
    · rename_i C' fs' e2
      split at e
      · rename_i hC
        cases e
        subst hC
        obtain ⟨b, e3, dx, ws, e4, q⟩ := R.at_ _ _ e2
        rw [h1] at e3; cases e3
        exact ⟨a, dx, ws, rfl, rfl, h1, e4, q⟩
      · cases e
    · cases e
  | _ => simp [insD] at e
section
variable {X : Cx} {W : WX} {a b c e o : Expr} {es : List Expr} {fa fb fc fo : EvE} {ga gb : AEnv → Sto → Res (List D)} {pos p p2 pos' apos : Pos} {x : Str}
def fldD (C : Addr) (f : Str) (d : D) (S : Sto) : Option D := (insD C d S).bind fun p => p.2.lookup f
@[simp] def eFld (C : Addr) (f : Str) (fo : EvE) : EvE := fun env S => (fo env S).bind fun d S1 => ofO (fldD C f d S1) S1
theorem d_fld {C : Addr} {f : Str} (c : Cls X.K C) (na : NoAttr X.K C f) (ho : DE X W o fo) (hb : attributeBase o f X.env (eval o X.env) = eval o X.env := by rfl) : DE X W (.Attribute o f pos) (eFld C f fo) :=
  d_pe (pe_fld ho.pe hb) fun s H Q ⟨r, env, S, R, z⟩ => by
    refine lift_bind (g := fun d env S1 => ofO (fldD C f d S1) S1) anti_E R z fun d S1 r1 H1 v e1 R1 rv z1 => ?_
    unfold fldD at z1
    cases hi : insD C d S1 with
    | none => rw [hi] at z1; exact z1.elim
    | some pr =>
      obtain ⟨n, fs⟩ := pr
      rw [hi, Option.bind_some] at z1
      obtain ⟨a, dx, ws, rfl, rfl, h1, h2, q⟩ := ins_of R1.st rv hi
      cases hl : fs.lookup f with
      | none => rw [hl] at z1; exact z1.elim
      | some y =>
        rw [hl] at z1
        obtain ⟨u, g1, g2⟩ := (PKV.lookS q).1 y hl
        exact ⟨a, C, dx, ws, u, rfl, h2, c, na, g1, z1 r1 H1 u (Ext.refl r1 H1) R1.st g2⟩
/-- the store behind o.f = v -/
def setF (C : Addr) (f : Str) (o v : D) (S : Sto) : Option Sto := match insD C o S with
  | some (n, fs) => if fs.length < 1000 then some (S.set n (.ins C (putFD f v fs))) else none
  | none => none
@[simp] def sFldD (C : Addr) (f : Str) (fo fv : EvE) : EvS := fun env S => sbind (fv env S) env fun v S1 => sbind (fo env S1) env fun o S2 => sNxS env (setF C f o v S2)
theorem ds_fld {C : Addr} {f : Str} {fv : EvE} (c : Cls X.K C) (na : NoAttr X.K C f) (ho : DE X W o fo) (hv : DE X W e fv) (hs : swapsWith e (some (.Attribute o f pos')) pos.line X.env = pure false := by rfl) : DS X W (.Assign [.Attribute o f pos'] e pos) (sFldD C f fo fv) :=
  s_ps (ps_fld ho.pe hv.pe hs) fun E s H ⟨r, env, S, R, z⟩ => by
    refine slift_bind (RR := RVE X.K) (g := fun v S1 => sbind (fo env S1) env fun o S2 => sNxS env (setF C f o v S2)) R z fun v S1 r1 H1 xv e1 R1 rv z1 => ?_
    refine slift_bind (RR := RVE X.K) (g := fun o S2 => sNxS env (setF C f o v S2)) R1 z1 fun o S2 r2 H2 xo e2 R2 ro z2 => ?_
    unfold setF at z2
    cases hi : insD C o S2 with
    | none => rw [hi] at z2; exact z2.elim
    | some pr =>
      obtain ⟨n, fs⟩ := pr
      rw [hi] at z2
      simp only at z2
      obtain ⟨a, dx, ws, rfl, rfl, h1, h2, q⟩ := ins_of R2.st ro hi
      by_cases hl : fs.length < 1000
      · rw [if_pos hl] at z2
        refine ⟨a, C, dx, ws, rfl, h2, c, na, by have := q.len; omega, ?_⟩
        have g : TGrow H2 (upd H2 a (.ins C dx (L2.putF f xv ws))) := TGrow.upd h2 (fun _ z => nomatch z) (fun _ _ z => nomatch z)
        have rv2 : RV X.K r2 H2 v xv := RV.ext rv R1.st e2
        obtain ⟨R3, x3⟩ := R2.st.put (o := .ins C dx (L2.putF f xv ws)) (m := .ins C (putFD f v fs)) h1 (fun o u z => by rw [h2] at z; cases z) ⟨dx, _, upd_same, (PKV.putF rv2 q).mono g fun _ _ z => z⟩
        exact z2 r2 _ s x3 (R2.ext x3 R3)
      · rw [if_neg hl] at z2; exact z2.elim
end
end DV
/-! DW9: methods called, instances made. -/
namespace DV
open PySem PySem.Spec PyProof.Rows L2
/-- a method of the class at C does what T says -/
def CalM (P : Program) (w : World) (K : PySem.W.Frag) (mg : Str → Option Value) (base : Heap) (C : Addr) (nm : Str) (k : Nat) (ps : List Str) (T : List D → Sto → Res D) : Prop :=
  ∃ f fd, Meth K C nm f ∧ Binds K fd ps [] ∧ FnOk P w K mg base (L2.CX P w) k f fd ps (spD K ps.length T)
/-- the class nm at C, its __init__ does what T says -/
def CalC (P : Program) (w : World) (K : PySem.W.Frag) (mg : Str → Option Value) (base : Heap) (C : Addr) (nm : Str) (k : Nat) (ps : List Str) (T : List D → Sto → Res D) : Prop :=
  ∃ f fd, mg nm = some (.ref C) ∧ Mk K C f ∧ Binds K fd ps [] ∧ FnOk P w K mg base (L2.CX P w) k f fd ps (spD K ps.length T)
@[simp] def noX (x : Res D) : Res D := match x with
  | .ok d S => .ok d S
  | _ => .bad
theorem noX_ok {x : Res D} {K : PySem.W.Frag} {W : WX} {r0 : List Addr} {H0 : Hp} {t : L2.St} {Q : VK} (h : resP K W (RVE K) r0 H0 t (noX x) Q) : ∃ d S, x = .ok d S ∧ resP K W (RVE K) r0 H0 t (.ok d S) Q := by
  cases x with
  | ok d S => exact ⟨d, S, rfl, h⟩
  | exc c S => exact h.elim
  | bad => exact h.elim
section
variable {X : Cx} {W : WX} {a b c e o : Expr} {es : List Expr} {fa fb fc fo : EvE} {ga gb : AEnv → Sto → Res (List D)} {pos p p2 pos' apos : Pos} {x : Str}
@[simp] def mthK (C : Addr) (m : Str) (n : Nat) (T : List D → Sto → Res D) (ga : AEnv → Sto → Res (List D)) (env : AEnv) (d : D) (S1 : Sto) : Res D := match insD C d S1 with
  | some q => if (q.2.lookup m).isNone = true then (ga env S1).bind fun ds S2 => if ds.length + 1 = n then noX (T (d :: ds) S2) else .bad else .bad
  | none => .bad
@[simp] def eMth (C : Addr) (m : Str) (n : Nat) (T : List D → Sto → Res D) (fo : EvE) (ga : AEnv → Sto → Res (List D)) : EvE := fun env S => (fo env S).bind fun d S1 => mthK C m n T ga env d S1
theorem d_mth {C : Addr} {m : Str} {k k' n : Nat} {ps : List Str} {T : List D → Sto → Res D} {pl : Sem Bool} (c : Cls X.K C) (G : CalM X.prog X.w X.K X.mg X.base C m k ps T) (hr : Room k' X.A) (hk : k ≤ k') (ho : DE X W o fo) (ha : DA X W (e :: es) ga) (hn : ps.length = n := by rfl)
    (hst : starEach (e :: es) X.env = (false, eval e X.env) :: starEach es X.env := by rfl) (hpl : (backTo pos (starEach es X.env)).any (·.1) = false := by rfl)
    (ht : eval (.Call (.Attribute o m apos) (e :: es) [] pos) X.env = (do
      let ov ← eval o X.env
      standAt apos.atName
      let (f, first) ← holding [ov] (getMethod ov m pl)
      callWith pos f first (backTo pos (starEach (e :: es) X.env)) (backToKw pos (keywordEach [] X.env))) := by rfl) : DE X W (.Call (.Attribute o m apos) (e :: es) [] pos) (eMth C m n T fo ga) := by
  subst hn
  obtain ⟨f, fd, hm, hb, F⟩ := G
  refine d_pe (pe_meth (pl := pl) ho.pe c hm F (hr.mono hk) hb .nil pass_no ha.pa hst hpl ht) fun s H Q ⟨r, env, S, R, z⟩ => ?_
  refine lift_bind (g := fun d env S1 => mthK C m ps.length T ga env d S1) anti_E R z fun d S1 r1 H1 v e1 R1 rv z1 => ?_
  simp only [mthK] at z1
  cases hi : insD C d S1 with
  | none => rw [hi] at z1; exact z1.elim
  | some pr =>
    obtain ⟨n0, fs⟩ := pr
    rw [hi] at z1
    simp only at z1
    by_cases hl : (fs.lookup m).isNone = true
    · rw [if_pos hl] at z1
      obtain ⟨a, dx, ws, rfl, rfl, h1, h2, q⟩ := ins_of R1.st rv hi
      refine ⟨a, dx, ws, rfl, h2, (PKV.lookS q).2 (by simpa using hl), ?_⟩
      refine lift_bind (RR := RVA X.K) (g := fun ds env S2 => (if ds.length + 1 = ps.length then noX (T (.loc n0 :: ds) S2) else .bad : Res D)) anti_E R1 z1 fun ds S2 r2 H2 vs e2 R2 rvs z2 => ?_
      by_cases hl2 : ds.length + 1 = ps.length
      · rw [if_pos hl2] at z2
        obtain ⟨d', S', hT, z3⟩ := noX_ok z2
        rw [List.append_nil]
        refine ⟨by rw [List.length_cons, ← rvs.length]; exact hl2, r2, S2, .loc n0 :: ds, R2.st, .cons (.loc (e2.get h1)) rvs, ?_⟩
        rw [hT]
        exact fun r' H' v x' R' rv' => z3 r' H' v x' R' rv'
      · rw [if_neg hl2] at z2; exact z2.elim
    · rw [if_neg hl] at z1; exact z1.elim
@[simp] def mkK (x : Res D) (n : Nat) : Res D := match x with
  | .ok .non S => .ok (.loc n) S
  | _ => .bad
@[simp] def eMake (C : Addr) (n : Nat) (T : List D → Sto → Res D) (ga : AEnv → Sto → Res (List D)) : EvE := fun env S => (ga env S).bind fun ds S1 => if ds.length + 1 = n then mkK (T (.loc S1.length :: ds) (S1 ++ [.ins C []])) S1.length else .bad
theorem d_make {C : Addr} {nm : Str} {k k' n : Nat} {ps : List Str} {T : List D → Sto → Res D} (G : CalC X.prog X.w X.K X.mg X.base C nm k ps T) (hr : Room k' X.A) (hk : k + 1 ≤ k') (hg : Gl X nm) (ha : DA X W (e :: es) ga) (hn : ps.length = n := by rfl)
    (hdb : (nm == ("__debug__" : Str)) = false := by decide) (he : starEach (e :: es) X.env = (false, eval e X.env) :: starEach es X.env := by rfl) (hpl : (backTo pos (starEach es X.env)).any (·.1) = false := by rfl) : DE X W (.Call (.Name nm p) (e :: es) [] pos) (eMake C n T ga) := by
  subst hn
  obtain ⟨f, fd, hm, M, hb, F⟩ := G
  refine d_pe (pe_make M F (hr.mono hk) hg hm hb .nil pass_no ha.pa hdb he hpl) fun s H Q ⟨r, env, S, R, z⟩ => ?_
  refine lift_bind (RR := RVA X.K) (g := fun ds env S1 => (if ds.length + 1 = ps.length then mkK (T (.loc S1.length :: ds) (S1 ++ [.ins C []])) S1.length else .bad : Res D)) anti_E R z fun ds S1 r1 H1 vs e1 R1 rvs z1 => ?_
  by_cases hl : ds.length + 1 = ps.length
  · rw [if_pos hl] at z1
    intro xx dx hx hdx hne
    rw [List.append_nil]
    obtain ⟨R2, x2⟩ := R1.st.new (o := .own xx) hdx
    have hx2 : (upd H1 dx (.own xx)) xx = none := by rw [upd_ne (Ne.symm hne)]; exact hx
    obtain ⟨R3, x3⟩ := R2.alloc (o := .ins C dx []) (m := .ins C []) hx2 ⟨dx, [], upd_same, .nil⟩
    have hat : (r1 ++ [xx])[S1.length]? = some xx := by rw [← R1.st.len]; simp
    refine ⟨by rw [List.length_cons, ← rvs.length]; exact hl, r1 ++ [xx], S1 ++ [.ins C []], .loc S1.length :: ds, R3, .cons (.loc hat) (RVs.ext (RVs.ext rvs R1.st x2) R2 x3), ?_⟩
    cases hT : T (.loc S1.length :: ds) (S1 ++ [.ins C []]) with
    | bad => rw [hT] at z1; exact z1.elim
    | exc c S' => rw [hT] at z1; exact z1.elim
    | ok d S' =>
      rw [hT] at z1
      cases d with
      | non =>
        intro r' H' v x' R' rv'
        cases rv'
        exact ⟨rfl, z1 r' H' _ ((x2.trans x3).trans x') R' (.loc (x'.get hat))⟩
      | _ => exact z1.elim
  · rw [if_neg hl] at z1; exact z1.elim
end
end DV
/-! DW10: methods of the text as callees; three names at once. -/
namespace DV
open PySem PySem.Spec PyProof.Rows L2
section
variable {X : Cx} {W : WX} {a b c e o : Expr} {es : List Expr} {fa fb fc fo : EvE} {ga gb : AEnv → Sto → Res (List D)} {pos p p2 pos' apos : Pos} {x : Str}
theorem diw_of {tg iter : Expr} {it : AEnv → Sto → Res (List D)} (h : DI X W tg iter it) : DIw X W tg iter (fun env S => (it env S).bind fun ds S1 => .ok (ds, []) S1) :=
  ⟨PI.imp h.pi fun s H Ri ⟨r, env, S, R, z⟩ => by
    refine ⟨r, env, S, R, ?_⟩
    cases hi : it env S with
    | bad => simp [hi] at z
    | exc c S1 => simp only [hi, Res.bind] at z; exact z
    | ok ds S1 => simp only [hi, Res.bind] at z; exact fun r' H' J x' R' y => z r' H' J x' R' (Yw.of y)⟩
/-- a, b, c = x, y, z -/
@[simp] def sPar3K (i j l : Nat) (ds : List D) (env : AEnv) (S : Sto) : SRes := match ds with
  | [d, d', d2] => .nx (((env.set i (some d)).set j (some d')).set l (some d2)) S
  | _ => .bad
@[simp] def sPar3 (i j l : Nat) (ga : AEnv → Sto → Res (List D)) : EvS := fun env S => sbind (ga env S) env fun ds S1 => sPar3K i j l ds env S1
theorem ds_par3 {i j l : Nat} {y z y3 : Str} {px py pz pt : Pos} {kt k2 pt2} (hc : X.calm = true) (hN : X.N.Nodup) (ha : DA X W [a, b, c] ga) (hi : X.N[i]? = some y := by rfl) (hj : X.N[j]? = some z := by rfl) (hl : X.N[l]? = some y3 := by rfl) (hij : i ≠ j := by decide) (hil : i ≠ l := by decide) (hjl : j ≠ l := by decide)
    (hx : X.env.scope.names.lookup y = some .local := by rfl) (hy : X.env.scope.names.lookup z = some .local := by rfl) (hz : X.env.scope.names.lookup y3 = some .local := by rfl)
    (hw : swappedStores [.Tuple [.Name y px, .Name z py, .Name y3 pz] kt pt] (.Tuple [a, b, c] k2 pt2) X.env = pure (some [y, z, y3]) := by rfl)
    (hs : swapsWithSole [.Tuple [.Name y px, .Name z py, .Name y3 pz] kt pt] (.Tuple [a, b, c] k2 pt2) pos.line X.env = pure false := by rfl) :
    DS X W (.Assign [.Tuple [.Name y px, .Name z py, .Name y3 pz] kt pt] (.Tuple [a, b, c] k2 pt2) pos) (sPar3 i j l ga) :=
  s_ps (ps_par3 hc hN hi hj hl hij hil hjl hx hy hz ha.pa hw hs) fun E s H ⟨r, env, S, R, z⟩ => by
    refine slift_bind (RR := RVA X.K) (g := fun ds S1 => sPar3K i j l ds env S1) R z fun ds S1 r1 H1 vs e1 R1 rv z1 => ?_
    cases rv with
    | nil => exact z1.elim
    | cons h t =>
      cases t with
      | nil => exact z1.elim
      | cons h2 t2 =>
        cases t2 with
        | nil => exact z1.elim
        | cons h3 t3 =>
          cases t3 with
          | cons _ _ => exact z1.elim
          | nil => exact ⟨_, _, _, rfl, z1 r1 H1 _ (Ext.refl r1 H1) (((R1.set h).set h2).set h3)⟩
end
section
variable {P : Program} {w : World} {K : PySem.W.Frag} {mg : Str → Option Value} {base : Heap} {nm qual : Str} {st : Stmt} {f C : Addr} {fd : FuncData} {N ps : List Str} {k : Nat} {body : EvS}
theorem fn_mk (F : Fun K nm qual st f fd) (Sc : FnScope N ps (defScope st))
    (h : ∀ (cdv : Value) (A : Around) (outer : List Env) (s : Shared) (H : Hp) (E : XK), Room k (A.deeper (envOfC qual (defScope st) s.heap.objs.size f cdv)) → Takes (cxOf (L2.CX P w) P w K mg base N qual (defScope st) f cdv A outer s H E) (WE0 E) →
      PassesOwn (model P w) (A.deeper (envOfC qual (defScope st) s.heap.objs.size f cdv)) (cxOf (L2.CX P w) P w K mg base N qual (defScope st) f cdv A outer s H E).env (cxOf (L2.CX P w) P w K mg base N qual (defScope st) f cdv A outer s H E).xe →
      DSs (cxOf (L2.CX P w) P w K mg base N qual (defScope st) f cdv A outer s H E) (WE0 E) (defBody st) body) : FnOk P w K mg base (L2.CX P w) (k + 1) f fd ps (spD K ps.length (runD N.length body)) :=
  fd_of F Sc fun cdv A outer s H E hr tk => h cdv A outer s H E hr tk (passes_of (X := cxOf (L2.CX P w) P w K mg base N qual (defScope st) f cdv A outer s H E) rfl)
end
end DV
/-! printed by gen2.py: the mirrors and the derivations of the defs of law k41 -/
namespace DV
open PySem PySem.Spec PyProof.Rows L2
noncomputable section
def topS (i : Nat) : Stmt := PySem.Challenge.pw_counterpane_k41_points.main.body.getD i (.Pass ⟨0, 0, 0, 0⟩)
/-! common_divisor -/
abbrev s_common_divisor : Stmt := topS 3
theorem sc_common_divisor : FnScope ["first", "second"] ["first", "second"] (defScope s_common_divisor) := ⟨rfl, rfl, rfl, by decide +kernel, rfl, by decide +kernel, by decide +kernel⟩
def b_common_divisor : EvS :=
    (sSeq (sPar 0 1 (aCons (eCB gAbs (aCons (eVar 0) aNil)) (aCons (eCB gAbs (aCons (eVar 1) aNil)) aNil)))
    (sSeq (sWhile (fuI 1) (tBin (oBn cEq) (eVar 1) (eC (.int 0))) (sPar 0 1 (aCons (eVar 1) (aCons (eBin oMod (eVar 0) (eVar 1)) aNil))))
    (sRet (eVar 0))))
def T_common_divisor (ds : List D) (S : Sto) : Res D := runD 2 b_common_divisor ds S
set_option linter.unusedVariables false in
theorem ok_common_divisor {P : Program} {w : World} {K : PySem.W.Frag} {mg : Str → Option Value} {base : Heap} {f : Addr} {fd : FuncData} (F : Fun K "common_divisor" "common_divisor" s_common_divisor f fd) (m : mg "common_divisor" = some (.ref f)) (B : Bt mg)  : Cal P w K mg base "common_divisor" 1 ["first", "second"] T_common_divisor :=
  cal_mk F (F.binds (ps := ["first", "second"]) fun _ _ _ _ _ _ us hl => match us, hl with | [_, _], _ => rfl) m sc_common_divisor fun cdv A outer s H E hr tk hp =>
    (dss_cons (ds_par (i := 0) (j := 1) rfl sc_common_divisor.nd (da_cons (d_callB (c_abs) (by rfl) B.abs bt_abs (da_cons (dv 0) da_nil)) (da_cons (d_callB (c_abs) (by rfl) B.abs bt_abs (da_cons (dv 1) da_nil)) da_nil)))
    (dss_cons (ds_while (fuel := (fuI 1)) hp (dt_cmp (o_ne (un64 hr)) (dv 1) d_int (nomark _)) (dss_one (ds_par (i := 0) (j := 1) rfl sc_common_divisor.nd (da_cons (dv 1) (da_cons (d_bin o_mod (dv 0) (dv 1)) da_nil)))))
    (dss_one (ds_ret (dv 0)))))
/-! ratio -/
abbrev s_ratio : Stmt := topS 4
theorem sc_ratio : FnScope ["above", "below", "both"] ["above", "below"] (defScope s_ratio) := ⟨rfl, rfl, rfl, by decide +kernel, rfl, by decide +kernel, by decide +kernel⟩
def b_ratio : EvS :=
    (sSeq (sIf (tBin (oBl cLt) (eVar 1) (eC (.int 0))) (sPar 0 1 (aCons (eUn oNeg (eVar 0)) (aCons (eUn oNeg (eVar 1)) aNil))) sNil)
    (sSeq (sIf (tBin (oBn cEq) (eVar 1) (eC (.int 1))) (sSeq (sSet 2 (eCall 2 T_common_divisor (aCons (eVar 0) (aCons (eVar 1) aNil))))
    (sPar 0 1 (aCons (eBin oDiv (eVar 0) (eVar 2)) (aCons (eBin oDiv (eVar 1) (eVar 2)) aNil)))) sNil)
    (sRet (eTup (aCons (eVar 0) (aCons (eVar 1) aNil))))))
def T_ratio (ds : List D) (S : Sto) : Res D := runD 3 b_ratio ds S
set_option linter.unusedVariables false in
theorem ok_ratio {P : Program} {w : World} {K : PySem.W.Frag} {mg : Str → Option Value} {base : Heap} {f : Addr} {fd : FuncData} (F : Fun K "ratio" "ratio" s_ratio f fd) (m : mg "ratio" = some (.ref f)) (B : Bt mg) (G_common_divisor : Cal P w K mg base "common_divisor" 1 ["first", "second"] T_common_divisor) : Cal P w K mg base "ratio" 2 ["above", "below"] T_ratio :=
  cal_mk F (F.binds (ps := ["above", "below"]) fun _ _ _ _ _ _ us hl => match us, hl with | [_, _], _ => rfl) m sc_ratio fun cdv A outer s H E hr tk hp =>
    (dss_cons (ds_if (dt_cmp (o_lt (un0 hr)) (dv 1) d_int (nomark _)) (dss_one (ds_par (i := 0) (j := 1) rfl sc_ratio.nd (da_cons (d_un o_neg (dv 0)) (da_cons (d_un o_neg (dv 1)) da_nil)))) dss_nil)
    (dss_cons (ds_if (dt_cmp (o_ne (un64 hr)) (dv 1) d_int (nomark _)) (dss_cons (ds_set (i := 2) sc_ratio.nd (d_cal G_common_divisor hr (by decide) tk (by rfl) (da_cons (dv 0) (da_cons (dv 1) da_nil))))
    (dss_one (ds_par (i := 0) (j := 1) rfl sc_ratio.nd (da_cons (d_bin o_div (dv 0) (dv 2)) (da_cons (d_bin o_div (dv 1) (dv 2)) da_nil))))) dss_nil)
    (dss_one (ds_ret (d_tup (da_cons (dv 0) (da_cons (dv 1) da_nil)))))))
/-! plus -/
abbrev s_plus : Stmt := topS 5
theorem sc_plus : FnScope ["first", "second"] ["first", "second"] (defScope s_plus) := ⟨rfl, rfl, rfl, by decide +kernel, rfl, by decide +kernel, by decide +kernel⟩
def b_plus : EvS :=
    (sSeq (sIf (tCh (oBl cEq) (oBl cEq) (eIx (eVar 0) (eC (.int 1))) (eIx (eVar 1) (eC (.int 1))) (eC (.int 1))) (sRet (eTup (aCons (eBin oAdd (eIx (eVar 0) (eC (.int 0))) (eIx (eVar 1) (eC (.int 0)))) (aCons (eC (.int 1)) aNil)))) sNil)
    (sRet (eCall 2 T_ratio (aCons (eBin oAdd (eBin oMul (eIx (eVar 0) (eC (.int 0))) (eIx (eVar 1) (eC (.int 1)))) (eBin oMul (eIx (eVar 1) (eC (.int 0))) (eIx (eVar 0) (eC (.int 1))))) (aCons (eBin oMul (eIx (eVar 0) (eC (.int 1))) (eIx (eVar 1) (eC (.int 1)))) aNil)))))
def T_plus (ds : List D) (S : Sto) : Res D := runD 2 b_plus ds S
set_option linter.unusedVariables false in
theorem ok_plus {P : Program} {w : World} {K : PySem.W.Frag} {mg : Str → Option Value} {base : Heap} {f : Addr} {fd : FuncData} (F : Fun K "plus" "plus" s_plus f fd) (m : mg "plus" = some (.ref f)) (B : Bt mg) (G_ratio : Cal P w K mg base "ratio" 2 ["above", "below"] T_ratio) : Cal P w K mg base "plus" 3 ["first", "second"] T_plus :=
  cal_mk F (F.binds (ps := ["first", "second"]) fun _ _ _ _ _ _ us hl => match us, hl with | [_, _], _ => rfl) m sc_plus fun cdv A outer s H E hr tk hp =>
    (dss_cons (ds_if (dt_chain (o_eq (un64 hr)) (o_eq (un64 hr)) (d_ix (dv 0) d_int) (d_ix (dv 1) d_int) d_int) (dss_one (ds_ret (d_tup (da_cons (d_bin o_add (d_ix (dv 0) d_int) (d_ix (dv 1) d_int)) (da_cons d_int da_nil))))) dss_nil)
    (dss_one (ds_ret (d_cal G_ratio hr (by decide) tk (by rfl) (da_cons (d_bin o_add (d_bin o_mul (d_ix (dv 0) d_int) (d_ix (dv 1) d_int)) (d_bin o_mul (d_ix (dv 1) d_int) (d_ix (dv 0) d_int))) (da_cons (d_bin o_mul (d_ix (dv 0) d_int) (d_ix (dv 1) d_int)) da_nil))))))
/-! times -/
abbrev s_times : Stmt := topS 6
theorem sc_times : FnScope ["first", "second"] ["first", "second"] (defScope s_times) := ⟨rfl, rfl, rfl, by decide +kernel, rfl, by decide +kernel, by decide +kernel⟩
def b_times : EvS :=
    (sRet (eCall 2 T_ratio (aCons (eBin oMul (eIx (eVar 0) (eC (.int 0))) (eIx (eVar 1) (eC (.int 0)))) (aCons (eBin oMul (eIx (eVar 0) (eC (.int 1))) (eIx (eVar 1) (eC (.int 1)))) aNil))))
def T_times (ds : List D) (S : Sto) : Res D := runD 2 b_times ds S
set_option linter.unusedVariables false in
theorem ok_times {P : Program} {w : World} {K : PySem.W.Frag} {mg : Str → Option Value} {base : Heap} {f : Addr} {fd : FuncData} (F : Fun K "times" "times" s_times f fd) (m : mg "times" = some (.ref f)) (B : Bt mg) (G_ratio : Cal P w K mg base "ratio" 2 ["above", "below"] T_ratio) : Cal P w K mg base "times" 3 ["first", "second"] T_times :=
  cal_mk F (F.binds (ps := ["first", "second"]) fun _ _ _ _ _ _ us hl => match us, hl with | [_, _], _ => rfl) m sc_times fun cdv A outer s H E hr tk hp =>
    (dss_one (ds_ret (d_cal G_ratio hr (by decide) tk (by rfl) (da_cons (d_bin o_mul (d_ix (dv 0) d_int) (d_ix (dv 1) d_int)) (da_cons (d_bin o_mul (d_ix (dv 0) d_int) (d_ix (dv 1) d_int)) da_nil)))))
/-! is_integer -/
abbrev s_is_integer : Stmt := topS 7
theorem sc_is_integer : FnScope ["value"] ["value"] (defScope s_is_integer) := ⟨rfl, rfl, rfl, by decide +kernel, rfl, by decide +kernel, by decide +kernel⟩
def b_is_integer : EvS :=
    (sRet (eAnd (eIsi "int" (eVar 0)) (eNot (eIsi "bool" (eVar 0)))))
def T_is_integer (ds : List D) (S : Sto) : Res D := runD 1 b_is_integer ds S
set_option linter.unusedVariables false in
theorem ok_is_integer {P : Program} {w : World} {K : PySem.W.Frag} {mg : Str → Option Value} {base : Heap} {f : Addr} {fd : FuncData} (F : Fun K "is_integer" "is_integer" s_is_integer f fd) (m : mg "is_integer" = some (.ref f)) (B : Bt mg)  : Cal P w K mg base "is_integer" 1 ["value"] T_is_integer :=
  cal_mk F (F.binds (ps := ["value"]) fun _ _ _ _ _ _ us hl => match us, hl with | [_], _ => rfl) m sc_is_integer fun cdv A outer s H E hr tk hp =>
    (dss_one (ds_ret (d_and (d_isi (by rfl) B.isi (by rfl) B.int bt_int (dv 0)) (d_one (d_not (d_isi (by rfl) B.isi (by rfl) B.bool bt_bool (dv 0)))))))
/-! is_ratio -/
abbrev s_is_ratio : Stmt := topS 8
theorem sc_is_ratio : FnScope ["value"] ["value"] (defScope s_is_ratio) := ⟨rfl, rfl, rfl, by decide +kernel, rfl, by decide +kernel, by decide +kernel⟩
def b_is_ratio : EvS :=
    (sSeq (sIf (bOr (bNot (tTru (eIsi "tuple" (eVar 0)))) (bOr (tBin (oBn cEq) (eCB gLenD (aCons (eVar 0) aNil)) (eC (.int 2))) (bOr (bNot (tTru (eCall 1 T_is_integer (aCons (eIx (eVar 0) (eC (.int 0))) aNil)))) (bNot (tTru (eCall 1 T_is_integer (aCons (eIx (eVar 0) (eC (.int 1))) aNil))))))) (sRet (eC (.bl false))) sNil)
    (sRet (eAnd (eBin (oBl cGt) (eIx (eVar 0) (eC (.int 1))) (eC (.int 0))) (eBin (oBl cEq) (eCall 2 T_common_divisor (aCons (eIx (eVar 0) (eC (.int 0))) (aCons (eIx (eVar 0) (eC (.int 1))) aNil))) (eC (.int 1))))))
def T_is_ratio (ds : List D) (S : Sto) : Res D := runD 1 b_is_ratio ds S
set_option linter.unusedVariables false in
theorem ok_is_ratio {P : Program} {w : World} {K : PySem.W.Frag} {mg : Str → Option Value} {base : Heap} {f : Addr} {fd : FuncData} (F : Fun K "is_ratio" "is_ratio" s_is_ratio f fd) (m : mg "is_ratio" = some (.ref f)) (B : Bt mg) (G_is_integer : Cal P w K mg base "is_integer" 1 ["value"] T_is_integer) (G_common_divisor : Cal P w K mg base "common_divisor" 1 ["first", "second"] T_common_divisor) : Cal P w K mg base "is_ratio" 2 ["value"] T_is_ratio :=
  cal_mk F (F.binds (ps := ["value"]) fun _ _ _ _ _ _ us hl => match us, hl with | [_], _ => rfl) m sc_is_ratio fun cdv A outer s H E hr tk hp =>
    (dss_cons (ds_if (dt_w (dw_or (dt_not (dt_tru (d_isi (by rfl) B.isi (by rfl) B.tuple bt_tuple (dv 0)))) (dw_or (dt_cmp (o_ne (un64 hr)) (d_callB (c_len) (by rfl) B.len bt_len (da_cons (dv 0) da_nil)) d_int (nomark _)) (dw_or (dt_not (dt_tru (d_cal G_is_integer hr (by decide) tk (by rfl) (da_cons (d_ix (dv 0) d_int) da_nil)))) (dw_or1 (dt_not (dt_tru (d_cal G_is_integer hr (by decide) tk (by rfl) (da_cons (d_ix (dv 0) d_int) da_nil))))))))) (dss_one (ds_ret d_bl)) dss_nil)
    (dss_one (ds_ret (d_and (d_cmp (o_gt) (d_ix (dv 0) d_int) d_int (nomark _)) (d_one (d_cmp (o_eq (un64 hr)) (d_cal G_common_divisor hr (by decide) tk (by rfl) (da_cons (d_ix (dv 0) d_int) (da_cons (d_ix (dv 0) d_int) da_nil))) d_int (nomark _)))))))
/-! has_digits -/
abbrev s_has_digits : Stmt := topS 9
theorem sc_has_digits : FnScope ["one", "most", "bound", "turn"] ["one", "most"] (defScope s_has_digits) := ⟨rfl, rfl, rfl, by decide +kernel, rfl, by decide +kernel, by decide +kernel⟩
def b_has_digits : EvS :=
    (sSeq (sSet 2 (eC (.int 1)))
    (sSeq (sFor (iRng1' (aCons (eBin oDiv (eVar 1) (eC (.int 50))) aNil)) (gN 3) (sSet 2 (eBin oMul (eVar 2) (eBin oPow (eC (.int 10)) (eC (.int 50))))))
    (sRet (eAnd (eBin (oBl cLt) (eCB gAbs (aCons (eIx (eVar 0) (eC (.int 0))) aNil)) (eVar 2)) (eBin (oBl cLt) (eIx (eVar 0) (eC (.int 1))) (eVar 2))))))
def T_has_digits (ds : List D) (S : Sto) : Res D := runD 4 b_has_digits ds S
set_option linter.unusedVariables false in
theorem ok_has_digits {P : Program} {w : World} {K : PySem.W.Frag} {mg : Str → Option Value} {base : Heap} {f : Addr} {fd : FuncData} (F : Fun K "has_digits" "has_digits" s_has_digits f fd) (m : mg "has_digits" = some (.ref f)) (B : Bt mg)  : Cal P w K mg base "has_digits" 1 ["one", "most"] T_has_digits :=
  cal_mk F (F.binds (ps := ["one", "most"]) fun _ _ _ _ _ _ us hl => match us, hl with | [_, _], _ => rfl) m sc_has_digits fun cdv A outer s H E hr tk hp =>
    (dss_cons (ds_set (i := 2) sc_has_digits.nd d_int)
    (dss_cons (ds_for (vs := [3]) hp rfl (di_rng1 (by rfl) B.range (da_cons (d_bin o_div (dv 1) d_int) da_nil)) (dg_name (i := 3) sc_has_digits.nd) (dss_one (ds_set (i := 2) sc_has_digits.nd (d_bin o_mul (dv 2) (d_bin o_pow d_int d_int)))))
    (dss_one (ds_ret (d_and (d_cmp (o_lt (un0 hr)) (d_callB (c_abs) (by rfl) B.abs bt_abs (da_cons (d_ix (dv 0) d_int) da_nil)) (dv 2) (nomark _)) (d_one (d_cmp (o_lt (un0 hr)) (d_ix (dv 0) d_int) (dv 2) (nomark _))))))))
/-! is_matrix -/
abbrev s_is_matrix : Stmt := topS 13
theorem sc_is_matrix : FnScope ["value", "row", "one"] ["value"] (defScope s_is_matrix) := ⟨rfl, rfl, rfl, by decide +kernel, rfl, by decide +kernel, by decide +kernel⟩
def b_is_matrix : EvS :=
    (sSeq (sIf (bOr (bNot (tTru (eIsi "tuple" (eVar 0)))) (bNot (tCh (oBl cLe) (oBl cLe) (eC (.int 1)) (eCB gLenD (aCons (eVar 0) aNil)) (eC (.int 24))))) (sRet (eC (.bl false))) sNil)
    (sSeq (sFor (iTup' (eVar 0)) (gN 1) (sSeq (sIf (bOr (bNot (tTru (eIsi "tuple" (eVar 1)))) (tBin (oBn cEq) (eCB gLenD (aCons (eVar 1) aNil)) (eCB gLenD (aCons (eVar 0) aNil)))) (sRet (eC (.bl false))) sNil)
    (sIf (bNot (tTru (eOfL gAll (lComp [2] (iTup' (eVar 1)) (gN 2) tYes' (eAnd (eCall 1 T_is_ratio (aCons (eVar 2) aNil)) (eCall 2 T_has_digits (aCons (eVar 2) (aCons (eC (.int 200)) aNil)))))))) (sRet (eC (.bl false))) sNil)))
    (sRet (eC (.bl true)))))
def T_is_matrix (ds : List D) (S : Sto) : Res D := runD 3 b_is_matrix ds S
set_option linter.unusedVariables false in
theorem ok_is_matrix {P : Program} {w : World} {K : PySem.W.Frag} {mg : Str → Option Value} {base : Heap} {f : Addr} {fd : FuncData} (F : Fun K "is_matrix" "is_matrix" s_is_matrix f fd) (m : mg "is_matrix" = some (.ref f)) (B : Bt mg) {k_MOST_DIGITS : Tok} (g_MOST_DIGITS : mg "MOST_DIGITS" = some (.int 200 k_MOST_DIGITS)) {k_MOST_ROWS : Tok} (g_MOST_ROWS : mg "MOST_ROWS" = some (.int 24 k_MOST_ROWS)) (G_is_ratio : Cal P w K mg base "is_ratio" 2 ["value"] T_is_ratio) (G_has_digits : Cal P w K mg base "has_digits" 1 ["one", "most"] T_has_digits) : Cal P w K mg base "is_matrix" 3 ["value"] T_is_matrix :=
  cal_mk F (F.binds (ps := ["value"]) fun _ _ _ _ _ _ us hl => match us, hl with | [_], _ => rfl) m sc_is_matrix fun cdv A outer s H E hr tk hp =>
    (dss_cons (ds_if (dt_w (dw_or (dt_not (dt_tru (d_isi (by rfl) B.isi (by rfl) B.tuple bt_tuple (dv 0)))) (dw_or1 (dt_not (dt_chain (o_le (un0 hr)) (o_le (un0 hr)) d_int (d_callB (c_len) (by rfl) B.len bt_len (da_cons (dv 0) da_nil)) (d_gint (by rfl) g_MOST_ROWS)))))) (dss_one (ds_ret d_bl)) dss_nil)
    (dss_cons (ds_for (vs := [1]) hp rfl (di_tup (dv 0)) (dg_name (i := 1) sc_is_matrix.nd) (dss_cons (ds_if (dt_w (dw_or (dt_not (dt_tru (d_isi (by rfl) B.isi (by rfl) B.tuple bt_tuple (dv 1)))) (dw_or1 (dt_cmp (o_ne (un64 hr)) (d_callB (c_len) (by rfl) B.len bt_len (da_cons (dv 1) da_nil)) (d_callB (c_len) (by rfl) B.len bt_len (da_cons (dv 0) da_nil)) (nomark _))))) (dss_one (ds_ret d_bl)) dss_nil)
    (dss_one (ds_if (dt_not (dt_tru (d_callL (c_all rfl) (by rfl) B.all bt_all (dl_comp (own := [("one", 2)]) (vs := [2]) rfl sc_is_matrix.nd (di_tup (dv 1)) (blkOk_by (N := ["value", "row", "one"]) (sc := defScope s_is_matrix) (own := [("one", 2)]) (by decide +kernel)) (fun _ _ _ _ _ => (dg_name (i := 2) sc_is_matrix.nd)) (fun _ _ _ _ _ => dts_nil) (fun _ _ _ _ _ => (d_and (d_cal G_is_ratio hr (by decide) tkB (by rfl) (da_cons (dv 2) da_nil)) (d_one (d_cal G_has_digits hr (by decide) tkB (by rfl) (da_cons (dv 2) (da_cons (d_gint (by rfl) g_MOST_DIGITS) da_nil)))))))))) (dss_one (ds_ret d_bl)) dss_nil))))
    (dss_one (ds_ret d_bl))))
/-! unit_matrix -/
abbrev s_unit_matrix : Stmt := topS 14
theorem sc_unit_matrix : FnScope ["many", "i", "k"] ["many"] (defScope s_unit_matrix) := ⟨rfl, rfl, rfl, by decide +kernel, rfl, by decide +kernel, by decide +kernel⟩
def b_unit_matrix : EvS :=
    (sRet (eOfL gTup (lComp [1] (iRng1' (aCons (eVar 0) aNil)) (gN 1) tYes' (eOfL gTup (lComp [2] (iRng1' (aCons (eVar 0) aNil)) (gN 2) tYes' (eIf (tBin (oBl cEq) (eVar 1) (eVar 2)) (eC (.cst (List.map D.int [1, 1]))) (eC (.cst (List.map D.int [0, 1])))))))))
def T_unit_matrix (ds : List D) (S : Sto) : Res D := runD 3 b_unit_matrix ds S
set_option linter.unusedVariables false in
theorem ok_unit_matrix {P : Program} {w : World} {K : PySem.W.Frag} {mg : Str → Option Value} {base : Heap} {f : Addr} {fd : FuncData} (F : Fun K "unit_matrix" "unit_matrix" s_unit_matrix f fd) (m : mg "unit_matrix" = some (.ref f)) (B : Bt mg) {a_ONE : Addr} (g_ONE : mg "ONE" = some (.ref a_ONE)) (t_ONE : KTup K a_ONE (List.map V.int [1, 1])) {a_ZERO : Addr} (g_ZERO : mg "ZERO" = some (.ref a_ZERO)) (t_ZERO : KTup K a_ZERO (List.map V.int [0, 1]))  : Cal P w K mg base "unit_matrix" 1 ["many"] T_unit_matrix :=
  cal_mk F (F.binds (ps := ["many"]) fun _ _ _ _ _ _ us hl => match us, hl with | [_], _ => rfl) m sc_unit_matrix fun cdv A outer s H E hr tk hp =>
    (dss_one (ds_ret (d_callLTy c_tup (by rfl) B.tuple bt_tuple (dl_comp (own := [("i", 1)]) (vs := [1]) rfl sc_unit_matrix.nd (di_rng1 (by rfl) B.range (da_cons (dv 0) da_nil)) (blkOk_by (N := ["many", "i", "k"]) (sc := defScope s_unit_matrix) (own := [("i", 1)]) (by decide +kernel)) (fun _ _ _ _ _ => (dg_name (i := 1) sc_unit_matrix.nd)) (fun _ _ _ _ _ => dts_nil) (fun _ _ _ _ _ => (d_callLTy c_tup (by rfl) B.tuple bt_tuple (dl_comp (own := [("k", 2)]) (vs := [2]) rfl sc_unit_matrix.nd (di_rng1 (by rfl) B.range (da_cons (dv 0) da_nil)) (blkOk_by (N := ["many", "i", "k"]) (sc := ({ kind := PySem.ScopeKind.function, names := [ (PySem.Str.ofString ".0", PySem.NameKind.local), (PySem.Str.ofString "i", PySem.NameKind.cell), (PySem.Str.ofString "tuple", PySem.NameKind.globalImplicit), (PySem.Str.ofString "range", PySem.NameKind.globalImplicit), (PySem.Str.ofString "many", PySem.NameKind.cell)], isGenerator := false, isCoroutine := false, more := [] : PySem.Scope })) (scope := { kind := PySem.ScopeKind.function, names := [ (PySem.Str.ofString ".0", PySem.NameKind.local), (PySem.Str.ofString "k", PySem.NameKind.local), (PySem.Str.ofString "ONE", PySem.NameKind.globalImplicit), (PySem.Str.ofString "ZERO", PySem.NameKind.globalImplicit), (PySem.Str.ofString "i", PySem.NameKind.free)], isGenerator := false, isCoroutine := false, more := [] : PySem.Scope }) (own := [("k", 2)]) (by decide +kernel)) (fun _ _ _ _ _ => (dg_name (i := 2) sc_unit_matrix.nd)) (fun _ _ _ _ _ => dts_nil) (fun _ _ _ _ _ => (d_if (dt_cmp (o_eq (un64 hr)) (dv 1) (dv 2) (nomark _)) (d_gcst (by rfl) g_ONE t_ONE) (d_gcst (by rfl) g_ZERO t_ZERO))))))))))
/-! multiplied_matrices -/
abbrev s_multiplied_matrices : Stmt := topS 15
theorem sc_multiplied_matrices : FnScope ["first", "second", "found", "row", "made", "one", "other", "k", "two"] ["first", "second"] (defScope s_multiplied_matrices) := ⟨rfl, rfl, rfl, by decide +kernel, rfl, by decide +kernel, by decide +kernel⟩
def b_multiplied_matrices : EvS :=
    (sSeq (sSet 2 (eMat (lDisp aNil)))
    (sSeq (sFor (iTup' (eVar 0)) (gN 3) (sSeq (sSet 4 (eMat (lMul (lDisp (aCons (eC (.cst (List.map D.int [0, 1]))) aNil)) (eCB gLenD (aCons (eVar 3) aNil)))))
    (sSeq (sFor (iZip' (aCons (eVar 3) (aCons (eVar 1) aNil))) (gTup' 2 (gCons' (gN 5) (gCons' (gN 6) gNil'))) (sIf (tBin (oBn cEq) (eIx (eVar 5) (eC (.int 0))) (eC (.int 0))) (sForW (iEn' (aCons (eVar 6) aNil)) (gTup' 2 (gCons' (gN 7) (gCons' (gN 8) gNil'))) (sIf (tBin (oBn cEq) (eIx (eVar 8) (eC (.int 0))) (eC (.int 0))) (sPut' setLD (eVar 4) (eVar 7) (eCall 2 T_plus (aCons (eIx (eVar 4) (eVar 7)) (aCons (eCall 2 T_times (aCons (eVar 5) (aCons (eVar 8) aNil))) aNil)))) sNil)) sNil))
    (sExpr (eMet "list" gApp (eVar 2) (aCons (eCB gTupD (aCons (eVar 4) aNil)) aNil))))))
    (sRet (eCB gTupD (aCons (eVar 2) aNil)))))
def T_multiplied_matrices (ds : List D) (S : Sto) : Res D := runD 9 b_multiplied_matrices ds S
set_option linter.unusedVariables false in
theorem ok_multiplied_matrices {P : Program} {w : World} {K : PySem.W.Frag} {mg : Str → Option Value} {base : Heap} {f : Addr} {fd : FuncData} (F : Fun K "multiplied_matrices" "multiplied_matrices" s_multiplied_matrices f fd) (m : mg "multiplied_matrices" = some (.ref f)) (B : Bt mg) {a_ZERO : Addr} (g_ZERO : mg "ZERO" = some (.ref a_ZERO)) (t_ZERO : KTup K a_ZERO (List.map V.int [0, 1])) (B_enumerate : mg "enumerate" = none) (G_plus : Cal P w K mg base "plus" 3 ["first", "second"] T_plus) (G_times : Cal P w K mg base "times" 3 ["first", "second"] T_times) : Cal P w K mg base "multiplied_matrices" 4 ["first", "second"] T_multiplied_matrices :=
  cal_mk F (F.binds (ps := ["first", "second"]) fun _ _ _ _ _ _ us hl => match us, hl with | [_, _], _ => rfl) m sc_multiplied_matrices fun cdv A outer s H E hr tk hp =>
    (dss_cons (ds_set (i := 2) sc_multiplied_matrices.nd (d_mat (dl_disp da_nil)))
    (dss_cons (ds_for (vs := [3]) hp rfl (di_tup (dv 0)) (dg_name (i := 3) sc_multiplied_matrices.nd) (dss_cons (ds_set (i := 4) sc_multiplied_matrices.nd (d_mat (dl_mul (dl_disp (da_cons (d_gcst (by rfl) g_ZERO t_ZERO) da_nil)) (d_callB (c_len) (by rfl) B.len bt_len (da_cons (dv 3) da_nil)))))
    (dss_cons (ds_for (vs := [5, 6]) hp rfl (di_zip (by rfl) B.zip (da_cons (dv 3) (da_cons (dv 1) da_nil))) (dg_tup (n := 2) rfl (dgs_cons (dg_name (i := 5) sc_multiplied_matrices.nd) (dgs_cons (dg_name (i := 6) sc_multiplied_matrices.nd) dgs_nil))) (dss_one (ds_if (dt_cmp (o_ne (un64 hr)) (d_ix (dv 5) d_int) d_int (nomark _)) (dss_one (ds_forw (vs := [7, 8]) hp rfl (di_enum (by rfl) B_enumerate (da_cons (dv 6) da_nil)) (dg_tup (n := 2) rfl (dgs_cons (dg_name (i := 7) sc_multiplied_matrices.nd) (dgs_cons (dg_name (i := 8) sc_multiplied_matrices.nd) dgs_nil))) (dss_one (ds_if (dt_cmp (o_ne (un64 hr)) (d_ix (dv 8) d_int) d_int (nomark _)) (dss_one (ds_putL (dv 4) (dv 7) (d_cal G_plus hr (by decide) tk (by rfl) (da_cons (d_ix (dv 4) (dv 7)) (da_cons (d_cal G_times hr (by decide) tk (by rfl) (da_cons (dv 5) (da_cons (dv 8) da_nil))) da_nil))))) dss_nil)))) dss_nil)))
    (dss_one (ds_expr (d_met PySem.F.plainAttrs_list PySem.F.slot_list_append PySem.F.type_list_append m_app (dv 2) (da_cons (d_callTy c_tupD (by rfl) B.tuple bt_tuple (da_cons (dv 4) da_nil)) da_nil)))))))
    (dss_one (ds_ret (d_callTy c_tupD (by rfl) B.tuple bt_tuple (da_cons (dv 2) da_nil))))))
/-! is_point -/
abbrev s_is_point : Stmt := topS 16
theorem sc_is_point : FnScope ["value", "n", "k", "one", "other"] ["value", "n"] (defScope s_is_point) := ⟨rfl, rfl, rfl, by decide +kernel, rfl, by decide +kernel, by decide +kernel⟩
def b_is_point : EvS :=
    (sSeq (sIf (bOr (bNot (tTru (eIsi "tuple" (eVar 0)))) (bOr (tBin (oBn cEq) (eCB gLenD (aCons (eVar 0) aNil)) (eVar 1)) (bNot (tTru (eOfL gAll (lComp [3] (iTup' (eVar 0)) (gN 3) tYes' (eCall 1 T_is_matrix (aCons (eVar 3) aNil)))))))) (sRet (eC (.bl false))) sNil)
    (sSeq (sForW (iEn' (aCons (eVar 0) aNil)) (gTup' 2 (gCons' (gN 2) (gCons' (gN 3) gNil'))) (sSeq (sIf (tBin (oBn cEq) (eCB gLenD (aCons (eVar 3) aNil)) (eCB gLenD (aCons (eIx (eVar 0) (eC (.int 0))) aNil))) (sRet (eC (.bl false))) sNil)
    (sFor (iTup' (eSlT (eVar 0) pNo (pSome (eVar 2)))) (gN 4) (sIf (tBin (oBn cEq) (eCall 2 T_multiplied_matrices (aCons (eVar 3) (aCons (eVar 4) aNil))) (eCall 2 T_multiplied_matrices (aCons (eVar 4) (aCons (eVar 3) aNil)))) (sRet (eC (.bl false))) sNil))))
    (sRet (eC (.bl true)))))
def T_is_point (ds : List D) (S : Sto) : Res D := runD 5 b_is_point ds S
set_option linter.unusedVariables false in
theorem ok_is_point {P : Program} {w : World} {K : PySem.W.Frag} {mg : Str → Option Value} {base : Heap} {f : Addr} {fd : FuncData} (F : Fun K "is_point" "is_point" s_is_point f fd) (m : mg "is_point" = some (.ref f)) (B : Bt mg) (B_enumerate : mg "enumerate" = none) (G_is_matrix : Cal P w K mg base "is_matrix" 3 ["value"] T_is_matrix) (G_multiplied_matrices : Cal P w K mg base "multiplied_matrices" 4 ["first", "second"] T_multiplied_matrices) : Cal P w K mg base "is_point" 5 ["value", "n"] T_is_point :=
  cal_mk F (F.binds (ps := ["value", "n"]) fun _ _ _ _ _ _ us hl => match us, hl with | [_, _], _ => rfl) m sc_is_point fun cdv A outer s H E hr tk hp =>
    (dss_cons (ds_if (dt_w (dw_or (dt_not (dt_tru (d_isi (by rfl) B.isi (by rfl) B.tuple bt_tuple (dv 0)))) (dw_or (dt_cmp (o_ne (un64 hr)) (d_callB (c_len) (by rfl) B.len bt_len (da_cons (dv 0) da_nil)) (dv 1) (nomark _)) (dw_or1 (dt_not (dt_tru (d_callL (c_all rfl) (by rfl) B.all bt_all (dl_comp (own := [("one", 3)]) (vs := [3]) rfl sc_is_point.nd (di_tup (dv 0)) (blkOk_by (N := ["value", "n", "k", "one", "other"]) (sc := defScope s_is_point) (own := [("one", 3)]) (by decide +kernel)) (fun _ _ _ _ _ => (dg_name (i := 3) sc_is_point.nd)) (fun _ _ _ _ _ => dts_nil) (fun _ _ _ _ _ => (d_cal G_is_matrix hr (by decide) tkB (by rfl) (da_cons (dv 3) da_nil))))))))))) (dss_one (ds_ret d_bl)) dss_nil)
    (dss_cons (ds_forw (vs := [2, 3]) hp rfl (di_enum (by rfl) B_enumerate (da_cons (dv 0) da_nil)) (dg_tup (n := 2) rfl (dgs_cons (dg_name (i := 2) sc_is_point.nd) (dgs_cons (dg_name (i := 3) sc_is_point.nd) dgs_nil))) (dss_cons (ds_if (dt_cmp (o_ne (un64 hr)) (d_callB (c_len) (by rfl) B.len bt_len (da_cons (dv 3) da_nil)) (d_callB (c_len) (by rfl) B.len bt_len (da_cons (d_ix (dv 0) d_int) da_nil)) (nomark _)) (dss_one (ds_ret d_bl)) dss_nil)
    (dss_one (ds_for (vs := [4]) hp rfl (di_tup (d_slT (dv 0) do_no (do_some (dv 2)))) (dg_name (i := 4) sc_is_point.nd) (dss_one (ds_if (dt_cmp (o_ne (un64 hr)) (d_cal G_multiplied_matrices hr (by decide) tk (by rfl) (da_cons (dv 3) (da_cons (dv 4) da_nil))) (d_cal G_multiplied_matrices hr (by decide) tk (by rfl) (da_cons (dv 4) (da_cons (dv 3) da_nil))) (nomark _)) (dss_one (ds_ret d_bl)) dss_nil))))))
    (dss_one (ds_ret d_bl))))
/-! Powers___init__ -/
abbrev s_Powers___init__ : Stmt := inClass (topS 17) 0
theorem sc_Powers___init__ : FnScope ["self", "point", "one"] ["self", "point"] (defScope s_Powers___init__) := ⟨rfl, rfl, rfl, by decide +kernel, rfl, by decide +kernel, by decide +kernel⟩
def b_Powers___init__ (C : Addr) : EvS :=
    (sSeq (sFldD C "made" (eVar 0) (eMat (lComp [2] (iTup' (eVar 1)) (gN 2) tYes' (eMat (lDisp (aCons (eCall 1 T_unit_matrix (aCons (eCB gLenD (aCons (eVar 2) aNil)) aNil)) aNil))))))
    (sFldD C "point" (eVar 0) (eVar 1)))
def T_Powers___init__ (C : Addr) (ds : List D) (S : Sto) : Res D := runD 3 (b_Powers___init__ C) ds S
set_option linter.unusedVariables false in
theorem ok_Powers___init__ {P : Program} {w : World} {K : PySem.W.Frag} {mg : Str → Option Value} {base : Heap} {f : Addr} {fd : FuncData} (F : Fun K "__init__" "Powers.__init__" s_Powers___init__ f fd) (B : Bt mg) {C : Addr} (cls : Cls K C) (na_made : NoAttr K C "made") (na_point : NoAttr K C "point") (mC : mg "Powers" = some (.ref C)) (M : Mk K C f) (G_unit_matrix : Cal P w K mg base "unit_matrix" 1 ["many"] T_unit_matrix) : CalC P w K mg base C "Powers" 2 ["self", "point"] (T_Powers___init__ C) :=
  ⟨f, fd, mC, M, (F.binds (ps := ["self", "point"]) fun _ _ _ _ _ _ us hl => match us, hl with | [_, _], _ => rfl), fn_mk F sc_Powers___init__ fun cdv A outer s H E hr tk hp =>
    (dss_cons (ds_fld cls na_made (dv 0) (d_mat (dl_comp (own := [("one", 2)]) (vs := [2]) rfl sc_Powers___init__.nd (di_tup (dv 1)) (blkOk_by (N := ["self", "point", "one"]) (sc := defScope s_Powers___init__) (own := [("one", 2)]) (by decide +kernel)) (fun _ _ _ _ _ => (dg_name (i := 2) sc_Powers___init__.nd)) (fun _ _ _ _ _ => dts_nil) (fun _ _ _ _ _ => (d_mat (dl_disp (da_cons (d_cal G_unit_matrix hr (by decide) tkB (by rfl) (da_cons (d_callB (c_len) (by rfl) B.len bt_len (da_cons (dv 2) da_nil)) da_nil)) da_nil)))))))
    (dss_one (ds_fld cls na_point (dv 0) (dv 1))))⟩
/-! Powers_power -/
abbrev s_Powers_power : Stmt := inClass (topS 17) 1
theorem sc_Powers_power : FnScope ["self", "j", "e", "rows"] ["self", "j", "e"] (defScope s_Powers_power) := ⟨rfl, rfl, rfl, by decide +kernel, rfl, by decide +kernel, by decide +kernel⟩
def b_Powers_power (C : Addr) : EvS :=
    (sSeq (sSet 3 (eIx (eFld C "made" (eVar 0)) (eVar 1)))
    (sSeq (sWhile (fuI 2) (tBin (oBl cLe) (eCB gLenD (aCons (eVar 3) aNil)) (eVar 2)) (sExpr (eMet "list" gApp (eVar 3) (aCons (eCall 2 T_multiplied_matrices (aCons (eIx (eVar 3) (eUn oNeg (eC (.int 1)))) (aCons (eIx (eFld C "point" (eVar 0)) (eVar 1)) aNil))) aNil))))
    (sRet (eIx (eVar 3) (eVar 2)))))
def T_Powers_power (C : Addr) (ds : List D) (S : Sto) : Res D := runD 4 (b_Powers_power C) ds S
set_option linter.unusedVariables false in
theorem ok_Powers_power {P : Program} {w : World} {K : PySem.W.Frag} {mg : Str → Option Value} {base : Heap} {f : Addr} {fd : FuncData} (F : Fun K "power" "Powers.power" s_Powers_power f fd) (B : Bt mg) {C : Addr} (cls : Cls K C) (na_made : NoAttr K C "made") (na_point : NoAttr K C "point") (mt : Meth K C "power" f) (G_multiplied_matrices : Cal P w K mg base "multiplied_matrices" 4 ["first", "second"] T_multiplied_matrices) : CalM P w K mg base C "power" 5 ["self", "j", "e"] (T_Powers_power C) :=
  ⟨f, fd, mt, (F.binds (ps := ["self", "j", "e"]) fun _ _ _ _ _ _ us hl => match us, hl with | [_, _, _], _ => rfl), fn_mk F sc_Powers_power fun cdv A outer s H E hr tk hp =>
    (dss_cons (ds_set (i := 3) sc_Powers_power.nd (d_ix (d_fld cls na_made (dv 0)) (dv 1)))
    (dss_cons (ds_while (fuel := (fuI 2)) hp (dt_cmp (o_le (un0 hr)) (d_callB (c_len) (by rfl) B.len bt_len (da_cons (dv 3) da_nil)) (dv 2) (nomark _)) (dss_one (ds_expr (d_met PySem.F.plainAttrs_list PySem.F.slot_list_append PySem.F.type_list_append m_app (dv 3) (da_cons (d_cal G_multiplied_matrices hr (by decide) tk (by rfl) (da_cons (d_ix (dv 3) (d_un o_neg d_int)) (da_cons (d_ix (d_fld cls na_point (dv 0)) (dv 1)) da_nil))) da_nil)))))
    (dss_one (ds_ret (d_ix (dv 3) (dv 2))))))⟩
/-! Powers_monomial -/
abbrev s_Powers_monomial : Stmt := inClass (topS 17) 2
theorem sc_Powers_monomial : FnScope ["self", "powers", "found", "j", "e", "one"] ["self", "powers"] (defScope s_Powers_monomial) := ⟨rfl, rfl, rfl, by decide +kernel, rfl, by decide +kernel, by decide +kernel⟩
def b_Powers_monomial (C : Addr) : EvS :=
    (sSeq (sSet 2 (eC .non))
    (sSeq (sForW (iEn' (aCons (eVar 1) aNil)) (gTup' 2 (gCons' (gN 3) (gCons' (gN 4) gNil'))) (sIf (tBin (oBl cGt) (eVar 4) (eC (.int 0))) (sSeq (sSet 5 (eMth C "power" 3 (T_Powers_power C) (eVar 0) (aCons (eVar 3) (aCons (eVar 4) aNil))))
    (sSet 2 (eIf (tBin (oBl cIsN) (eVar 2) (eC .non)) (eVar 5) (eCall 2 T_multiplied_matrices (aCons (eVar 2) (aCons (eVar 5) aNil)))))) sNil))
    (sRet (eIf (tBin (oBl cIsN) (eVar 2) (eC .non)) (eCall 1 T_unit_matrix (aCons (eCB gLenD (aCons (eIx (eFld C "point" (eVar 0)) (eC (.int 0))) aNil)) aNil)) (eVar 2)))))
def T_Powers_monomial (C : Addr) (ds : List D) (S : Sto) : Res D := runD 6 (b_Powers_monomial C) ds S
set_option linter.unusedVariables false in
theorem ok_Powers_monomial {P : Program} {w : World} {K : PySem.W.Frag} {mg : Str → Option Value} {base : Heap} {f : Addr} {fd : FuncData} (F : Fun K "monomial" "Powers.monomial" s_Powers_monomial f fd) (B : Bt mg) {C : Addr} (cls : Cls K C) (na_made : NoAttr K C "made") (na_point : NoAttr K C "point") (B_enumerate : mg "enumerate" = none) (mt : Meth K C "monomial" f) (G_Powers_power : CalM P w K mg base C "power" 5 ["self", "j", "e"] (T_Powers_power C)) (G_multiplied_matrices : Cal P w K mg base "multiplied_matrices" 4 ["first", "second"] T_multiplied_matrices) (G_unit_matrix : Cal P w K mg base "unit_matrix" 1 ["many"] T_unit_matrix) : CalM P w K mg base C "monomial" 6 ["self", "powers"] (T_Powers_monomial C) :=
  ⟨f, fd, mt, (F.binds (ps := ["self", "powers"]) fun _ _ _ _ _ _ us hl => match us, hl with | [_, _], _ => rfl), fn_mk F sc_Powers_monomial fun cdv A outer s H E hr tk hp =>
    (dss_cons (ds_set (i := 2) sc_Powers_monomial.nd d_non)
    (dss_cons (ds_forw (vs := [3, 4]) hp rfl (di_enum (by rfl) B_enumerate (da_cons (dv 1) da_nil)) (dg_tup (n := 2) rfl (dgs_cons (dg_name (i := 3) sc_Powers_monomial.nd) (dgs_cons (dg_name (i := 4) sc_Powers_monomial.nd) dgs_nil))) (dss_one (ds_if (dt_cmp (o_gt) (dv 4) d_int (nomark _)) (dss_cons (ds_set (i := 5) sc_Powers_monomial.nd (d_mth cls G_Powers_power hr (by decide) (dv 0) (da_cons (dv 3) (da_cons (dv 4) da_nil))))
    (dss_one (ds_set (i := 2) sc_Powers_monomial.nd (d_if (dt_cmp (o_isN) (dv 2) d_non (nomark _)) (dv 5) (d_cal G_multiplied_matrices hr (by decide) tk (by rfl) (da_cons (dv 2) (da_cons (dv 5) da_nil))))))) dss_nil)))
    (dss_one (ds_ret (d_if (dt_cmp (o_isN) (dv 2) d_non (nomark _)) (d_cal G_unit_matrix hr (by decide) tk (by rfl) (da_cons (d_callB (c_len) (by rfl) B.len bt_len (da_cons (d_ix (d_fld cls na_point (dv 0)) d_int) da_nil)) da_nil)) (dv 2))))))⟩
/-! at_point -/
abbrev s_at_point : Stmt := topS 18
theorem sc_at_point : FnScope ["p", "point", "made", "many", "found", "powers", "factor", "k", "row", "other", "one"] ["p", "point"] (defScope s_at_point) := ⟨rfl, rfl, rfl, by decide +kernel, rfl, by decide +kernel, by decide +kernel⟩
def b_at_point (C : Addr) : EvS :=
    (sSeq (sSet 2 (eMake C 2 (T_Powers___init__ C) (aCons (eVar 1) aNil)))
    (sSeq (sSet 3 (eCB gLenD (aCons (eIx (eVar 1) (eC (.int 0))) aNil)))
    (sSeq (sSet 4 (eMat (lCompW [7] (fun env S => ((iRng1' (aCons (eVar 3) aNil)) env S).bind fun ds S1 => .ok (ds, []) S1) (gN 7) tYes' (eMat (lMul (lDisp (aCons (eC (.cst (List.map D.int [0, 1]))) aNil)) (eVar 3))))))
    (sSeq (sFor (iTup' (eVar 0)) (gTup' 2 (gCons' (gN 5) (gCons' (gN 6) gNil'))) (sForW (iZm' (aCons (eVar 4) (aCons (eMth C "monomial" 2 (T_Powers_monomial C) (eVar 2) (aCons (eVar 5) aNil)) aNil))) (gTup' 2 (gCons' (gN 8) (gCons' (gN 9) gNil'))) (sForW (iEn' (aCons (eVar 9) aNil)) (gTup' 2 (gCons' (gN 7) (gCons' (gN 10) gNil'))) (sIf (tBin (oBn cEq) (eIx (eVar 10) (eC (.int 0))) (eC (.int 0))) (sPut' setLD (eVar 8) (eVar 7) (eCall 2 T_plus (aCons (eIx (eVar 8) (eVar 7)) (aCons (eCall 2 T_times (aCons (eVar 6) (aCons (eVar 10) aNil))) aNil)))) sNil))))
    (sRet (eOfL gTup (lCompW [8] (iLoc' (eVar 4)) (gN 8) tYes' (eCB gTupD (aCons (eVar 8) aNil)))))))))
def T_at_point (C : Addr) (ds : List D) (S : Sto) : Res D := runD 11 (b_at_point C) ds S
set_option linter.unusedVariables false in
theorem ok_at_point {P : Program} {w : World} {K : PySem.W.Frag} {mg : Str → Option Value} {base : Heap} {f : Addr} {fd : FuncData} (F : Fun K "at_point" "at_point" s_at_point f fd) (m : mg "at_point" = some (.ref f)) (B : Bt mg) {C : Addr} (cls : Cls K C) (na_made : NoAttr K C "made") (na_point : NoAttr K C "point") {a_ZERO : Addr} (g_ZERO : mg "ZERO" = some (.ref a_ZERO)) (t_ZERO : KTup K a_ZERO (List.map V.int [0, 1])) (B_enumerate : mg "enumerate" = none) (G_Powers___init__ : CalC P w K mg base C "Powers" 2 ["self", "point"] (T_Powers___init__ C)) (G_Powers_monomial : CalM P w K mg base C "monomial" 6 ["self", "powers"] (T_Powers_monomial C)) (G_plus : Cal P w K mg base "plus" 3 ["first", "second"] T_plus) (G_times : Cal P w K mg base "times" 3 ["first", "second"] T_times) : Cal P w K mg base "at_point" 7 ["p", "point"] (T_at_point C) :=
  cal_mk F (F.binds (ps := ["p", "point"]) fun _ _ _ _ _ _ us hl => match us, hl with | [_, _], _ => rfl) m sc_at_point fun cdv A outer s H E hr tk hp =>
    (dss_cons (ds_set (i := 2) sc_at_point.nd (d_make G_Powers___init__ hr (by decide) (by rfl) (da_cons (dv 1) da_nil)))
    (dss_cons (ds_set (i := 3) sc_at_point.nd (d_callB (c_len) (by rfl) B.len bt_len (da_cons (d_ix (dv 1) d_int) da_nil)))
    (dss_cons (ds_setC (i := 4) (own := [("k", 7)]) (vs := [7]) rfl sc_at_point.nd (diw_of (di_rng1 (by rfl) B.range (da_cons (dv 3) da_nil))) (blkOk_by (N := ["p", "point", "made", "many", "found", "powers", "factor", "k", "row", "other", "one"]) (sc := defScope s_at_point) (own := [("k", 7)]) (by decide +kernel)) (fun _ _ _ _ _ => (dg_name (i := 7) sc_at_point.nd)) (fun _ _ _ _ _ => dts_nil) (fun _ _ _ _ _ => (d_mat (dl_mul (dl_disp (da_cons (d_gcst (by rfl) g_ZERO t_ZERO) da_nil)) (dv 3)))) (sw_true rfl rfl rfl (by decide +kernel)))
    (dss_cons (ds_for (vs := [5, 6]) hp rfl (di_tup (dv 0)) (dg_tup (n := 2) rfl (dgs_cons (dg_name (i := 5) sc_at_point.nd) (dgs_cons (dg_name (i := 6) sc_at_point.nd) dgs_nil))) (dss_one (ds_forw (vs := [8, 9]) hp rfl (di_zipm (by rfl) B.zip (da_cons (dv 4) (da_cons (d_mth cls G_Powers_monomial hr (by decide) (dv 2) (da_cons (dv 5) da_nil)) da_nil))) (dg_tup (n := 2) rfl (dgs_cons (dg_name (i := 8) sc_at_point.nd) (dgs_cons (dg_name (i := 9) sc_at_point.nd) dgs_nil))) (dss_one (ds_forw (vs := [7, 10]) hp rfl (di_enum (by rfl) B_enumerate (da_cons (dv 9) da_nil)) (dg_tup (n := 2) rfl (dgs_cons (dg_name (i := 7) sc_at_point.nd) (dgs_cons (dg_name (i := 10) sc_at_point.nd) dgs_nil))) (dss_one (ds_if (dt_cmp (o_ne (un64 hr)) (d_ix (dv 10) d_int) d_int (nomark _)) (dss_one (ds_putL (dv 8) (dv 7) (d_cal G_plus hr (by decide) tk (by rfl) (da_cons (d_ix (dv 8) (dv 7)) (da_cons (d_cal G_times hr (by decide) tk (by rfl) (da_cons (dv 6) (da_cons (dv 10) da_nil))) da_nil))))) dss_nil)))))))
    (dss_one (ds_ret (d_callLTy c_tup (by rfl) B.tuple bt_tuple (dl_compw (own := [("row", 8)]) (vs := [8]) rfl sc_at_point.nd (di_loc (dv 4)) (blkOk_by (N := ["p", "point", "made", "many", "found", "powers", "factor", "k", "row", "other", "one"]) (sc := defScope s_at_point) (own := [("row", 8)]) (by decide +kernel)) (fun _ _ _ _ _ => (dg_name (i := 8) sc_at_point.nd)) (fun _ _ _ _ _ => dts_nil) (fun _ _ _ _ _ => (d_callTy c_tupD (by rfl) B.tuple bt_tuple (da_cons (dv 8) da_nil)))))))))))
/-! _law_fill -/
abbrev s__law_fill : Stmt := topS 21
theorem sc__law_fill : FnScope ["c", "number"] ["c"] (defScope s__law_fill) := ⟨rfl, rfl, rfl, by decide +kernel, rfl, by decide +kernel, by decide +kernel⟩
def b__law_fill : EvS :=
    (sSeq (sPut' setLD (eVar 0) (eC (.int 3)) (eBin oAdd (eIx (eVar 0) (eC (.int 3))) (eC (.int 1))))
    (sSeq (sSet 1 (eBin oAdd (eBin oMul (eIx (eVar 0) (eC (.int 3))) (eC (.int 69621))) (eC (.int 12345))))
    (sSeq (sIf (tBin (oBl cLt) (eIx (eVar 0) (eC (.int 1))) (eCB gLenD (aCons (eIx (eVar 0) (eC (.int 0))) aNil))) (sSeq (sSet 1 (eCB gMax2 (aCons (eIx (eIx (eVar 0) (eC (.int 0))) (eIx (eVar 0) (eC (.int 1)))) (aCons (eBin oSub (eBin oSub (eC (.int 0)) (eC (.int 1))) (eIx (eIx (eVar 0) (eC (.int 0))) (eIx (eVar 0) (eC (.int 1))))) aNil))))
    (sSeq (sPut' setLD (eVar 0) (eC (.int 1)) (eBin oAdd (eIx (eVar 0) (eC (.int 1))) (eC (.int 1))))
    (sIf (tBin (oBl cGe) (eVar 1) (eBin oPow (eC (.int 10)) (eC (.int 18)))) (sRet (eVar 1)) sNil))) sNil)
    (sSeq (sIf (bAnd (tTru (eIx (eVar 0) (eC (.int 0)))) (tBin (oBl cGe) (eIx (eVar 0) (eC (.int 1))) (eCB gLenD (aCons (eIx (eVar 0) (eC (.int 0))) aNil)))) (sSet 1 (eBin oAdd (eVar 1) (eBin oMod (eCB gInt (aCons (eIx (eIx (eVar 0) (eC (.int 0))) (eUn oNeg (eC (.int 1)))) aNil)) (eC (.int 1000003))))) sNil)
    (sSeq (sSet 1 (eBin oMod (eCB gInt (aCons (eBin oAdd (eBin oMul (eVar 1) (eC (.int 48271))) (eBin oMul (eIx (eVar 0) (eC (.int 3))) (eC (.int 69621)))) aNil)) (eC (.int 2147483647))))
    (sRet (eBin oAdd (eBin oDiv (eCB gInt (aCons (eBin oAdd (eBin oAdd (eBin oMul (eVar 1) (eVar 1)) (eBin oMul (eIx (eVar 0) (eC (.int 3))) (eC (.int 7919)))) (eC (.int 11))) aNil)) (eC (.int 64))) (eC (.int 36028797018963968)))))))))
def T__law_fill (ds : List D) (S : Sto) : Res D := runD 2 b__law_fill ds S
set_option linter.unusedVariables false in
theorem ok__law_fill {P : Program} {w : World} {K : PySem.W.Frag} {mg : Str → Option Value} {base : Heap} {f : Addr} {fd : FuncData} (F : Fun K "_law_fill" "_law_fill" s__law_fill f fd) (m : mg "_law_fill" = some (.ref f)) (B : Bt mg)  : Cal P w K mg base "_law_fill" 1 ["c"] T__law_fill :=
  cal_mk F (F.binds (ps := ["c"]) fun _ _ _ _ _ _ us hl => match us, hl with | [_], _ => rfl) m sc__law_fill fun cdv A outer s H E hr tk hp =>
    (dss_cons (ds_putL (dv 0) d_int (d_bin o_add (d_ix (dv 0) d_int) d_int))
    (dss_cons (ds_set (i := 1) sc__law_fill.nd (d_bin o_add (d_bin o_mul (d_ix (dv 0) d_int) d_int) d_int))
    (dss_cons (ds_if (dt_cmp (o_lt (un0 hr)) (d_ix (dv 0) d_int) (d_callB (c_len) (by rfl) B.len bt_len (da_cons (d_ix (dv 0) d_int) da_nil)) (nomark _)) (dss_cons (ds_set (i := 1) sc__law_fill.nd (d_callB (c_max2 rfl) (by rfl) B.max bt_max (da_cons (d_ix (d_ix (dv 0) d_int) (d_ix (dv 0) d_int)) (da_cons (d_bin o_sub (d_bin o_sub d_int d_int) (d_ix (d_ix (dv 0) d_int) (d_ix (dv 0) d_int))) da_nil))))
    (dss_cons (ds_putL (dv 0) d_int (d_bin o_add (d_ix (dv 0) d_int) d_int))
    (dss_one (ds_if (dt_cmp (o_ge) (dv 1) (d_bin o_pow d_int d_int) (nomark _)) (dss_one (ds_ret (dv 1))) dss_nil)))) dss_nil)
    (dss_cons (ds_if (dt_w (dw_and (dt_tru (d_ix (dv 0) d_int)) (dw_and1 (dt_cmp (o_ge) (d_ix (dv 0) d_int) (d_callB (c_len) (by rfl) B.len bt_len (da_cons (d_ix (dv 0) d_int) da_nil)) (nomark _))))) (dss_one (ds_set (i := 1) sc__law_fill.nd (d_bin o_add (dv 1) (d_bin o_mod (d_callTy c_int (by rfl) B.int bt_int (da_cons (d_ix (d_ix (dv 0) d_int) (d_un o_neg d_int)) da_nil)) d_int)))) dss_nil)
    (dss_cons (ds_set (i := 1) sc__law_fill.nd (d_bin o_mod (d_callTy c_int (by rfl) B.int bt_int (da_cons (d_bin o_add (d_bin o_mul (dv 1) d_int) (d_bin o_mul (d_ix (dv 0) d_int) d_int)) da_nil)) d_int))
    (dss_one (ds_ret (d_bin o_add (d_bin o_div (d_callTy c_int (by rfl) B.int bt_int (da_cons (d_bin o_add (d_bin o_add (d_bin o_mul (dv 1) (dv 1)) (d_bin o_mul (d_ix (dv 0) d_int) d_int)) d_int) da_nil)) d_int) d_int))))))))
/-! _law_take -/
abbrev s__law_take : Stmt := topS 22
theorem sc__law_take : FnScope ["c", "many", "digit"] ["c", "many"] (defScope s__law_take) := ⟨rfl, rfl, rfl, by decide +kernel, rfl, by decide +kernel, by decide +kernel⟩
def b__law_take : EvS :=
    (sSeq (sIf (tBin (oBl cLt) (eIx (eVar 0) (eC (.int 2))) (eVar 1)) (sPut' setLD (eVar 0) (eC (.int 2)) (eCall 1 T__law_fill (aCons (eVar 0) aNil))) sNil)
    (sSeq (sSet 2 (eBin oMod (eCB gInt (aCons (eIx (eVar 0) (eC (.int 2))) aNil)) (eVar 1)))
    (sSeq (sPut' setLD (eVar 0) (eC (.int 2)) (eBin oDiv (eIx (eVar 0) (eC (.int 2))) (eVar 1)))
    (sRet (eVar 2)))))
def T__law_take (ds : List D) (S : Sto) : Res D := runD 3 b__law_take ds S
set_option linter.unusedVariables false in
theorem ok__law_take {P : Program} {w : World} {K : PySem.W.Frag} {mg : Str → Option Value} {base : Heap} {f : Addr} {fd : FuncData} (F : Fun K "_law_take" "_law_take" s__law_take f fd) (m : mg "_law_take" = some (.ref f)) (B : Bt mg) (G__law_fill : Cal P w K mg base "_law_fill" 1 ["c"] T__law_fill) : Cal P w K mg base "_law_take" 2 ["c", "many"] T__law_take :=
  cal_mk F (F.binds (ps := ["c", "many"]) fun _ _ _ _ _ _ us hl => match us, hl with | [_, _], _ => rfl) m sc__law_take fun cdv A outer s H E hr tk hp =>
    (dss_cons (ds_if (dt_cmp (o_lt (un0 hr)) (d_ix (dv 0) d_int) (dv 1) (nomark _)) (dss_one (ds_putL (dv 0) d_int (d_cal G__law_fill hr (by decide) tk (by rfl) (da_cons (dv 0) da_nil)))) dss_nil)
    (dss_cons (ds_set (i := 2) sc__law_take.nd (d_bin o_mod (d_callTy c_int (by rfl) B.int bt_int (da_cons (d_ix (dv 0) d_int) da_nil)) (dv 1)))
    (dss_cons (ds_putL (dv 0) d_int (d_bin o_div (d_ix (dv 0) d_int) (dv 1)))
    (dss_one (ds_ret (dv 2))))))
/-! _law_divisor -/
abbrev s__law_divisor : Stmt := topS 24
theorem sc__law_divisor : FnScope ["a", "b", "turn"] ["a", "b"] (defScope s__law_divisor) := ⟨rfl, rfl, rfl, by decide +kernel, rfl, by decide +kernel, by decide +kernel⟩
def b__law_divisor : EvS :=
    (sSeq (sFor (iRng1' (aCons (eC (.int 4000)) aNil)) (gN 2) (sSeq (sIf (tBin (oBl cEq) (eVar 1) (eC (.int 0))) (sRet (eCB gAbs (aCons (eVar 0) aNil))) sNil)
    (sPar 0 1 (aCons (eVar 1) (aCons (eBin oMod (eVar 0) (eVar 1)) aNil)))))
    (sRet (eC (.int 1))))
def T__law_divisor (ds : List D) (S : Sto) : Res D := runD 3 b__law_divisor ds S
set_option linter.unusedVariables false in
theorem ok__law_divisor {P : Program} {w : World} {K : PySem.W.Frag} {mg : Str → Option Value} {base : Heap} {f : Addr} {fd : FuncData} (F : Fun K "_law_divisor" "_law_divisor" s__law_divisor f fd) (m : mg "_law_divisor" = some (.ref f)) (B : Bt mg)  : Cal P w K mg base "_law_divisor" 1 ["a", "b"] T__law_divisor :=
  cal_mk F (F.binds (ps := ["a", "b"]) fun _ _ _ _ _ _ us hl => match us, hl with | [_, _], _ => rfl) m sc__law_divisor fun cdv A outer s H E hr tk hp =>
    (dss_cons (ds_for (vs := [2]) hp rfl (di_rng1 (by rfl) B.range (da_cons d_int da_nil)) (dg_name (i := 2) sc__law_divisor.nd) (dss_cons (ds_if (dt_cmp (o_eq (un64 hr)) (dv 1) d_int (nomark _)) (dss_one (ds_ret (d_callB (c_abs) (by rfl) B.abs bt_abs (da_cons (dv 0) da_nil)))) dss_nil)
    (dss_one (ds_par (i := 0) (j := 1) rfl sc__law_divisor.nd (da_cons (dv 1) (da_cons (d_bin o_mod (dv 0) (dv 1)) da_nil))))))
    (dss_one (ds_ret d_int)))
/-! _law_ratio -/
abbrev s__law_ratio : Stmt := topS 25
theorem sc__law_ratio : FnScope ["above", "below", "both"] ["above", "below"] (defScope s__law_ratio) := ⟨rfl, rfl, rfl, by decide +kernel, rfl, by decide +kernel, by decide +kernel⟩
def b__law_ratio : EvS :=
    (sSeq (sSet 2 (eCall 2 T__law_divisor (aCons (eVar 0) (aCons (eVar 1) aNil))))
    (sSeq (sSet 2 (eIf (tBin (oBl cGt) (eVar 1) (eC (.int 0))) (eVar 2) (eBin oSub (eC (.int 0)) (eVar 2))))
    (sRet (eTup (aCons (eBin oDiv (eVar 0) (eVar 2)) (aCons (eBin oDiv (eVar 1) (eVar 2)) aNil))))))
def T__law_ratio (ds : List D) (S : Sto) : Res D := runD 3 b__law_ratio ds S
set_option linter.unusedVariables false in
theorem ok__law_ratio {P : Program} {w : World} {K : PySem.W.Frag} {mg : Str → Option Value} {base : Heap} {f : Addr} {fd : FuncData} (F : Fun K "_law_ratio" "_law_ratio" s__law_ratio f fd) (m : mg "_law_ratio" = some (.ref f)) (B : Bt mg) (G__law_divisor : Cal P w K mg base "_law_divisor" 1 ["a", "b"] T__law_divisor) : Cal P w K mg base "_law_ratio" 2 ["above", "below"] T__law_ratio :=
  cal_mk F (F.binds (ps := ["above", "below"]) fun _ _ _ _ _ _ us hl => match us, hl with | [_, _], _ => rfl) m sc__law_ratio fun cdv A outer s H E hr tk hp =>
    (dss_cons (ds_set (i := 2) sc__law_ratio.nd (d_cal G__law_divisor hr (by decide) tk (by rfl) (da_cons (dv 0) (da_cons (dv 1) da_nil))))
    (dss_cons (ds_set (i := 2) sc__law_ratio.nd (d_if (dt_cmp (o_gt) (dv 1) d_int (nomark _)) (dv 2) (d_bin o_sub d_int (dv 2))))
    (dss_one (ds_ret (d_tup (da_cons (d_bin o_div (dv 0) (dv 2)) (da_cons (d_bin o_div (dv 1) (dv 2)) da_nil)))))))
/-! _law_plus -/
abbrev s__law_plus : Stmt := topS 26
theorem sc__law_plus : FnScope ["a", "b"] ["a", "b"] (defScope s__law_plus) := ⟨rfl, rfl, rfl, by decide +kernel, rfl, by decide +kernel, by decide +kernel⟩
def b__law_plus : EvS :=
    (sRet (eCall 2 T__law_ratio (aCons (eBin oAdd (eBin oMul (eIx (eVar 0) (eC (.int 0))) (eIx (eVar 1) (eC (.int 1)))) (eBin oMul (eIx (eVar 1) (eC (.int 0))) (eIx (eVar 0) (eC (.int 1))))) (aCons (eBin oMul (eIx (eVar 0) (eC (.int 1))) (eIx (eVar 1) (eC (.int 1)))) aNil))))
def T__law_plus (ds : List D) (S : Sto) : Res D := runD 2 b__law_plus ds S
set_option linter.unusedVariables false in
theorem ok__law_plus {P : Program} {w : World} {K : PySem.W.Frag} {mg : Str → Option Value} {base : Heap} {f : Addr} {fd : FuncData} (F : Fun K "_law_plus" "_law_plus" s__law_plus f fd) (m : mg "_law_plus" = some (.ref f)) (B : Bt mg) (G__law_ratio : Cal P w K mg base "_law_ratio" 2 ["above", "below"] T__law_ratio) : Cal P w K mg base "_law_plus" 3 ["a", "b"] T__law_plus :=
  cal_mk F (F.binds (ps := ["a", "b"]) fun _ _ _ _ _ _ us hl => match us, hl with | [_, _], _ => rfl) m sc__law_plus fun cdv A outer s H E hr tk hp =>
    (dss_one (ds_ret (d_cal G__law_ratio hr (by decide) tk (by rfl) (da_cons (d_bin o_add (d_bin o_mul (d_ix (dv 0) d_int) (d_ix (dv 1) d_int)) (d_bin o_mul (d_ix (dv 1) d_int) (d_ix (dv 0) d_int))) (da_cons (d_bin o_mul (d_ix (dv 0) d_int) (d_ix (dv 1) d_int)) da_nil)))))
/-! _law_times -/
abbrev s__law_times : Stmt := topS 27
theorem sc__law_times : FnScope ["a", "b"] ["a", "b"] (defScope s__law_times) := ⟨rfl, rfl, rfl, by decide +kernel, rfl, by decide +kernel, by decide +kernel⟩
def b__law_times : EvS :=
    (sRet (eCall 2 T__law_ratio (aCons (eBin oMul (eIx (eVar 0) (eC (.int 0))) (eIx (eVar 1) (eC (.int 0)))) (aCons (eBin oMul (eIx (eVar 0) (eC (.int 1))) (eIx (eVar 1) (eC (.int 1)))) aNil))))
def T__law_times (ds : List D) (S : Sto) : Res D := runD 2 b__law_times ds S
set_option linter.unusedVariables false in
theorem ok__law_times {P : Program} {w : World} {K : PySem.W.Frag} {mg : Str → Option Value} {base : Heap} {f : Addr} {fd : FuncData} (F : Fun K "_law_times" "_law_times" s__law_times f fd) (m : mg "_law_times" = some (.ref f)) (B : Bt mg) (G__law_ratio : Cal P w K mg base "_law_ratio" 2 ["above", "below"] T__law_ratio) : Cal P w K mg base "_law_times" 3 ["a", "b"] T__law_times :=
  cal_mk F (F.binds (ps := ["a", "b"]) fun _ _ _ _ _ _ us hl => match us, hl with | [_, _], _ => rfl) m sc__law_times fun cdv A outer s H E hr tk hp =>
    (dss_one (ds_ret (d_cal G__law_ratio hr (by decide) tk (by rfl) (da_cons (d_bin o_mul (d_ix (dv 0) d_int) (d_ix (dv 1) d_int)) (da_cons (d_bin o_mul (d_ix (dv 0) d_int) (d_ix (dv 1) d_int)) da_nil)))))
/-! _law_told -/
abbrev s__law_told : Stmt := topS 28
theorem sc__law_told : FnScope ["table", "key"] ["table"] (defScope s__law_told) := ⟨rfl, rfl, rfl, by decide +kernel, rfl, by decide +kernel, by decide +kernel⟩
def b__law_told : EvS :=
    (sRet (eOfL gFup (lOfL sortD (lLock 0 (lComp [1] (iKeys' (eVar 0)) (gN 1) (tBin (oBn cEq) (eIx (eGet (eVar 0) (eVar 1)) (eC (.int 0))) (eC (.int 0))) (eTup (aCons (eVar 1) (aCons (eGet (eVar 0) (eVar 1)) aNil))))))))
def T__law_told (ds : List D) (S : Sto) : Res D := runD 2 b__law_told ds S
set_option linter.unusedVariables false in
theorem ok__law_told {P : Program} {w : World} {K : PySem.W.Frag} {mg : Str → Option Value} {base : Heap} {f : Addr} {fd : FuncData} (F : Fun K "_law_told" "_law_told" s__law_told f fd) (m : mg "_law_told" = some (.ref f)) (B : Bt mg)  : Cal P w K mg base "_law_told" 1 ["table"] T__law_told :=
  cal_mk F (F.binds (ps := ["table"]) fun _ _ _ _ _ _ us hl => match us, hl with | [_], _ => rfl) m sc__law_told fun cdv A outer s H E hr tk hp =>
    (dss_one (ds_ret (d_callLTy c_fup (by rfl) B.tuple bt_tuple (dl_callL (c_sortL (un64 hr)) (by rfl) B.sorted bt_sorted (dl_lock (i := 0) (dl_comp (own := [("key", 1)]) (vs := [1]) rfl sc__law_told.nd (di_keys (dv 0)) (blkOk_by (N := ["table", "key"]) (sc := defScope s__law_told) (own := [("key", 1)]) (by decide +kernel)) (fun _ _ _ _ _ => (dg_name (i := 1) sc__law_told.nd)) (fun _ _ _ _ _ => (dts_one (dt_cmp (o_ne (un64 hr)) (d_ix (d_dget (un1 hr) (dv 0) (dv 1)) d_int) d_int (nomark _)))) (fun _ _ _ _ _ => (d_tup (da_cons (dv 1) (da_cons (d_dget (un1 hr) (dv 0) (dv 1)) da_nil))))))))))
/-! _law_fraction -/
abbrev s__law_fraction : Stmt := topS 32
theorem sc__law_fraction : FnScope ["c"] ["c"] (defScope s__law_fraction) := ⟨rfl, rfl, rfl, by decide +kernel, rfl, by decide +kernel, by decide +kernel⟩
def b__law_fraction : EvS :=
    (sRet (eCall 2 T__law_ratio (aCons (eIxL (lDisp (aCons (eBin oSub (eC (.int 0)) (eC (.int 3))) (aCons (eBin oSub (eC (.int 0)) (eC (.int 1))) (aCons (eC (.int 1)) (aCons (eC (.int 2)) (aCons (eC (.int 5)) (aCons (eC (.int 12)) (aCons (eBin oPow (eC (.int 10)) (eC (.int 11))) aNil)))))))) (eCall 2 T__law_take (aCons (eVar 0) (aCons (eC (.int 7)) aNil)))) (aCons (eIxL (lDisp (aCons (eC (.int 1)) (aCons (eC (.int 1)) (aCons (eC (.int 1)) (aCons (eC (.int 2)) (aCons (eC (.int 3)) (aCons (eC (.int 7)) aNil))))))) (eCall 2 T__law_take (aCons (eVar 0) (aCons (eC (.int 6)) aNil)))) aNil))))
def T__law_fraction (ds : List D) (S : Sto) : Res D := runD 1 b__law_fraction ds S
set_option linter.unusedVariables false in
theorem ok__law_fraction {P : Program} {w : World} {K : PySem.W.Frag} {mg : Str → Option Value} {base : Heap} {f : Addr} {fd : FuncData} (F : Fun K "_law_fraction" "_law_fraction" s__law_fraction f fd) (m : mg "_law_fraction" = some (.ref f)) (B : Bt mg) (G__law_ratio : Cal P w K mg base "_law_ratio" 2 ["above", "below"] T__law_ratio) (G__law_take : Cal P w K mg base "_law_take" 2 ["c", "many"] T__law_take) : Cal P w K mg base "_law_fraction" 3 ["c"] T__law_fraction :=
  cal_mk F (F.binds (ps := ["c"]) fun _ _ _ _ _ _ us hl => match us, hl with | [_], _ => rfl) m sc__law_fraction fun cdv A outer s H E hr tk hp =>
    (dss_one (ds_ret (d_cal G__law_ratio hr (by decide) tk (by rfl) (da_cons (d_ixL (dl_disp (da_cons (d_bin o_sub d_int d_int) (da_cons (d_bin o_sub d_int d_int) (da_cons d_int (da_cons d_int (da_cons d_int (da_cons d_int (da_cons (d_bin o_pow d_int d_int) da_nil)))))))) (d_cal G__law_take hr (by decide) tk (by rfl) (da_cons (dv 0) (da_cons d_int da_nil)))) (da_cons (d_ixL (dl_disp (da_cons d_int (da_cons d_int (da_cons d_int (da_cons d_int (da_cons d_int (da_cons d_int da_nil))))))) (d_cal G__law_take hr (by decide) tk (by rfl) (da_cons (dv 0) (da_cons d_int da_nil)))) da_nil)))))
/-! _law_polynomial -/
abbrev s__law_polynomial : Stmt := topS 33
theorem sc__law_polynomial : FnScope ["c", "n", "terms", "most", "table", "turn", "k"] ["c", "n", "terms", "most"] (defScope s__law_polynomial) := ⟨rfl, rfl, rfl, by decide +kernel, rfl, by decide +kernel, by decide +kernel⟩
def b__law_polynomial : EvS :=
    (sSeq (sSet 4 eNewT)
    (sSeq (sFor (iRng1' (aCons (eCall 2 T__law_take (aCons (eVar 0) (aCons (eBin oAdd (eVar 2) (eC (.int 1))) aNil))) aNil)) (gN 5) (sPut' dPutD (eVar 4) (eOfL gTup (lComp [6] (iRng1' (aCons (eVar 1) aNil)) (gN 6) tYes' (eBin oMul (eCall 2 T__law_take (aCons (eVar 0) (aCons (eBin oAdd (eVar 3) (eC (.int 1))) aNil))) (eCall 2 T__law_take (aCons (eVar 0) (aCons (eC (.int 2)) aNil)))))) (eCall 1 T__law_fraction (aCons (eVar 0) aNil))))
    (sRet (eCall 1 T__law_told (aCons (eVar 4) aNil)))))
def T__law_polynomial (ds : List D) (S : Sto) : Res D := runD 7 b__law_polynomial ds S
set_option linter.unusedVariables false in
theorem ok__law_polynomial {P : Program} {w : World} {K : PySem.W.Frag} {mg : Str → Option Value} {base : Heap} {f : Addr} {fd : FuncData} (F : Fun K "_law_polynomial" "_law_polynomial" s__law_polynomial f fd) (m : mg "_law_polynomial" = some (.ref f)) (B : Bt mg) (G__law_take : Cal P w K mg base "_law_take" 2 ["c", "many"] T__law_take) (G__law_fraction : Cal P w K mg base "_law_fraction" 3 ["c"] T__law_fraction) (G__law_told : Cal P w K mg base "_law_told" 1 ["table"] T__law_told) : Cal P w K mg base "_law_polynomial" 4 ["c", "n", "terms", "most"] T__law_polynomial :=
  cal_mk F (F.binds (ps := ["c", "n", "terms", "most"]) fun _ _ _ _ _ _ us hl => match us, hl with | [_, _, _, _], _ => rfl) m sc__law_polynomial fun cdv A outer s H E hr tk hp =>
    (dss_cons (ds_set (i := 4) sc__law_polynomial.nd d_newT)
    (dss_cons (ds_for (vs := [5]) hp rfl (di_rng1 (by rfl) B.range (da_cons (d_cal G__law_take hr (by decide) tk (by rfl) (da_cons (dv 0) (da_cons (d_bin o_add (dv 2) d_int) da_nil))) da_nil)) (dg_name (i := 5) sc__law_polynomial.nd) (dss_one (ds_putD (un1 hr) (dv 4) (d_callLTy c_tup (by rfl) B.tuple bt_tuple (dl_comp (own := [("k", 6)]) (vs := [6]) rfl sc__law_polynomial.nd (di_rng1 (by rfl) B.range (da_cons (dv 1) da_nil)) (blkOk_by (N := ["c", "n", "terms", "most", "table", "turn", "k"]) (sc := defScope s__law_polynomial) (own := [("k", 6)]) (by decide +kernel)) (fun _ _ _ _ _ => (dg_name (i := 6) sc__law_polynomial.nd)) (fun _ _ _ _ _ => dts_nil) (fun _ _ _ _ _ => (d_bin o_mul (d_cal G__law_take hr (by decide) tkB (by rfl) (da_cons (dv 0) (da_cons (d_bin o_add (dv 3) d_int) da_nil))) (d_cal G__law_take hr (by decide) tkB (by rfl) (da_cons (dv 0) (da_cons d_int da_nil))))))) (d_cal G__law_fraction hr (by decide) tk (by rfl) (da_cons (dv 0) da_nil)))))
    (dss_one (ds_ret (d_cal G__law_told hr (by decide) tk (by rfl) (da_cons (dv 4) da_nil))))))
/-! _law_matrix -/
abbrev s__law_matrix : Stmt := topS 34
theorem sc__law_matrix : FnScope ["c", "many", "kind", "found", "i", "row", "k", "one"] ["c", "many"] (defScope s__law_matrix) := ⟨rfl, rfl, rfl, by decide +kernel, rfl, by decide +kernel, by decide +kernel⟩
def b__law_matrix : EvS :=
    (sSeq (sSet 2 (eCall 2 T__law_take (aCons (eVar 0) (aCons (eC (.int 3)) aNil))))
    (sSeq (sSet 3 (eMat (lDisp aNil)))
    (sSeq (sFor (iRng1' (aCons (eVar 1) aNil)) (gN 4) (sSeq (sSet 5 (eMat (lDisp aNil)))
    (sSeq (sFor (iRng1' (aCons (eVar 1) aNil)) (gN 6) (sSeq (sSet 7 (eIf (bOr (tBin (oBl cLt) (eVar 2) (eC (.int 2))) (tBin (oBl cGt) (eVar 6) (eVar 4))) (eTup (aCons (eBin oSub (eCall 2 T__law_take (aCons (eVar 0) (aCons (eC (.int 5)) aNil))) (eC (.int 2))) (aCons (eC (.int 1)) aNil))) (eTup (aCons (eCB gInt (aCons (eBin (oBl cEq) (eVar 6) (eVar 4)) aNil)) (aCons (eC (.int 1)) aNil)))))
    (sExpr (eMet "list" gApp (eVar 5) (aCons (eIf (tBin (oBn cEq) (eIx (eVar 7) (eC (.int 0))) (eC (.int 0))) (eCall 2 T__law_ratio (aCons (eIx (eVar 7) (eC (.int 0))) (aCons (eBin oAdd (eC (.int 1)) (eCall 2 T__law_take (aCons (eVar 0) (aCons (eC (.int 2)) aNil)))) aNil))) (eTup (aCons (eC (.int 0)) (aCons (eC (.int 1)) aNil)))) aNil)))))
    (sExpr (eMet "list" gApp (eVar 3) (aCons (eCB gTupD (aCons (eVar 5) aNil)) aNil))))))
    (sRet (eCB gTupD (aCons (eVar 3) aNil))))))
def T__law_matrix (ds : List D) (S : Sto) : Res D := runD 8 b__law_matrix ds S
set_option linter.unusedVariables false in
theorem ok__law_matrix {P : Program} {w : World} {K : PySem.W.Frag} {mg : Str → Option Value} {base : Heap} {f : Addr} {fd : FuncData} (F : Fun K "_law_matrix" "_law_matrix" s__law_matrix f fd) (m : mg "_law_matrix" = some (.ref f)) (B : Bt mg) (G__law_take : Cal P w K mg base "_law_take" 2 ["c", "many"] T__law_take) (G__law_ratio : Cal P w K mg base "_law_ratio" 2 ["above", "below"] T__law_ratio) : Cal P w K mg base "_law_matrix" 3 ["c", "many"] T__law_matrix :=
  cal_mk F (F.binds (ps := ["c", "many"]) fun _ _ _ _ _ _ us hl => match us, hl with | [_, _], _ => rfl) m sc__law_matrix fun cdv A outer s H E hr tk hp =>
    (dss_cons (ds_set (i := 2) sc__law_matrix.nd (d_cal G__law_take hr (by decide) tk (by rfl) (da_cons (dv 0) (da_cons d_int da_nil))))
    (dss_cons (ds_set (i := 3) sc__law_matrix.nd (d_mat (dl_disp da_nil)))
    (dss_cons (ds_for (vs := [4]) hp rfl (di_rng1 (by rfl) B.range (da_cons (dv 1) da_nil)) (dg_name (i := 4) sc__law_matrix.nd) (dss_cons (ds_set (i := 5) sc__law_matrix.nd (d_mat (dl_disp da_nil)))
    (dss_cons (ds_for (vs := [6]) hp rfl (di_rng1 (by rfl) B.range (da_cons (dv 1) da_nil)) (dg_name (i := 6) sc__law_matrix.nd) (dss_cons (ds_set (i := 7) sc__law_matrix.nd (d_if (dt_w (dw_or (dt_cmp (o_lt (un0 hr)) (dv 2) d_int (nomark _)) (dw_or1 (dt_cmp (o_gt) (dv 6) (dv 4) (nomark _))))) (d_tup (da_cons (d_bin o_sub (d_cal G__law_take hr (by decide) tk (by rfl) (da_cons (dv 0) (da_cons d_int da_nil))) d_int) (da_cons d_int da_nil))) (d_tup (da_cons (d_callTy c_int (by rfl) B.int bt_int (da_cons (d_cmp (o_eq (un64 hr)) (dv 6) (dv 4) (nomark _)) da_nil)) (da_cons d_int da_nil)))))
    (dss_one (ds_expr (d_met PySem.F.plainAttrs_list PySem.F.slot_list_append PySem.F.type_list_append m_app (dv 5) (da_cons (d_if (dt_cmp (o_ne (un64 hr)) (d_ix (dv 7) d_int) d_int (nomark _)) (d_cal G__law_ratio hr (by decide) tk (by rfl) (da_cons (d_ix (dv 7) d_int) (da_cons (d_bin o_add d_int (d_cal G__law_take hr (by decide) tk (by rfl) (da_cons (dv 0) (da_cons d_int da_nil)))) da_nil))) (d_tup (da_cons d_int (da_cons d_int da_nil)))) da_nil))))))
    (dss_one (ds_expr (d_met PySem.F.plainAttrs_list PySem.F.slot_list_append PySem.F.type_list_append m_app (dv 3) (da_cons (d_callTy c_tupD (by rfl) B.tuple bt_tuple (da_cons (dv 5) da_nil)) da_nil)))))))
    (dss_one (ds_ret (d_callTy c_tupD (by rfl) B.tuple bt_tuple (da_cons (dv 3) da_nil)))))))
/-! _law_unit -/
abbrev s__law_unit : Stmt := topS 35
theorem sc__law_unit : FnScope ["many", "i", "k"] ["many"] (defScope s__law_unit) := ⟨rfl, rfl, rfl, by decide +kernel, rfl, by decide +kernel, by decide +kernel⟩
def b__law_unit : EvS :=
    (sRet (eOfL gTup (lComp [1] (iRng1' (aCons (eVar 0) aNil)) (gN 1) tYes' (eOfL gTup (lComp [2] (iRng1' (aCons (eVar 0) aNil)) (gN 2) tYes' (eTup (aCons (eCB gInt (aCons (eBin (oBl cEq) (eVar 1) (eVar 2)) aNil)) (aCons (eC (.int 1)) aNil))))))))
def T__law_unit (ds : List D) (S : Sto) : Res D := runD 3 b__law_unit ds S
set_option linter.unusedVariables false in
theorem ok__law_unit {P : Program} {w : World} {K : PySem.W.Frag} {mg : Str → Option Value} {base : Heap} {f : Addr} {fd : FuncData} (F : Fun K "_law_unit" "_law_unit" s__law_unit f fd) (m : mg "_law_unit" = some (.ref f)) (B : Bt mg)  : Cal P w K mg base "_law_unit" 1 ["many"] T__law_unit :=
  cal_mk F (F.binds (ps := ["many"]) fun _ _ _ _ _ _ us hl => match us, hl with | [_], _ => rfl) m sc__law_unit fun cdv A outer s H E hr tk hp =>
    (dss_one (ds_ret (d_callLTy c_tup (by rfl) B.tuple bt_tuple (dl_comp (own := [("i", 1)]) (vs := [1]) rfl sc__law_unit.nd (di_rng1 (by rfl) B.range (da_cons (dv 0) da_nil)) (blkOk_by (N := ["many", "i", "k"]) (sc := defScope s__law_unit) (own := [("i", 1)]) (by decide +kernel)) (fun _ _ _ _ _ => (dg_name (i := 1) sc__law_unit.nd)) (fun _ _ _ _ _ => dts_nil) (fun _ _ _ _ _ => (d_callLTy c_tup (by rfl) B.tuple bt_tuple (dl_comp (own := [("k", 2)]) (vs := [2]) rfl sc__law_unit.nd (di_rng1 (by rfl) B.range (da_cons (dv 0) da_nil)) (blkOk_by (N := ["many", "i", "k"]) (sc := ({ kind := PySem.ScopeKind.function, names := [ (PySem.Str.ofString ".0", PySem.NameKind.local), (PySem.Str.ofString "i", PySem.NameKind.cell), (PySem.Str.ofString "tuple", PySem.NameKind.globalImplicit), (PySem.Str.ofString "range", PySem.NameKind.globalImplicit), (PySem.Str.ofString "many", PySem.NameKind.cell)], isGenerator := false, isCoroutine := false, more := [] : PySem.Scope })) (scope := { kind := PySem.ScopeKind.function, names := [ (PySem.Str.ofString ".0", PySem.NameKind.local), (PySem.Str.ofString "k", PySem.NameKind.local), (PySem.Str.ofString "int", PySem.NameKind.globalImplicit), (PySem.Str.ofString "i", PySem.NameKind.free)], isGenerator := false, isCoroutine := false, more := [] : PySem.Scope }) (own := [("k", 2)]) (by decide +kernel)) (fun _ _ _ _ _ => (dg_name (i := 2) sc__law_unit.nd)) (fun _ _ _ _ _ => dts_nil) (fun _ _ _ _ _ => (d_tup (da_cons (d_callTy c_int (by rfl) B.int bt_int (da_cons (d_cmp (o_eq (un64 hr)) (dv 1) (dv 2) (nomark _)) da_nil)) (da_cons d_int da_nil)))))))))))
/-! _law_by -/
abbrev s__law_by : Stmt := topS 36
theorem sc__law_by : FnScope ["a", "b", "found", "row", "new", "k", "one", "j"] ["a", "b"] (defScope s__law_by) := ⟨rfl, rfl, rfl, by decide +kernel, rfl, by decide +kernel, by decide +kernel⟩
def b__law_by : EvS :=
    (sSeq (sSet 2 (eMat (lDisp aNil)))
    (sSeq (sFor (iTup' (eVar 0)) (gN 3) (sSeq (sSet 4 (eMat (lDisp aNil)))
    (sSeq (sFor (iRng1' (aCons (eCB gLenD (aCons (eVar 0) aNil)) aNil)) (gN 5) (sSeq (sSet 6 (eTup (aCons (eC (.int 0)) (aCons (eC (.int 1)) aNil))))
    (sSeq (sFor (iRng1' (aCons (eCB gLenD (aCons (eVar 0) aNil)) aNil)) (gN 7) (sSet 6 (eCall 2 T__law_plus (aCons (eVar 6) (aCons (eCall 2 T__law_times (aCons (eIx (eVar 3) (eVar 7)) (aCons (eIx (eIx (eVar 1) (eVar 7)) (eVar 5)) aNil))) aNil)))))
    (sExpr (eMet "list" gApp (eVar 4) (aCons (eVar 6) aNil))))))
    (sExpr (eMet "list" gApp (eVar 2) (aCons (eCB gTupD (aCons (eVar 4) aNil)) aNil))))))
    (sRet (eCB gTupD (aCons (eVar 2) aNil)))))
def T__law_by (ds : List D) (S : Sto) : Res D := runD 8 b__law_by ds S
set_option linter.unusedVariables false in
theorem ok__law_by {P : Program} {w : World} {K : PySem.W.Frag} {mg : Str → Option Value} {base : Heap} {f : Addr} {fd : FuncData} (F : Fun K "_law_by" "_law_by" s__law_by f fd) (m : mg "_law_by" = some (.ref f)) (B : Bt mg) (G__law_plus : Cal P w K mg base "_law_plus" 3 ["a", "b"] T__law_plus) (G__law_times : Cal P w K mg base "_law_times" 3 ["a", "b"] T__law_times) : Cal P w K mg base "_law_by" 4 ["a", "b"] T__law_by :=
  cal_mk F (F.binds (ps := ["a", "b"]) fun _ _ _ _ _ _ us hl => match us, hl with | [_, _], _ => rfl) m sc__law_by fun cdv A outer s H E hr tk hp =>
    (dss_cons (ds_set (i := 2) sc__law_by.nd (d_mat (dl_disp da_nil)))
    (dss_cons (ds_for (vs := [3]) hp rfl (di_tup (dv 0)) (dg_name (i := 3) sc__law_by.nd) (dss_cons (ds_set (i := 4) sc__law_by.nd (d_mat (dl_disp da_nil)))
    (dss_cons (ds_for (vs := [5]) hp rfl (di_rng1 (by rfl) B.range (da_cons (d_callB (c_len) (by rfl) B.len bt_len (da_cons (dv 0) da_nil)) da_nil)) (dg_name (i := 5) sc__law_by.nd) (dss_cons (ds_set (i := 6) sc__law_by.nd (d_tup (da_cons d_int (da_cons d_int da_nil))))
    (dss_cons (ds_for (vs := [7]) hp rfl (di_rng1 (by rfl) B.range (da_cons (d_callB (c_len) (by rfl) B.len bt_len (da_cons (dv 0) da_nil)) da_nil)) (dg_name (i := 7) sc__law_by.nd) (dss_one (ds_set (i := 6) sc__law_by.nd (d_cal G__law_plus hr (by decide) tk (by rfl) (da_cons (dv 6) (da_cons (d_cal G__law_times hr (by decide) tk (by rfl) (da_cons (d_ix (dv 3) (dv 7)) (da_cons (d_ix (d_ix (dv 1) (dv 7)) (dv 5)) da_nil))) da_nil))))))
    (dss_one (ds_expr (d_met PySem.F.plainAttrs_list PySem.F.slot_list_append PySem.F.type_list_append m_app (dv 4) (da_cons (dv 6) da_nil)))))))
    (dss_one (ds_expr (d_met PySem.F.plainAttrs_list PySem.F.slot_list_append PySem.F.type_list_append m_app (dv 2) (da_cons (d_callTy c_tupD (by rfl) B.tuple bt_tuple (da_cons (dv 4) da_nil)) da_nil)))))))
    (dss_one (ds_ret (d_callTy c_tupD (by rfl) B.tuple bt_tuple (da_cons (dv 2) da_nil))))))
/-! _law_with -/
abbrev s__law_with : Stmt := topS 37
theorem sc__law_with : FnScope ["a", "b", "factor", "found", "i", "k"] ["a", "b", "factor"] (defScope s__law_with) := ⟨rfl, rfl, rfl, by decide +kernel, rfl, by decide +kernel, by decide +kernel⟩
def b__law_with : EvS :=
    (sSeq (sSet 3 (eMat (lDisp aNil)))
    (sSeq (sFor (iRng1' (aCons (eCB gLenD (aCons (eVar 0) aNil)) aNil)) (gN 4) (sExpr (eMet "list" gApp (eVar 3) (aCons (eOfL gTup (lComp [5] (iRng1' (aCons (eCB gLenD (aCons (eVar 0) aNil)) aNil)) (gN 5) tYes' (eCall 2 T__law_plus (aCons (eIx (eIx (eVar 0) (eVar 4)) (eVar 5)) (aCons (eCall 2 T__law_times (aCons (eIx (eIx (eVar 1) (eVar 4)) (eVar 5)) (aCons (eVar 2) aNil))) aNil))))) aNil))))
    (sRet (eCB gTupD (aCons (eVar 3) aNil)))))
def T__law_with (ds : List D) (S : Sto) : Res D := runD 6 b__law_with ds S
set_option linter.unusedVariables false in
theorem ok__law_with {P : Program} {w : World} {K : PySem.W.Frag} {mg : Str → Option Value} {base : Heap} {f : Addr} {fd : FuncData} (F : Fun K "_law_with" "_law_with" s__law_with f fd) (m : mg "_law_with" = some (.ref f)) (B : Bt mg) (G__law_plus : Cal P w K mg base "_law_plus" 3 ["a", "b"] T__law_plus) (G__law_times : Cal P w K mg base "_law_times" 3 ["a", "b"] T__law_times) : Cal P w K mg base "_law_with" 4 ["a", "b", "factor"] T__law_with :=
  cal_mk F (F.binds (ps := ["a", "b", "factor"]) fun _ _ _ _ _ _ us hl => match us, hl with | [_, _, _], _ => rfl) m sc__law_with fun cdv A outer s H E hr tk hp =>
    (dss_cons (ds_set (i := 3) sc__law_with.nd (d_mat (dl_disp da_nil)))
    (dss_cons (ds_for (vs := [4]) hp rfl (di_rng1 (by rfl) B.range (da_cons (d_callB (c_len) (by rfl) B.len bt_len (da_cons (dv 0) da_nil)) da_nil)) (dg_name (i := 4) sc__law_with.nd) (dss_one (ds_expr (d_met PySem.F.plainAttrs_list PySem.F.slot_list_append PySem.F.type_list_append m_app (dv 3) (da_cons (d_callLTy c_tup (by rfl) B.tuple bt_tuple (dl_comp (own := [("k", 5)]) (vs := [5]) rfl sc__law_with.nd (di_rng1 (by rfl) B.range (da_cons (d_callB (c_len) (by rfl) B.len bt_len (da_cons (dv 0) da_nil)) da_nil)) (blkOk_by (N := ["a", "b", "factor", "found", "i", "k"]) (sc := defScope s__law_with) (own := [("k", 5)]) (by decide +kernel)) (fun _ _ _ _ _ => (dg_name (i := 5) sc__law_with.nd)) (fun _ _ _ _ _ => dts_nil) (fun _ _ _ _ _ => (d_cal G__law_plus hr (by decide) tkB (by rfl) (da_cons (d_ix (d_ix (dv 0) (dv 4)) (dv 5)) (da_cons (d_cal G__law_times hr (by decide) tkB (by rfl) (da_cons (d_ix (d_ix (dv 1) (dv 4)) (dv 5)) (da_cons (dv 2) da_nil))) da_nil)))))) da_nil)))))
    (dss_one (ds_ret (d_callTy c_tupD (by rfl) B.tuple bt_tuple (da_cons (dv 3) da_nil))))))
/-! _law_zeros -/
abbrev s__law_zeros : Stmt := topS 38
theorem sc__law_zeros : FnScope ["many"] ["many"] (defScope s__law_zeros) := ⟨rfl, rfl, rfl, by decide +kernel, rfl, by decide +kernel, by decide +kernel⟩
def b__law_zeros : EvS :=
    (sRet (eBin oMul (eTup (aCons (eBin oMul (eTup (aCons (eTup (aCons (eC (.int 0)) (aCons (eC (.int 1)) aNil))) aNil)) (eVar 0)) aNil)) (eVar 0)))
def T__law_zeros (ds : List D) (S : Sto) : Res D := runD 1 b__law_zeros ds S
set_option linter.unusedVariables false in
theorem ok__law_zeros {P : Program} {w : World} {K : PySem.W.Frag} {mg : Str → Option Value} {base : Heap} {f : Addr} {fd : FuncData} (F : Fun K "_law_zeros" "_law_zeros" s__law_zeros f fd) (m : mg "_law_zeros" = some (.ref f)) (B : Bt mg)  : Cal P w K mg base "_law_zeros" 1 ["many"] T__law_zeros :=
  cal_mk F (F.binds (ps := ["many"]) fun _ _ _ _ _ _ us hl => match us, hl with | [_], _ => rfl) m sc__law_zeros fun cdv A outer s H E hr tk hp =>
    (dss_one (ds_ret (d_bin o_mul (d_tup (da_cons (d_bin o_mul (d_tup (da_cons (d_tup (da_cons d_int (da_cons d_int da_nil))) da_nil)) (dv 0)) da_nil)) (dv 0))))
/-! _law_commuting -/
abbrev s__law_commuting : Stmt := topS 39
theorem sc__law_commuting : FnScope ["c", "n", "many", "one", "found", "k", "new", "part"] ["c", "n", "many"] (defScope s__law_commuting) := ⟨rfl, rfl, rfl, by decide +kernel, rfl, by decide +kernel, by decide +kernel⟩
def b__law_commuting : EvS :=
    (sSeq (sSet 3 (eCall 2 T__law_matrix (aCons (eVar 0) (aCons (eVar 2) aNil))))
    (sSeq (sSet 4 (eMat (lDisp aNil)))
    (sSeq (sFor (iRng1' (aCons (eVar 1) aNil)) (gN 5) (sSeq (sSet 6 (eCall 1 T__law_zeros (aCons (eVar 2) aNil)))
    (sSeq (sFor (iTup' (eTup (aCons (eCall 1 T__law_unit (aCons (eVar 2) aNil)) (aCons (eVar 3) (aCons (eCall 2 T__law_by (aCons (eVar 3) (aCons (eVar 3) aNil))) aNil))))) (gN 7) (sSet 6 (eCall 3 T__law_with (aCons (eVar 6) (aCons (eVar 7) (aCons (eTup (aCons (eBin oSub (eCall 2 T__law_take (aCons (eVar 0) (aCons (eC (.int 4)) aNil))) (eC (.int 1))) (aCons (eC (.int 1)) aNil))) aNil))))))
    (sExpr (eMet "list" gApp (eVar 4) (aCons (eVar 6) aNil))))))
    (sRet (eCB gTupD (aCons (eVar 4) aNil))))))
def T__law_commuting (ds : List D) (S : Sto) : Res D := runD 8 b__law_commuting ds S
set_option linter.unusedVariables false in
theorem ok__law_commuting {P : Program} {w : World} {K : PySem.W.Frag} {mg : Str → Option Value} {base : Heap} {f : Addr} {fd : FuncData} (F : Fun K "_law_commuting" "_law_commuting" s__law_commuting f fd) (m : mg "_law_commuting" = some (.ref f)) (B : Bt mg) (G__law_matrix : Cal P w K mg base "_law_matrix" 3 ["c", "many"] T__law_matrix) (G__law_zeros : Cal P w K mg base "_law_zeros" 1 ["many"] T__law_zeros) (G__law_by : Cal P w K mg base "_law_by" 4 ["a", "b"] T__law_by) (G__law_unit : Cal P w K mg base "_law_unit" 1 ["many"] T__law_unit) (G__law_with : Cal P w K mg base "_law_with" 4 ["a", "b", "factor"] T__law_with) (G__law_take : Cal P w K mg base "_law_take" 2 ["c", "many"] T__law_take) : Cal P w K mg base "_law_commuting" 5 ["c", "n", "many"] T__law_commuting :=
  cal_mk F (F.binds (ps := ["c", "n", "many"]) fun _ _ _ _ _ _ us hl => match us, hl with | [_, _, _], _ => rfl) m sc__law_commuting fun cdv A outer s H E hr tk hp =>
    (dss_cons (ds_set (i := 3) sc__law_commuting.nd (d_cal G__law_matrix hr (by decide) tk (by rfl) (da_cons (dv 0) (da_cons (dv 2) da_nil))))
    (dss_cons (ds_set (i := 4) sc__law_commuting.nd (d_mat (dl_disp da_nil)))
    (dss_cons (ds_for (vs := [5]) hp rfl (di_rng1 (by rfl) B.range (da_cons (dv 1) da_nil)) (dg_name (i := 5) sc__law_commuting.nd) (dss_cons (ds_set (i := 6) sc__law_commuting.nd (d_cal G__law_zeros hr (by decide) tk (by rfl) (da_cons (dv 2) da_nil)))
    (dss_cons (ds_for (vs := [7]) hp rfl (di_tup (d_tup (da_cons (d_cal G__law_unit hr (by decide) tk (by rfl) (da_cons (dv 2) da_nil)) (da_cons (dv 3) (da_cons (d_cal G__law_by hr (by decide) tk (by rfl) (da_cons (dv 3) (da_cons (dv 3) da_nil))) da_nil))))) (dg_name (i := 7) sc__law_commuting.nd) (dss_one (ds_set (i := 6) sc__law_commuting.nd (d_cal G__law_with hr (by decide) tk (by rfl) (da_cons (dv 6) (da_cons (dv 7) (da_cons (d_tup (da_cons (d_bin o_sub (d_cal G__law_take hr (by decide) tk (by rfl) (da_cons (dv 0) (da_cons d_int da_nil))) d_int) (da_cons d_int da_nil))) da_nil)))))))
    (dss_one (ds_expr (d_met PySem.F.plainAttrs_list PySem.F.slot_list_append PySem.F.type_list_append m_app (dv 4) (da_cons (dv 6) da_nil)))))))
    (dss_one (ds_ret (d_callTy c_tupD (by rfl) B.tuple bt_tuple (da_cons (dv 4) da_nil)))))))
/-! _law_is_integer -/
abbrev s__law_is_integer : Stmt := topS 40
theorem sc__law_is_integer : FnScope ["value"] ["value"] (defScope s__law_is_integer) := ⟨rfl, rfl, rfl, by decide +kernel, rfl, by decide +kernel, by decide +kernel⟩
def b__law_is_integer : EvS :=
    (sRet (eAnd (eIsi "int" (eVar 0)) (eNot (eIsi "bool" (eVar 0)))))
def T__law_is_integer (ds : List D) (S : Sto) : Res D := runD 1 b__law_is_integer ds S
set_option linter.unusedVariables false in
theorem ok__law_is_integer {P : Program} {w : World} {K : PySem.W.Frag} {mg : Str → Option Value} {base : Heap} {f : Addr} {fd : FuncData} (F : Fun K "_law_is_integer" "_law_is_integer" s__law_is_integer f fd) (m : mg "_law_is_integer" = some (.ref f)) (B : Bt mg)  : Cal P w K mg base "_law_is_integer" 1 ["value"] T__law_is_integer :=
  cal_mk F (F.binds (ps := ["value"]) fun _ _ _ _ _ _ us hl => match us, hl with | [_], _ => rfl) m sc__law_is_integer fun cdv A outer s H E hr tk hp =>
    (dss_one (ds_ret (d_and (d_isi (by rfl) B.isi (by rfl) B.int bt_int (dv 0)) (d_one (d_not (d_isi (by rfl) B.isi (by rfl) B.bool bt_bool (dv 0)))))))
/-! _law_is_matrix -/
abbrev s__law_is_matrix : Stmt := topS 41
theorem sc__law_is_matrix : FnScope ["value", "row", "one", "part"] ["value"] (defScope s__law_is_matrix) := ⟨rfl, rfl, rfl, by decide +kernel, rfl, by decide +kernel, by decide +kernel⟩
def b__law_is_matrix : EvS :=
    (sSeq (sIf (bOr (bNot (tTru (eIsi "tuple" (eVar 0)))) (bNot (tTru (eVar 0)))) (sRet (eC (.bl false))) sNil)
    (sSeq (sFor (iTup' (eVar 0)) (gN 1) (sSeq (sIf (bOr (bNot (tTru (eIsi "tuple" (eVar 1)))) (tBin (oBn cEq) (eCB gLenD (aCons (eVar 1) aNil)) (eCB gLenD (aCons (eVar 0) aNil)))) (sRet (eC (.bl false))) sNil)
    (sFor (iTup' (eVar 1)) (gN 2) (sSeq (sIf (bOr (bNot (tTru (eIsi "tuple" (eVar 2)))) (bOr (tBin (oBn cEq) (eCB gLenD (aCons (eVar 2) aNil)) (eC (.int 2))) (bNot (tTru (eOfL gAll (lComp [3] (iTup' (eVar 2)) (gN 3) tYes' (eCall 1 T__law_is_integer (aCons (eVar 3) aNil)))))))) (sRet (eC (.bl false))) sNil)
    (sIf (bOr (tBin (oBl cLt) (eIx (eVar 2) (eC (.int 1))) (eC (.int 1))) (tBin (oBn cEq) (eCall 2 T__law_divisor (aCons (eIx (eVar 2) (eC (.int 0))) (aCons (eIx (eVar 2) (eC (.int 1))) aNil))) (eC (.int 1)))) (sRet (eC (.bl false))) sNil)))))
    (sRet (eC (.bl true)))))
def T__law_is_matrix (ds : List D) (S : Sto) : Res D := runD 4 b__law_is_matrix ds S
set_option linter.unusedVariables false in
theorem ok__law_is_matrix {P : Program} {w : World} {K : PySem.W.Frag} {mg : Str → Option Value} {base : Heap} {f : Addr} {fd : FuncData} (F : Fun K "_law_is_matrix" "_law_is_matrix" s__law_is_matrix f fd) (m : mg "_law_is_matrix" = some (.ref f)) (B : Bt mg) (G__law_is_integer : Cal P w K mg base "_law_is_integer" 1 ["value"] T__law_is_integer) (G__law_divisor : Cal P w K mg base "_law_divisor" 1 ["a", "b"] T__law_divisor) : Cal P w K mg base "_law_is_matrix" 2 ["value"] T__law_is_matrix :=
  cal_mk F (F.binds (ps := ["value"]) fun _ _ _ _ _ _ us hl => match us, hl with | [_], _ => rfl) m sc__law_is_matrix fun cdv A outer s H E hr tk hp =>
    (dss_cons (ds_if (dt_w (dw_or (dt_not (dt_tru (d_isi (by rfl) B.isi (by rfl) B.tuple bt_tuple (dv 0)))) (dw_or1 (dt_not (dt_tru (dv 0)))))) (dss_one (ds_ret d_bl)) dss_nil)
    (dss_cons (ds_for (vs := [1]) hp rfl (di_tup (dv 0)) (dg_name (i := 1) sc__law_is_matrix.nd) (dss_cons (ds_if (dt_w (dw_or (dt_not (dt_tru (d_isi (by rfl) B.isi (by rfl) B.tuple bt_tuple (dv 1)))) (dw_or1 (dt_cmp (o_ne (un64 hr)) (d_callB (c_len) (by rfl) B.len bt_len (da_cons (dv 1) da_nil)) (d_callB (c_len) (by rfl) B.len bt_len (da_cons (dv 0) da_nil)) (nomark _))))) (dss_one (ds_ret d_bl)) dss_nil)
    (dss_one (ds_for (vs := [2]) hp rfl (di_tup (dv 1)) (dg_name (i := 2) sc__law_is_matrix.nd) (dss_cons (ds_if (dt_w (dw_or (dt_not (dt_tru (d_isi (by rfl) B.isi (by rfl) B.tuple bt_tuple (dv 2)))) (dw_or (dt_cmp (o_ne (un64 hr)) (d_callB (c_len) (by rfl) B.len bt_len (da_cons (dv 2) da_nil)) d_int (nomark _)) (dw_or1 (dt_not (dt_tru (d_callL (c_all rfl) (by rfl) B.all bt_all (dl_comp (own := [("part", 3)]) (vs := [3]) rfl sc__law_is_matrix.nd (di_tup (dv 2)) (blkOk_by (N := ["value", "row", "one", "part"]) (sc := defScope s__law_is_matrix) (own := [("part", 3)]) (by decide +kernel)) (fun _ _ _ _ _ => (dg_name (i := 3) sc__law_is_matrix.nd)) (fun _ _ _ _ _ => dts_nil) (fun _ _ _ _ _ => (d_cal G__law_is_integer hr (by decide) tkB (by rfl) (da_cons (dv 3) da_nil))))))))))) (dss_one (ds_ret d_bl)) dss_nil)
    (dss_one (ds_if (dt_w (dw_or (dt_cmp (o_lt (un0 hr)) (d_ix (dv 2) d_int) d_int (nomark _)) (dw_or1 (dt_cmp (o_ne (un64 hr)) (d_cal G__law_divisor hr (by decide) tk (by rfl) (da_cons (d_ix (dv 2) d_int) (da_cons (d_ix (dv 2) d_int) da_nil))) d_int (nomark _))))) (dss_one (ds_ret d_bl)) dss_nil)))))))
    (dss_one (ds_ret d_bl))))
/-! _law_is_point -/
abbrev s__law_is_point : Stmt := topS 42
theorem sc__law_is_point : FnScope ["value", "n", "one", "two"] ["value", "n"] (defScope s__law_is_point) := ⟨rfl, rfl, rfl, by decide +kernel, rfl, by decide +kernel, by decide +kernel⟩
def b__law_is_point : EvS :=
    (sSeq (sIf (bOr (bNot (tTru (eIsi "tuple" (eVar 0)))) (bOr (tBin (oBn cEq) (eCB gLenD (aCons (eVar 0) aNil)) (eVar 1)) (bNot (tTru (eOfL gAll (lComp [2] (iTup' (eVar 0)) (gN 2) tYes' (eCall 1 T__law_is_matrix (aCons (eVar 2) aNil)))))))) (sRet (eC (.bl false))) sNil)
    (sSeq (sFor (iTup' (eVar 0)) (gN 2) (sFor (iTup' (eVar 0)) (gN 3) (sIf (bOr (tBin (oBn cEq) (eCB gLenD (aCons (eVar 2) aNil)) (eCB gLenD (aCons (eVar 3) aNil))) (tBin (oBn cEq) (eCall 2 T__law_by (aCons (eVar 2) (aCons (eVar 3) aNil))) (eCall 2 T__law_by (aCons (eVar 3) (aCons (eVar 2) aNil))))) (sRet (eC (.bl false))) sNil)))
    (sRet (eC (.bl true)))))
def T__law_is_point (ds : List D) (S : Sto) : Res D := runD 4 b__law_is_point ds S
set_option linter.unusedVariables false in
theorem ok__law_is_point {P : Program} {w : World} {K : PySem.W.Frag} {mg : Str → Option Value} {base : Heap} {f : Addr} {fd : FuncData} (F : Fun K "_law_is_point" "_law_is_point" s__law_is_point f fd) (m : mg "_law_is_point" = some (.ref f)) (B : Bt mg) (G__law_is_matrix : Cal P w K mg base "_law_is_matrix" 2 ["value"] T__law_is_matrix) (G__law_by : Cal P w K mg base "_law_by" 4 ["a", "b"] T__law_by) : Cal P w K mg base "_law_is_point" 5 ["value", "n"] T__law_is_point :=
  cal_mk F (F.binds (ps := ["value", "n"]) fun _ _ _ _ _ _ us hl => match us, hl with | [_, _], _ => rfl) m sc__law_is_point fun cdv A outer s H E hr tk hp =>
    (dss_cons (ds_if (dt_w (dw_or (dt_not (dt_tru (d_isi (by rfl) B.isi (by rfl) B.tuple bt_tuple (dv 0)))) (dw_or (dt_cmp (o_ne (un64 hr)) (d_callB (c_len) (by rfl) B.len bt_len (da_cons (dv 0) da_nil)) (dv 1) (nomark _)) (dw_or1 (dt_not (dt_tru (d_callL (c_all rfl) (by rfl) B.all bt_all (dl_comp (own := [("one", 2)]) (vs := [2]) rfl sc__law_is_point.nd (di_tup (dv 0)) (blkOk_by (N := ["value", "n", "one", "two"]) (sc := defScope s__law_is_point) (own := [("one", 2)]) (by decide +kernel)) (fun _ _ _ _ _ => (dg_name (i := 2) sc__law_is_point.nd)) (fun _ _ _ _ _ => dts_nil) (fun _ _ _ _ _ => (d_cal G__law_is_matrix hr (by decide) tkB (by rfl) (da_cons (dv 2) da_nil))))))))))) (dss_one (ds_ret d_bl)) dss_nil)
    (dss_cons (ds_for (vs := [2]) hp rfl (di_tup (dv 0)) (dg_name (i := 2) sc__law_is_point.nd) (dss_one (ds_for (vs := [3]) hp rfl (di_tup (dv 0)) (dg_name (i := 3) sc__law_is_point.nd) (dss_one (ds_if (dt_w (dw_or (dt_cmp (o_ne (un64 hr)) (d_callB (c_len) (by rfl) B.len bt_len (da_cons (dv 2) da_nil)) (d_callB (c_len) (by rfl) B.len bt_len (da_cons (dv 3) da_nil)) (nomark _)) (dw_or1 (dt_cmp (o_ne (un64 hr)) (d_cal G__law_by hr (by decide) tk (by rfl) (da_cons (dv 2) (da_cons (dv 3) da_nil))) (d_cal G__law_by hr (by decide) tk (by rfl) (da_cons (dv 3) (da_cons (dv 2) da_nil))) (nomark _))))) (dss_one (ds_ret d_bl)) dss_nil)))))
    (dss_one (ds_ret d_bl))))
/-! _law_bent -/
abbrev s__law_bent : Stmt := topS 43
theorem sc__law_bent : FnScope ["c", "point", "rows", "many", "kind", "k", "i", "j", "one", "odd", "row", "new"] ["c", "point"] (defScope s__law_bent) := ⟨rfl, rfl, rfl, by decide +kernel, rfl, by decide +kernel, by decide +kernel⟩
def b__law_bent : EvS :=
    (sSeq (sSet 2 (eMat (lCB gLst (aCons (eVar 1) aNil))))
    (sSeq (sSet 3 (eCB gLenD (aCons (eIx (eVar 2) (eC (.int 0))) aNil)))
    (sSeq (sSet 4 (eCall 2 T__law_take (aCons (eVar 0) (aCons (eC (.int 7)) aNil))))
    (sSeq (sPar3 5 6 7 (aCons (eCall 2 T__law_take (aCons (eVar 0) (aCons (eCB gLenD (aCons (eVar 2) aNil)) aNil))) (aCons (eCall 2 T__law_take (aCons (eVar 0) (aCons (eVar 3) aNil))) (aCons (eCall 2 T__law_take (aCons (eVar 0) (aCons (eVar 3) aNil))) aNil))))
    (sSeq (sIf (tBin (oBl cEq) (eVar 4) (eC (.int 0))) (sRet (eIxL (lDisp (aCons (eTup aNil) (aCons (eC (.str "")) (aCons (eC (.int 0)) (aCons (eSlT (eVar 1) pNo (pSome (eBin oSub (eC (.int 0)) (eC (.int 1))))) (aCons (eBin oAdd (eVar 1) (eTup (aCons (eIx (eVar 1) (eC (.int 0))) aNil))) (aCons (eTup (aCons (eTup aNil) aNil)) (aCons (eTup (aCons (eTup (aCons (eTup (aCons (eC (.int 0)) (aCons (eC (.int 1)) aNil))) aNil)) aNil)) aNil)))))))) (eCall 2 T__law_take (aCons (eVar 0) (aCons (eC (.int 7)) aNil))))) sNil)
    (sSeq (sIf (tBin (oBl cEq) (eVar 4) (eC (.int 1))) (sPut' setLD (eVar 2) (eVar 5) (eCall 2 T__law_matrix (aCons (eVar 0) (aCons (eVar 3) aNil)))) (sIf (tBin (oBl cEq) (eVar 4) (eC (.int 2))) (sPut' setLD (eVar 2) (eVar 5) (eCall 2 T__law_matrix (aCons (eVar 0) (aCons (eBin oAdd (eBin oMod (eVar 3) (eC (.int 4))) (eC (.int 1))) aNil)))) (sSeq (sSet 8 (eIx (eIx (eIx (eVar 2) (eVar 5)) (eVar 6)) (eVar 7)))
    (sSeq (sSet 9 (eMat (lDisp (aCons (eCall 2 T__law_plus (aCons (eVar 8) (aCons (eTup (aCons (eC (.int 1)) (aCons (eC (.int 1)) aNil))) aNil))) (aCons (eTup (aCons (eBin oMul (eIx (eVar 8) (eC (.int 0))) (eC (.int 2))) (aCons (eBin oMul (eIx (eVar 8) (eC (.int 1))) (eC (.int 2))) aNil))) (aCons (eTup (aCons (eIx (eVar 8) (eC (.int 0))) (aCons (eBin oSub (eC (.int 0)) (eIx (eVar 8) (eC (.int 1)))) aNil))) (aCons (eIx (eVar 8) (eC (.int 0))) (aCons (eTup (aCons (eIx (eVar 8) (eC (.int 0))) aNil)) aNil))))))))
    (sSeq (sSet 9 (eMat (lCat1 (eVar 9) (lDisp (aCons (eTup (aCons (eC (.bl true)) (aCons (eC (.int 1)) aNil))) (aCons (eTup (aCons (eC (.str "1")) (aCons (eC (.int 1)) aNil))) aNil))))))
    (sSeq (sSet 10 (eIx (eIx (eVar 2) (eVar 5)) (eVar 6)))
    (sSeq (sSet 11 (eBin oAdd (eBin oAdd (eSlT (eVar 10) pNo (pSome (eVar 7))) (eTup (aCons (eIx (eVar 9) (eCall 2 T__law_take (aCons (eVar 0) (aCons (eC (.int 7)) aNil)))) aNil))) (eSlT (eVar 10) (pSome (eBin oAdd (eVar 7) (eC (.int 1)))) pNo)))
    (sSeq (sSet 11 (eIf (tBin (oBl cLt) (eVar 4) (eC (.int 6))) (eVar 11) (eBin oAdd (eVar 10) (eTup (aCons (eTup (aCons (eC (.int 0)) (aCons (eC (.int 1)) aNil))) aNil)))))
    (sPut' setLD (eVar 2) (eVar 5) (eBin oAdd (eBin oAdd (eSlT (eIx (eVar 2) (eVar 5)) pNo (pSome (eVar 6))) (eTup (aCons (eVar 11) aNil))) (eSlT (eIx (eVar 2) (eVar 5)) (pSome (eBin oAdd (eVar 6) (eC (.int 1)))) pNo)))))))))))
    (sRet (eCB gTupD (aCons (eVar 2) aNil)))))))))
def T__law_bent (ds : List D) (S : Sto) : Res D := runD 12 b__law_bent ds S
set_option linter.unusedVariables false in
theorem ok__law_bent {P : Program} {w : World} {K : PySem.W.Frag} {mg : Str → Option Value} {base : Heap} {f : Addr} {fd : FuncData} (F : Fun K "_law_bent" "_law_bent" s__law_bent f fd) (m : mg "_law_bent" = some (.ref f)) (B : Bt mg) (G__law_take : Cal P w K mg base "_law_take" 2 ["c", "many"] T__law_take) (G__law_matrix : Cal P w K mg base "_law_matrix" 3 ["c", "many"] T__law_matrix) (G__law_plus : Cal P w K mg base "_law_plus" 3 ["a", "b"] T__law_plus) : Cal P w K mg base "_law_bent" 4 ["c", "point"] T__law_bent :=
  cal_mk F (F.binds (ps := ["c", "point"]) fun _ _ _ _ _ _ us hl => match us, hl with | [_, _], _ => rfl) m sc__law_bent fun cdv A outer s H E hr tk hp =>
    (dss_cons (ds_set (i := 2) sc__law_bent.nd (d_mat (dl_callTy c_lst (by rfl) B.list bt_list (da_cons (dv 1) da_nil))))
    (dss_cons (ds_set (i := 3) sc__law_bent.nd (d_callB (c_len) (by rfl) B.len bt_len (da_cons (d_ix (dv 2) d_int) da_nil)))
    (dss_cons (ds_set (i := 4) sc__law_bent.nd (d_cal G__law_take hr (by decide) tk (by rfl) (da_cons (dv 0) (da_cons d_int da_nil))))
    (dss_cons (ds_par3 (i := 5) (j := 6) (l := 7) rfl sc__law_bent.nd (da_cons (d_cal G__law_take hr (by decide) tk (by rfl) (da_cons (dv 0) (da_cons (d_callB (c_len) (by rfl) B.len bt_len (da_cons (dv 2) da_nil)) da_nil))) (da_cons (d_cal G__law_take hr (by decide) tk (by rfl) (da_cons (dv 0) (da_cons (dv 3) da_nil))) (da_cons (d_cal G__law_take hr (by decide) tk (by rfl) (da_cons (dv 0) (da_cons (dv 3) da_nil))) da_nil))))
    (dss_cons (ds_if (dt_cmp (o_eq (un64 hr)) (dv 4) d_int (nomark _)) (dss_one (ds_ret (d_ixL (dl_disp (da_cons (d_tup da_nil) (da_cons d_str (da_cons d_int (da_cons (d_slT (dv 1) do_no (do_some (d_bin o_sub d_int d_int))) (da_cons (d_bin o_add (dv 1) (d_tup (da_cons (d_ix (dv 1) d_int) da_nil))) (da_cons (d_tup (da_cons (d_tup da_nil) da_nil)) (da_cons (d_tup (da_cons (d_tup (da_cons (d_tup (da_cons d_int (da_cons d_int da_nil))) da_nil)) da_nil)) da_nil)))))))) (d_cal G__law_take hr (by decide) tk (by rfl) (da_cons (dv 0) (da_cons d_int da_nil)))))) dss_nil)
    (dss_cons (ds_if (dt_cmp (o_eq (un64 hr)) (dv 4) d_int (nomark _)) (dss_one (ds_putL (dv 2) (dv 5) (d_cal G__law_matrix hr (by decide) tk (by rfl) (da_cons (dv 0) (da_cons (dv 3) da_nil))))) (dss_one (ds_if (dt_cmp (o_eq (un64 hr)) (dv 4) d_int (nomark _)) (dss_one (ds_putL (dv 2) (dv 5) (d_cal G__law_matrix hr (by decide) tk (by rfl) (da_cons (dv 0) (da_cons (d_bin o_add (d_bin o_mod (dv 3) d_int) d_int) da_nil))))) (dss_cons (ds_set (i := 8) sc__law_bent.nd (d_ix (d_ix (d_ix (dv 2) (dv 5)) (dv 6)) (dv 7)))
    (dss_cons (ds_set (i := 9) sc__law_bent.nd (d_mat (dl_disp (da_cons (d_cal G__law_plus hr (by decide) tk (by rfl) (da_cons (dv 8) (da_cons (d_tup (da_cons d_int (da_cons d_int da_nil))) da_nil))) (da_cons (d_tup (da_cons (d_bin o_mul (d_ix (dv 8) d_int) d_int) (da_cons (d_bin o_mul (d_ix (dv 8) d_int) d_int) da_nil))) (da_cons (d_tup (da_cons (d_ix (dv 8) d_int) (da_cons (d_bin o_sub d_int (d_ix (dv 8) d_int)) da_nil))) (da_cons (d_ix (dv 8) d_int) (da_cons (d_tup (da_cons (d_ix (dv 8) d_int) da_nil)) da_nil))))))))
    (dss_cons (ds_set (i := 9) sc__law_bent.nd (d_mat (dl_cat1 (dv 9) (dl_disp (da_cons (d_tup (da_cons d_bl (da_cons d_int da_nil))) (da_cons (d_tup (da_cons d_str (da_cons d_int da_nil))) da_nil))))))
    (dss_cons (ds_set (i := 10) sc__law_bent.nd (d_ix (d_ix (dv 2) (dv 5)) (dv 6)))
    (dss_cons (ds_set (i := 11) sc__law_bent.nd (d_bin o_add (d_bin o_add (d_slT (dv 10) do_no (do_some (dv 7))) (d_tup (da_cons (d_ix (dv 9) (d_cal G__law_take hr (by decide) tk (by rfl) (da_cons (dv 0) (da_cons d_int da_nil)))) da_nil))) (d_slT (dv 10) (do_some (d_bin o_add (dv 7) d_int)) do_no)))
    (dss_cons (ds_set (i := 11) sc__law_bent.nd (d_if (dt_cmp (o_lt (un0 hr)) (dv 4) d_int (nomark _)) (dv 11) (d_bin o_add (dv 10) (d_tup (da_cons (d_tup (da_cons d_int (da_cons d_int da_nil))) da_nil)))))
    (dss_one (ds_putL (dv 2) (dv 5) (d_bin o_add (d_bin o_add (d_slT (d_ix (dv 2) (dv 5)) do_no (do_some (dv 6))) (d_tup (da_cons (dv 11) da_nil))) (d_slT (d_ix (dv 2) (dv 5)) (do_some (d_bin o_add (dv 6) d_int)) do_no)))))))))))))
    (dss_one (ds_ret (d_callTy c_tupD (by rfl) B.tuple bt_tuple (da_cons (dv 2) da_nil))))))))))
/-! law -/
abbrev s_law : Stmt := topS 44
theorem sc_law : FnScope ["script", "c", "point", "turn", "n", "many", "bent", "p", "due", "key", "factor", "made", "k", "again"] ["script"] (defScope s_law) := ⟨rfl, rfl, rfl, by decide +kernel, rfl, by decide +kernel, by decide +kernel⟩
def b_law_0 (C : Addr) : EvS :=
    (sPar 4 5 (aCons (eBin oAdd (eC (.int 1)) (eCall 2 T__law_take (aCons (eVar 1) (aCons (eC (.int 3)) aNil)))) (aCons (eBin oAdd (eC (.int 1)) (eCall 2 T__law_take (aCons (eVar 1) (aCons (eC (.int 4)) aNil)))) aNil)))
def b_law_1 (C : Addr) : EvS :=
    (sSet 2 (eCall 3 T__law_commuting (aCons (eVar 1) (aCons (eVar 4) (aCons (eVar 5) aNil)))))
def b_law_2 (C : Addr) : EvS :=
    (sIf (tBin (oBn cEq) (eCB gRepr (aCons (eCall 2 T_is_point (aCons (eVar 2) (aCons (eVar 4) aNil))) aNil)) (eC (.str "True"))) (sRet (eC (.bl false))) sNil)
def b_law_3b_0 (C : Addr) : EvS :=
    (sSet 6 (eCall 2 T__law_bent (aCons (eVar 1) (aCons (eVar 2) aNil))))
def b_law_3b_1 (C : Addr) : EvS :=
    (sIf (tBin (oBn cEq) (eCB gRepr (aCons (eCall 2 T_is_point (aCons (eVar 6) (aCons (eVar 4) aNil))) aNil)) (eCB gRepr (aCons (eCall 2 T__law_is_point (aCons (eVar 6) (aCons (eVar 4) aNil))) aNil))) (sRet (eC (.bl false))) sNil)
def b_law_3b_2 (C : Addr) : EvS :=
    (sSet 7 (eCall 4 T__law_polynomial (aCons (eVar 1) (aCons (eVar 4) (aCons (eC (.int 4)) (aCons (eC (.int 3)) aNil))))))
def b_law_3b_3 (C : Addr) : EvS :=
    (sSet 8 (eCall 1 T__law_zeros (aCons (eVar 5) aNil)))
def b_law_3b_4b_0 (C : Addr) : EvS :=
    (sSet 11 (eCall 1 T__law_unit (aCons (eVar 5) aNil)))
def b_law_3b_4b_1b_0b_0 (C : Addr) : EvS :=
    (sSet 11 (eCall 2 T__law_by (aCons (eVar 11) (aCons (eIx (eVar 2) (eVar 12)) aNil))))
def b_law_3b_4b_1b_0b (C : Addr) : EvS :=
    (b_law_3b_4b_1b_0b_0 C)
def b_law_3b_4b_1b_0 (C : Addr) : EvS := (sFor (iRng1' (aCons (eIx (eVar 9) (eVar 12)) aNil)) (gN 13) (b_law_3b_4b_1b_0b C))
def b_law_3b_4b_1b (C : Addr) : EvS :=
    (b_law_3b_4b_1b_0 C)
def b_law_3b_4b_1 (C : Addr) : EvS := (sFor (iRng1' (aCons (eVar 4) aNil)) (gN 12) (b_law_3b_4b_1b C))
def b_law_3b_4b_2 (C : Addr) : EvS :=
    (sSet 8 (eCall 3 T__law_with (aCons (eVar 8) (aCons (eVar 11) (aCons (eVar 10) aNil)))))
def b_law_3b_4b (C : Addr) : EvS :=
    (sSeq (b_law_3b_4b_0 C) (sSeq (b_law_3b_4b_1 C) (b_law_3b_4b_2 C)))
def b_law_3b_4 (C : Addr) : EvS := (sFor (iTup' (eVar 7)) (gTup' 2 (gCons' (gN 9) (gCons' (gN 10) gNil'))) (b_law_3b_4b C))
def b_law_3b_5 (C : Addr) : EvS :=
    (sIf (tBin (oBn cEq) (eCB gRepr (aCons (eCall 2 (T_at_point C) (aCons (eVar 7) (aCons (eVar 2) aNil))) aNil)) (eCB gRepr (aCons (eVar 8) aNil))) (sRet (eC (.bl false))) sNil)
def b_law_3b (C : Addr) : EvS :=
    (sSeq (b_law_3b_0 C) (sSeq (b_law_3b_1 C) (sSeq (b_law_3b_2 C) (sSeq (b_law_3b_3 C) (sSeq (b_law_3b_4 C) (b_law_3b_5 C))))))
def b_law_3 (C : Addr) : EvS := (sFor (iRng1' (aCons (eC (.int 3)) aNil)) (gN 3) (b_law_3b C))
def b_law_4 (C : Addr) : EvS :=
    (sRet (eC (.bl true)))
def b_law (C : Addr) : EvS :=
    (sSeq (b_law_0 C) (sSeq (b_law_1 C) (sSeq (b_law_2 C) (sSeq (b_law_3 C) (b_law_4 C)))))
def T_law (C : Addr) (ds : List D) (S : Sto) : Res D := runD 14 (b_law C) ds S
set_option linter.unusedVariables false in
theorem dr_law {P : Program} {w : World} {K : PySem.W.Frag} {mg : Str → Option Value} {base : Heap} {f : Addr} (B : Bt mg) {C : Addr} (cls : Cls K C) (na_made : NoAttr K C "made") (na_point : NoAttr K C "point") (G__law_take : Cal P w K mg base "_law_take" 2 ["c", "many"] T__law_take) (G__law_commuting : Cal P w K mg base "_law_commuting" 5 ["c", "n", "many"] T__law_commuting) (G_is_point : Cal P w K mg base "is_point" 5 ["value", "n"] T_is_point) (G__law_bent : Cal P w K mg base "_law_bent" 4 ["c", "point"] T__law_bent) (G__law_is_point : Cal P w K mg base "_law_is_point" 5 ["value", "n"] T__law_is_point) (G__law_polynomial : Cal P w K mg base "_law_polynomial" 4 ["c", "n", "terms", "most"] T__law_polynomial) (G__law_zeros : Cal P w K mg base "_law_zeros" 1 ["many"] T__law_zeros) (G__law_unit : Cal P w K mg base "_law_unit" 1 ["many"] T__law_unit) (G__law_by : Cal P w K mg base "_law_by" 4 ["a", "b"] T__law_by) (G__law_with : Cal P w K mg base "_law_with" 4 ["a", "b", "factor"] T__law_with) (G_at_point : Cal P w K mg base "at_point" 7 ["p", "point"] (T_at_point C)) {cdv : Value} {A : Around} {outer : List Env} {s : Shared} {H : Hp} {E : XK} (hr : Room 8 (A.deeper (envOfC "law" (defScope s_law) s.heap.objs.size f cdv))) (hgd : (A.deeper (envOfC "law" (defScope s_law) s.heap.objs.size f cdv)).guards = some [])
    (tk : Takes (cxOf (L2.CX P w) P w K mg base ["script", "c", "point", "turn", "n", "many", "bent", "p", "due", "key", "factor", "made", "k", "again"] "law" (defScope s_law) f cdv A outer s H E) (WE0 E)) (hp : PassesOwn (model P w) (A.deeper (envOfC "law" (defScope s_law) s.heap.objs.size f cdv)) (cxOf (L2.CX P w) P w K mg base ["script", "c", "point", "turn", "n", "many", "bent", "p", "due", "key", "factor", "made", "k", "again"] "law" (defScope s_law) f cdv A outer s H E).env (cxOf (L2.CX P w) P w K mg base ["script", "c", "point", "turn", "n", "many", "bent", "p", "due", "key", "factor", "made", "k", "again"] "law" (defScope s_law) f cdv A outer s H E).xe) : DSs (cxOf (L2.CX P w) P w K mg base ["script", "c", "point", "turn", "n", "many", "bent", "p", "due", "key", "factor", "made", "k", "again"] "law" (defScope s_law) f cdv A outer s H E) (WE0 E) ((defBody s_law).drop 1) (b_law C) :=
    (dss_cons (ds_par (i := 4) (j := 5) rfl sc_law.nd (da_cons (d_bin o_add d_int (d_cal G__law_take hr (by decide) tk (by rfl) (da_cons (dv 1) (da_cons d_int da_nil)))) (da_cons (d_bin o_add d_int (d_cal G__law_take hr (by decide) tk (by rfl) (da_cons (dv 1) (da_cons d_int da_nil)))) da_nil)))
    (dss_cons (ds_set (i := 2) sc_law.nd (d_cal G__law_commuting hr (by decide) tk (by rfl) (da_cons (dv 1) (da_cons (dv 4) (da_cons (dv 5) da_nil)))))
    (dss_cons (ds_if (dt_cmp (o_ne (un64 hr)) (d_callB (c_repr hgd (un64 hr)) (by rfl) B.repr bt_repr (da_cons (d_cal G_is_point hr (by decide) tk (by rfl) (da_cons (dv 2) (da_cons (dv 4) da_nil))) da_nil)) d_str (nomark _)) (dss_one (ds_ret d_bl)) dss_nil)
    (dss_cons (ds_for (vs := [3]) hp rfl (di_rng1 (by rfl) B.range (da_cons d_int da_nil)) (dg_name (i := 3) sc_law.nd) (dss_cons (ds_set (i := 6) sc_law.nd (d_cal G__law_bent hr (by decide) tk (by rfl) (da_cons (dv 1) (da_cons (dv 2) da_nil))))
    (dss_cons (ds_if (dt_cmp (o_ne (un64 hr)) (d_callB (c_repr hgd (un64 hr)) (by rfl) B.repr bt_repr (da_cons (d_cal G_is_point hr (by decide) tk (by rfl) (da_cons (dv 6) (da_cons (dv 4) da_nil))) da_nil)) (d_callB (c_repr hgd (un64 hr)) (by rfl) B.repr bt_repr (da_cons (d_cal G__law_is_point hr (by decide) tk (by rfl) (da_cons (dv 6) (da_cons (dv 4) da_nil))) da_nil)) (nomark _)) (dss_one (ds_ret d_bl)) dss_nil)
    (dss_cons (ds_set (i := 7) sc_law.nd (d_cal G__law_polynomial hr (by decide) tk (by rfl) (da_cons (dv 1) (da_cons (dv 4) (da_cons d_int (da_cons d_int da_nil))))))
    (dss_cons (ds_set (i := 8) sc_law.nd (d_cal G__law_zeros hr (by decide) tk (by rfl) (da_cons (dv 5) da_nil)))
    (dss_cons (ds_for (vs := [9, 10]) hp rfl (di_tup (dv 7)) (dg_tup (n := 2) rfl (dgs_cons (dg_name (i := 9) sc_law.nd) (dgs_cons (dg_name (i := 10) sc_law.nd) dgs_nil))) (dss_cons (ds_set (i := 11) sc_law.nd (d_cal G__law_unit hr (by decide) tk (by rfl) (da_cons (dv 5) da_nil)))
    (dss_cons (ds_for (vs := [12]) hp rfl (di_rng1 (by rfl) B.range (da_cons (dv 4) da_nil)) (dg_name (i := 12) sc_law.nd) (dss_one (ds_for (vs := [13]) hp rfl (di_rng1 (by rfl) B.range (da_cons (d_ix (dv 9) (dv 12)) da_nil)) (dg_name (i := 13) sc_law.nd) (dss_one (ds_set (i := 11) sc_law.nd (d_cal G__law_by hr (by decide) tk (by rfl) (da_cons (dv 11) (da_cons (d_ix (dv 2) (dv 12)) da_nil))))))))
    (dss_one (ds_set (i := 8) sc_law.nd (d_cal G__law_with hr (by decide) tk (by rfl) (da_cons (dv 8) (da_cons (dv 11) (da_cons (dv 10) da_nil)))))))))
    (dss_one (ds_if (dt_cmp (o_ne (un64 hr)) (d_callB (c_repr hgd (un64 hr)) (by rfl) B.repr bt_repr (da_cons (d_cal G_at_point hr (by decide) tk (by rfl) (da_cons (dv 7) (da_cons (dv 2) da_nil))) da_nil)) (d_callB (c_repr hgd (un64 hr)) (by rfl) B.repr bt_repr (da_cons (dv 8) da_nil)) (nomark _)) (dss_one (ds_ret d_bl)) dss_nil))))))))
    (dss_one (ds_ret d_bl))))))
end
end DV
/-! L41a: _law_start, the law's head. -/
namespace DV
open PySem PySem.Spec PyProof.Rows L2
abbrev s_start : Stmt := topS 20
theorem sc_start : FnScope ["script", "cell"] ["script"] (defScope s_start) := ⟨rfl, rfl, rfl, by decide +kernel, rfl, by decide +kernel, by decide +kernel⟩
/-- the law's own state: two new lists -/
def spStart (K : PySem.W.Frag) : Sp := fun vs H Q _ => ∃ (a : Addr) (ns : List Int), vs = [.ref a] ∧ SqL K H a (ns.map V.int) ∧ ns.length ≤ 63 ∧
  ∀ H' p0 p1, p0 ≠ p1 → Same H H' → H' p0 = some (.lst (ns.map V.int)) → H' p1 = some (.lst [.ref p0, .int 0, .int 0, .int 0, .int 20]) → Q (.ref p1) H'
theorem ok_start {P : Program} {w : World} {K : PySem.W.Frag} {mg : Str → Option Value} {base : Heap} {f : Addr} {fd : FuncData} (F : Fun K "_law_start" "_law_start" s_start f fd) (B : Bt mg) : FnOk P w K mg base (L2.CX P w) 1 f fd ["script"] (spStart K) := by
  refine F.okX sc_start (fun vs H Q E h => ?_) (fun cdv A outer s H vs Q E hr h => ?_)
  · obtain ⟨a, ns, rfl, _⟩ := h
    rfl
  · obtain ⟨a, ns, rfl, hS, hl, k⟩ := h
    refine ⟨_, pss_one (ps_ret (pe_lst (pa_cons (pe_lc (own := [("cell", 1)]) (g := gName 1) (tt := tYes) rfl sc_start.nd (pi_list (pe_slice sl_list (pv 0) po_none (po_some pe_int))) (blkOk_by (N := ["script", "cell"]) (sc := defScope s_start) (own := [("cell", 1)]) (by decide +kernel))
      (fun _ _ _ _ _ => pg_name (i := 1) sc_start.nd rfl (.inl rfl)) (fun _ _ _ _ _ => pts_nil) (fun _ _ _ _ _ => pe_callTy call_int1 (by rfl) B.int bt_int (pa_cons (pv 1) pa_nil)))
      (pa_cons pe_int (pa_cons pe_int (pa_cons pe_int (pa_cons pe_int pa_nil))))))), ?_⟩
    -- script[:63]
    refine ⟨.ref a, rfl, 63, rfl, a, ns.map V.int, rfl, hS, fun c nc => ⟨c, rfl, ⟨_, .inl (.inl upd_same)⟩, fun D nD => ?_⟩⟩
    have hcut : cutV (ns.map V.int) none (some 63) = ns.map V.int := by
      unfold cutV
      rw [HT.sIx_none, show HT.sIx (ns.map V.int).length (ns.map V.int).length (some 63) = min 63 (ns.map V.int).length from HT.sIx_nat _ _ 63, List.drop_zero]
      rw [List.length_map, Nat.min_eq_right hl]
      exact List.take_of_length_le (by rw [List.length_map]; omega)
    rw [hcut] at nD ⊢
    have ncD : c ≠ D := fun e => by rw [e, upd_same] at nD; cases nD
    have nHD : H D = none := by rw [upd_ne ncD.symm] at nD; exact nD
    refine lc_list (xs := ns.map V.int) (fun i H' => Same H H' ∧ H' c = some (.lst (ns.map V.int)) ∧ H' D = some (.lst ((ns.map V.int).take i))) ⟨fun b o e => ?_, ?_, ?_⟩ (fun i H' _ h => .inl (.inl h.2.1)) (fun i x H' hi hP => ?_) (fun H' hP => ?_)
    · rw [upd_ne (ne_of_none e nHD), upd_ne (ne_of_none e nc)]; exact e
    · rw [upd_ne ncD, upd_same]
    · rw [upd_same]; rfl
    · obtain ⟨h1, h2, h3⟩ := hP
      obtain ⟨n, rfl⟩ : ∃ n, x = V.int n := by
        rw [List.getElem?_map] at hi
        cases hn : ns[i]? with
        | none => rw [hn] at hi; cases hi
        | some n => rw [hn] at hi; exact ⟨n, (Option.some.inj hi).symm⟩
      refine ⟨rfl, .int n, rfl, .inl ⟨n, rfl, _, h3, ?_, fun b o e => ?_, ?_, ?_⟩⟩
      · rw [List.length_take, List.length_map]; exact Nat.lt_of_le_of_lt (Nat.min_le_right _ _) (Nat.lt_of_le_of_lt hl (by decide))
      · rw [upd_ne (ne_of_none e nHD)]; exact h1 b o e
      · rw [upd_ne ncD]; exact h2
      · rw [upd_same, List.take_add_one, hi]; rfl
    · obtain ⟨h1, h2, h3⟩ := hP
      rw [List.take_of_length_le (Nat.le_refl _)] at h3
      refine ⟨(show 5 ≤ sizeLine by decide), fun p np => ?_⟩
      have npD : D ≠ p := ne_of_none h3 np
      refine k _ D p npD (fun b o e => ?_) (by rw [upd_ne npD]; exact h3) upd_same
      rw [upd_ne (ne_of_none (h1 b o e) np)]; exact h1 b o e
theorem RVs_ints {K : PySem.W.Frag} {r : List Addr} {H : Hp} : ∀ ns : List Int, RVs K r H (ns.map D.int) (ns.map V.int)
  | [] => .nil
  | n :: ns => .cons (.int n) (RVs_ints ns)
theorem state_two {K : PySem.W.Frag} {H : Hp} {p0 p1 : Addr} {ns : List Int} {t : L2.St} {n : Nat} (ne : p0 ≠ p1) (h0 : H p0 = some (.lst (ns.map V.int))) (h1 : H p1 = some (.lst [.ref p0, .int 0, .int 0, .int 0, .int 20])) (hl : t.length = n + 2) (ht : t[1]? = some (some (.ref p1))) :
    RA K [p0, p1] H t (none :: some (.loc 1) :: List.replicate n none) [.lst (ns.map .int), .lst [.loc 0, .int 0, .int 0, .int 0, .int 20]] := by
  refine ⟨⟨rfl, by simp [ne], fun k u e => ?_⟩, by simp [hl], fun i d e => ?_⟩
  · match k, e with
    | 0, e => cases e; exact ⟨p0, rfl, _, h0, RVs_ints ns⟩
    | 1, e => cases e; exact ⟨p1, rfl, _, h1, .cons (.loc rfl) (.cons (.int 0) (.cons (.int 0) (.cons (.int 0) (.cons (.int 20) .nil))))⟩
    | k + 2, e => simp at e
  · match i, e with
    | 0, e => cases e
    | 1, e => cases e; exact ⟨_, ht, .loc rfl⟩
    | k + 2, e =>
      simp only [List.getElem?_cons_succ, List.getElem?_replicate] at e
      split at e <;> cases e
end DV
/-! P1: ratios, plain. -/
namespace DV
open PySem L2
/-- a fraction as the program has it -/
def frD (x : Rat) : D := .tup [.int x.num, .int (x.den : Int)]
def fr? (d : D) (x : Rat) : Prop := d.seq? = some [.int x.num, .int (x.den : Int)]
theorem fr_frD (x : Rat) : fr? (frD x) x := rfl
theorem gcd_loop (S : Sto) : ∀ (k a b : Nat), b < k →
    whileD (tBin (oBn cEq) (eVar 1) (eC (.int 0))) (sPar 0 1 (aCons (eVar 1) (aCons (eBin oMod (eVar 0) (eVar 1)) aNil))) k [some (.int a), some (.int b)] S = .nx [some (.int (Nat.gcd a b : Nat)), some (.int 0)] S
  | 0, a, b, h => by omega
  | k + 1, a, b, h => by
    unfold whileD
    by_cases hb : b = 0
    · subst hb; simp
    · have h2 : 0 < b := by omega
      have e : ((a : Int) % (b : Int)) = ((a % b : Nat) : Int) := by simp
      have ih := gcd_loop S k b (a % b) (by have := Nat.mod_lt a (show b > 0 by omega); omega)
      simp [hb, h2]
      rw [show (↑a % ↑b : Int) = ((a % b : Nat) : Int) by simp, ih, Nat.gcd_comm a b, Nat.gcd_rec b a, Nat.gcd_comm]
theorem T_common_divisor_ok (a b : Int) (S : Sto) : T_common_divisor [.int a, .int b] S = .ok (.int (Int.gcd a b : Nat)) S := by
  have h := gcd_loop S (b.natAbs + 2) a.natAbs b.natAbs (by omega)
  have e1 : ∀ i : Int, (if i < 0 then -i else i) = (i.natAbs : Int) := fun i => by split <;> omega
  simp [T_common_divisor, b_common_divisor, fuI, e1, h, Int.gcd]
theorem lg {n k : Nat} (h : n < 2 ^ (k + 1)) : n.log2 ≤ k := by
  by_cases h0 : n = 0
  · subst h0; simp
  · have := (Nat.log2_lt h0).mpr h; omega
/-- n / m in lowest terms -/
theorem T_ratio_ok (n : Int) (m : Nat) (S : Sto) (hm : 0 < m) (hb : m < 2 ^ 9000) : T_ratio [.int n, .int m] S = .ok (frD (mkRat n m)) S := by
  have hg : 0 < Int.gcd n m := Int.gcd_pos_of_ne_zero_right _ (by omega)
  have hle : Int.gcd n m ≤ m := Nat.le_of_dvd hm (by simpa using Int.gcd_dvd_natAbs_right n m)
  have hl : (Int.gcd n m).log2 < 9000 := Nat.lt_of_le_of_lt (lg (k := 8999) (by omega)) (by decide)
  have e1 : (mkRat n m).num = n / (Int.gcd n m : Int) := by rw [Rat.num_mkRat, if_neg (by omega)]; simp [Int.gcd, Nat.gcd_comm]
  have e2 : ((mkRat n m).den : Int) = (m : Int) / (Int.gcd n m : Int) := by rw [Rat.den_mkRat, if_neg (by omega)]; simp [Int.gcd, Nat.gcd_comm]
  by_cases h1 : m = 1
  · subst h1
    have hg1 : Int.gcd n 1 = 1 := by simp
    simp at e1 e2
    simp [T_ratio, b_ratio, frD, e1, e2]
  · have h1' : ¬ ((m : Int) = 1) := by omega
    have h2' : ¬ ((m : Int) < 0) := by omega
    simp [T_ratio, b_ratio, frD, h1, h1', h2', T_common_divisor_ok, e1, e2, hg, hl]
/-- small enough for all that is done here -/
def Sm (x : Rat) : Prop := x.num.natAbs < 2 ^ 400 ∧ x.den < 2 ^ 400
theorem mul_lt_pow {a b i j : Nat} (ha : a < 2 ^ i) (hb : b < 2 ^ j) : a * b < 2 ^ (i + j) := by
  rw [Nat.pow_add]
  exact Nat.mul_lt_mul_of_lt_of_lt ha hb
theorem fr_ix0 {d : D} {x : Rat} {S : Sto} (h : fr? d x) : ixD d (.int 0) S = some (.int x.num) := by rw [ix_seq h]; rfl
theorem fr_ix1 {d : D} {x : Rat} {S : Sto} (h : fr? d x) : ixD d (.int 1) S = some (.int x.den) := by rw [ix_seq h]; rfl
theorem T_plus_ok {d e : D} {x y : Rat} (S : Sto) (hd : fr? d x) (he : fr? e y) (hx : Sm x) (hy : Sm y) : T_plus [d, e] S = .ok (frD (x + y)) S := by
  obtain ⟨x1, x2⟩ := hx
  obtain ⟨y1, y2⟩ := hy
  have a1 := lg (k := 399) x1
  have a2 := lg (k := 399) x2
  have a3 := lg (k := 399) y1
  have a4 := lg (k := 399) y2
  have b1 : x.num.natAbs.log2 + y.den.log2 < 1000000 := by omega
  have b2 : y.num.natAbs.log2 + x.den.log2 < 1000000 := by omega
  have b3 : x.den.log2 + y.den.log2 < 1000000 := by omega
  have hr := T_ratio_ok (x.num * y.den + y.num * x.den) (x.den * y.den) S (Nat.mul_pos x.den_pos y.den_pos) (Nat.lt_of_lt_of_le (mul_lt_pow x2 y2) (Nat.pow_le_pow_right (by decide) (by decide)))
  rw [← Rat.add_def'] at hr
  simp only [Int.natCast_mul] at hr
  by_cases h1 : x.den = 1 ∧ y.den = 1
  · obtain ⟨h1, h2⟩ := h1
    have e1 : (x + y).num = x.num + y.num := by rw [Rat.add_def', h1, h2]; simp [Rat.num_mkRat]
    have e2 : (x + y).den = 1 := by rw [Rat.add_def', h1, h2]; simp [Rat.den_mkRat]
    simp [T_plus, b_plus, fr_ix0 hd, fr_ix1 hd, fr_ix0 he, fr_ix1 he, h1, h2, e1, e2, frD]
  · have key : (if (x.den : Int) = (y.den : Int) then (some (D.bl (decide ((y.den : Int) = 1)))) else some (D.bl false)) = some (D.bl false) := by
      by_cases h : (x.den : Int) = (y.den : Int)
      · rw [if_pos h, decide_eq_false (by omega)]
      · rw [if_neg h]
    by_cases h : x.den = y.den
    · have h2 : ¬ y.den = 1 := fun z => h1 ⟨by omega, z⟩
      rw [h] at b2 b3 hr
      have h3 : ¬ ((y.den : Int) = 1) := by omega
      simp [T_plus, b_plus, fr_ix0 hd, fr_ix1 hd, fr_ix0 he, fr_ix1 he, h, h2, h3, b1, b2, b3, hr]
    · have h' : ¬ ((x.den : Int) = (y.den : Int)) := by omega
      simp [T_plus, b_plus, fr_ix0 hd, fr_ix1 hd, fr_ix0 he, fr_ix1 he, h', h, b1, b2, b3, hr]
theorem T_times_ok {d e : D} {x y : Rat} (S : Sto) (hd : fr? d x) (he : fr? e y) (hx : Sm x) (hy : Sm y) : T_times [d, e] S = .ok (frD (x * y)) S := by
  obtain ⟨x1, x2⟩ := hx
  obtain ⟨y1, y2⟩ := hy
  have a1 := lg (k := 399) x1
  have a2 := lg (k := 399) x2
  have a3 := lg (k := 399) y1
  have a4 := lg (k := 399) y2
  have b1 : x.num.natAbs.log2 + y.num.natAbs.log2 < 1000000 := by omega
  have b3 : x.den.log2 + y.den.log2 < 1000000 := by omega
  have hr := T_ratio_ok (x.num * y.num) (x.den * y.den) S (Nat.mul_pos x.den_pos y.den_pos) (Nat.lt_of_lt_of_le (mul_lt_pow x2 y2) (Nat.pow_le_pow_right (by decide) (by decide)))
  rw [← Rat.mul_def'] at hr
  simp only [Int.natCast_mul] at hr
  simp [T_times, b_times, fr_ix0 hd, fr_ix1 hd, fr_ix0 he, fr_ix1 he, b1, b3, hr]
/-- the rule for a loop over items -/
theorem forD_rule {g : GvT} {f : EvS} (I : List D → AEnv → Sto → Prop) (step : ∀ d ds env S, I (d :: ds) env S → ∃ q env' S', g d env S = some q ∧ f q.1 q.2 = .nx env' S' ∧ I ds env' S') :
    ∀ ds env S, I ds env S → ∃ env' S', forD g f ds env S = .nx env' S' ∧ I [] env' S'
  | [], env, S, h => ⟨env, S, rfl, h⟩
  | d :: ds, env, S, h => by
    obtain ⟨q, e1, S1, h1, h2, h3⟩ := step d ds env S h
    obtain ⟨e2, S2, h4, h5⟩ := forD_rule I step ds e1 S1 h3
    exact ⟨e2, S2, by unfold forD; rw [h1]; simp only; rw [h2]; exact h4, h5⟩
abbrev ldStep : EvS := sSeq (sIf (tBin (oBl cEq) (eVar 1) (eC (.int 0))) (sRet (eCB gAbs (aCons (eVar 0) aNil))) sNil) (sPar 0 1 (aCons (eVar 1) (aCons (eBin oMod (eVar 0) (eVar 1)) aNil)))
theorem ld_end (a : Int) (t : D) (o : Option D) (ds : List D) (S : Sto) : forD (gN 2) ldStep (t :: ds) [some (.int a), some (.int (0 : Nat)), o] S = .ret (.int (a.natAbs : Int)) S := by
  have e1 : (if a < 0 then -a else a) = (a.natAbs : Int) := by split <;> omega
  simp [forD, e1]
theorem ld_next (a : Int) (b : Nat) (hb : b ≠ 0) (t : D) (o : Option D) (ds : List D) (S : Sto) : forD (gN 2) ldStep (t :: ds) [some (.int a), some (.int b), o] S = forD (gN 2) ldStep ds [some (.int b), some (.int ((a % b).toNat : Nat)), some t] S := by
  have h0 : ¬ ((b : Int) = 0) := by omega
  have h1 : 0 < b := by omega
  have h2 : (0 : Int) ≤ a % b := Int.emod_nonneg _ h0
  rw [show (((a % b).toNat : Nat) : Int) = a % b by omega]
  conv => lhs; unfold forD
  simp [hb, h1]
theorem ld_loop (S : Sto) : ∀ (j : Nat) (ds : List D) (a b : Nat) (o : Option D), b < 2 ^ j → 2 * j + 1 ≤ ds.length → forD (gN 2) ldStep ds [some (.int a), some (.int b), o] S = .ret (.int (Nat.gcd a b : Nat)) S
  | 0, t :: ds, a, b, o, hb, hl => by
    have : b = 0 := by simpa using hb
    subst this
    rw [ld_end]; simp
  | j + 1, [], a, b, o, hb, hl => by simp at hl
  | j + 1, [t], a, b, o, hb, hl => by simp at hl
  | j + 1, [t, t2], a, b, o, hb, hl => by simp at hl; omega
  | j + 1, t :: t2 :: t3 :: ds, a, b, o, hb, hl => by
    by_cases h0 : b = 0
    · subst h0; rw [ld_end]; simp
    · rw [ld_next _ _ h0]
      have e1 : ((a : Int) % (b : Int)).toNat = a % b := by rw [← Int.natCast_emod, Int.toNat_natCast]
      rw [e1]
      have hlt := Nat.mod_lt a (show b > 0 by omega)
      by_cases h1 : a % b = 0
      · rw [h1, ld_end, Nat.gcd_comm, Nat.gcd_rec, h1]; simp
      · rw [ld_next _ _ h1]
        have e2 : ((b : Int) % ((a % b : Nat) : Int)).toNat = b % (a % b) := by rw [← Int.natCast_emod, Int.toNat_natCast]
        rw [e2]
        have h2 : b % (a % b) < 2 ^ j := by
          have h3 := Nat.mod_lt b (show a % b > 0 by omega)
          have h4 : b % (a % b) ≤ b - a % b := by
            have h5 := Nat.div_add_mod b (a % b)
            have h6 : 1 ≤ b / (a % b) := (Nat.one_le_div_iff (by omega)).mpr (by omega)
            have h7 := Nat.mul_le_mul_left (a % b) h6
            omega
          have h8 : 2 ^ (j + 1) = 2 * 2 ^ j := by rw [Nat.pow_succ]; omega
          omega
        rw [ld_loop S j (t3 :: ds) (a % b) (b % (a % b)) _ h2 (by simp at hl ⊢; omega)]
        rw [Nat.gcd_comm a b, Nat.gcd_rec b a, Nat.gcd_comm (a % b) b, Nat.gcd_comm (a % b) (b % (a % b)), ← Nat.gcd_rec]
        rw [Nat.gcd_comm]
theorem rng_len (lo : Int) (n : Nat) : (rngD lo n).length = n := by simp [rngD]
theorem T_law_divisor_ok (a : Int) (b : Nat) (S : Sto) (hb : b < 2 ^ 1500) : T__law_divisor [.int a, .int b] S = .ok (.int (Int.gcd a b : Nat)) S := by
  have key : ∀ o, forD (gN 2) ldStep (rngD 0 4000) [some (.int a), some (.int b), o] S = .ret (.int (Int.gcd a b : Nat)) S := by
    intro o
    have hl := rng_len 0 4000
    generalize rngD 0 4000 = L at hl
    cases L with
    | nil => simp at hl
    | cons t L =>
      by_cases h0 : b = 0
      · subst h0; rw [ld_end]; simp [Int.gcd]
      · rw [ld_next _ _ h0]
        have h2 : (0 : Int) ≤ a % b := Int.emod_nonneg _ (by omega)
        have h3 : (a % b : Int) < b := Int.emod_lt_of_pos _ (by omega)
        rw [ld_loop S 1500 L b _ _ (by omega) (by simp at hl; omega)]
        have e : Nat.gcd b (a % b).toNat = Int.gcd a b := by
          have h4 : Int.gcd (b * (a / b) + a % b) b = Int.gcd (a % b) b := by rw [Int.add_comm]; exact Int.gcd_add_mul_left_left b (a % b) (a / b)
          rw [Int.mul_ediv_add_emod] at h4
          rw [h4]
          show _ = Nat.gcd (a % (b : Int)).natAbs b
          rw [Nat.gcd_comm, show (a % (b : Int)).natAbs = (a % b).toNat by omega]
        rw [e]
  have hb : rngB 4000 = true := rfl
  simp [T__law_divisor, b__law_divisor, hb]
  rw [key]
theorem T_law_ratio_ok (n : Int) (m : Nat) (S : Sto) (hm : 0 < m) (hb : m < 2 ^ 1500) : T__law_ratio [.int n, .int m] S = .ok (frD (mkRat n m)) S := by
  have hg : 0 < Int.gcd n m := Int.gcd_pos_of_ne_zero_right _ (by omega)
  have hle : Int.gcd n m ≤ m := Nat.le_of_dvd hm (by simpa using Int.gcd_dvd_natAbs_right n m)
  have hl : (Int.gcd n m).log2 < 9000 := Nat.lt_of_le_of_lt (lg (k := 1499) (by omega)) (by decide)
  have e1 : (mkRat n m).num = n / (Int.gcd n m : Int) := by rw [Rat.num_mkRat, if_neg (by omega)]; simp [Int.gcd, Nat.gcd_comm]
  have e2 : ((mkRat n m).den : Int) = (m : Int) / (Int.gcd n m : Int) := by rw [Rat.den_mkRat, if_neg (by omega)]; simp [Int.gcd, Nat.gcd_comm]
  simp [T__law_ratio, b__law_ratio, frD, T_law_divisor_ok _ _ _ hb, hm, e1, e2, hg, hl]
theorem T_law_plus_ok {d e : D} {x y : Rat} (S : Sto) (hd : fr? d x) (he : fr? e y) (hx : Sm x) (hy : Sm y) : T__law_plus [d, e] S = .ok (frD (x + y)) S := by
  obtain ⟨x1, x2⟩ := hx
  obtain ⟨y1, y2⟩ := hy
  have a1 := lg (k := 399) x1
  have a2 := lg (k := 399) x2
  have a3 := lg (k := 399) y1
  have a4 := lg (k := 399) y2
  have b1 : x.num.natAbs.log2 + y.den.log2 < 1000000 := by omega
  have b2 : y.num.natAbs.log2 + x.den.log2 < 1000000 := by omega
  have b3 : x.den.log2 + y.den.log2 < 1000000 := by omega
  have hr := T_law_ratio_ok (x.num * y.den + y.num * x.den) (x.den * y.den) S (Nat.mul_pos x.den_pos y.den_pos) (Nat.lt_of_lt_of_le (mul_lt_pow x2 y2) (Nat.pow_le_pow_right (by decide) (by decide)))
  rw [← Rat.add_def'] at hr
  simp only [Int.natCast_mul] at hr
  simp [T__law_plus, b__law_plus, fr_ix0 hd, fr_ix1 hd, fr_ix0 he, fr_ix1 he, b1, b2, b3, hr]
theorem T_law_times_ok {d e : D} {x y : Rat} (S : Sto) (hd : fr? d x) (he : fr? e y) (hx : Sm x) (hy : Sm y) : T__law_times [d, e] S = .ok (frD (x * y)) S := by
  obtain ⟨x1, x2⟩ := hx
  obtain ⟨y1, y2⟩ := hy
  have a1 := lg (k := 399) x1
  have a2 := lg (k := 399) x2
  have a3 := lg (k := 399) y1
  have a4 := lg (k := 399) y2
  have b1 : x.num.natAbs.log2 + y.num.natAbs.log2 < 1000000 := by omega
  have b3 : x.den.log2 + y.den.log2 < 1000000 := by omega
  have hr := T_law_ratio_ok (x.num * y.num) (x.den * y.den) S (Nat.mul_pos x.den_pos y.den_pos) (Nat.lt_of_lt_of_le (mul_lt_pow x2 y2) (Nat.pow_le_pow_right (by decide) (by decide)))
  rw [← Rat.mul_def'] at hr
  simp only [Int.natCast_mul] at hr
  simp [T__law_times, b__law_times, fr_ix0 hd, fr_ix1 hd, fr_ix0 he, fr_ix1 he, b1, b3, hr]
end DV
/-! P2: tables and what is told of them. -/
namespace DV
open PySem L2
abbrev Mon := List Int
abbrev Tb := List (Mon × Rat)
def kI (m : Mon) : List Key := m.map Sum.inl
def mD (m : Mon) : D := .tup (m.map .int)
def tmD (a : Mon × Rat) : D := .tup [mD a.1, frD a.2]
def polyL (L : Tb) : List D := L.map tmD
def encT (T : Tb) : List (List Key × D) := T.map fun a => (kI a.1, frD a.2)
theorem kI_inj : ∀ {a b : Mon}, kI a = kI b → a = b
  | [], [], _ => rfl
  | [], b :: bs, h => by simp [kI] at h
  | a :: as, [], h => by simp [kI] at h
  | a :: as, b :: bs, h => by
    simp only [kI, List.map_cons, List.cons.injEq, Sum.inl.injEq] at h
    rw [h.1, kI_inj (a := as) (b := bs) h.2]
theorem kI_eq {a b : Mon} : kI a = kI b ↔ a = b := ⟨kI_inj, fun h => by rw [h]⟩
def lk (T : Tb) (m : Mon) : Option Rat := (T.find? fun a => decide (a.1 = m)).map (·.2)
def cf (T : Tb) (m : Mon) : Rat := (lk T m).getD 0
def pt (T : Tb) (m : Mon) (x : Rat) : Tb := if (T.any fun a => decide (a.1 = m)) = true then T.map fun a => if a.1 = m then (a.1, x) else a else T ++ [(m, x)]
def dp (T : Tb) (m : Mon) : Tb := T.filter fun a => decide (a.1 ≠ m)
def keys (T : Tb) : List Mon := T.map (·.1)
@[simp] theorem keyT_mD (m : Mon) : keyT? (mD m) = some (kI m) := by simp [mD, keyT?, kI]
theorem look_enc (T : Tb) (m : Mon) : lookD (encT T) (kI m) = (lk T m).map frD := by
  unfold lookD lk encT
  rw [List.find?_map]
  have : ((fun kv : List Key × D => decide (kv.1 = kI m)) ∘ fun a : Mon × Rat => (kI a.1, frD a.2)) = fun a => decide (a.1 = m) := by
    funext a; simp [kI_eq]
  rw [this]
  cases T.find? fun a => decide (a.1 = m) <;> rfl
theorem put_enc (T : Tb) (m : Mon) (x : Rat) : putD (encT T) (kI m) (frD x) = encT (pt T m x) := by
  unfold putD pt encT
  have e : ((T.map fun a => (kI a.1, frD a.2)).any fun kv => decide (kv.1 = kI m)) = T.any fun a => decide (a.1 = m) := by
    rw [List.any_map]; congr 1; funext a; simp [kI_eq]
  rw [e]
  split
  · rw [List.map_map, List.map_map]
    congr 1; funext a
    by_cases h : a.1 = m <;> simp [kI_eq, h]
  · simp
theorem drop_enc (T : Tb) (m : Mon) : dropD (encT T) (kI m) = encT (dp T m) := by
  unfold dropD dp encT
  rw [List.filter_map]
  congr 2
  funext a; simp [kI_eq]
theorem cf_nil (m : Mon) : cf [] m = 0 := rfl
theorem cf_cons (a : Mon × Rat) (T : Tb) (m : Mon) : cf (a :: T) m = if a.1 = m then a.2 else cf T m := by
  unfold cf lk
  rw [List.find?_cons]
  by_cases h : a.1 = m <;> simp [h]
theorem cf_not {T : Tb} {m : Mon} (h : m ∉ keys T) : cf T m = 0 := by
  induction T with
  | nil => rfl
  | cons a T ih =>
    simp only [keys, List.map_cons, List.mem_cons, not_or] at h
    rw [cf_cons, if_neg (fun e => h.1 e.symm)]
    exact ih h.2
theorem cf_mem {T : Tb} (nd : (keys T).Nodup) {a : Mon × Rat} (h : a ∈ T) : cf T a.1 = a.2 := by
  induction T with
  | nil => cases h
  | cons b T ih =>
    simp only [keys, List.map_cons, List.nodup_cons] at nd
    rw [cf_cons]
    rcases List.mem_cons.mp h with rfl | h
    · rw [if_pos rfl]
    · rw [if_neg (fun e => nd.1 (by rw [e]; exact List.mem_map_of_mem h))]
      exact ih nd.2 h
theorem cf_append (T U : Tb) (m : Mon) : cf (T ++ U) m = if m ∈ keys T then cf T m else cf U m := by
  induction T with
  | nil => simp [keys]
  | cons a T ih =>
    rw [List.cons_append, cf_cons, cf_cons, ih]
    by_cases h : a.1 = m
    · simp [h, keys]
    · have : m ∈ keys (a :: T) ↔ m ∈ keys T := by
        unfold keys
        rw [List.map_cons, List.mem_cons]
        exact ⟨fun e => e.elim (fun e => absurd e.symm h) id, .inr⟩
      simp only [this, if_neg h]
theorem any_keys {T : Tb} {m : Mon} : (T.any fun a => decide (a.1 = m)) = true ↔ m ∈ keys T := by
  simp [keys]
theorem keys_pt (T : Tb) (m : Mon) (x : Rat) : keys (pt T m x) = if m ∈ keys T then keys T else keys T ++ [m] := by
  unfold pt
  by_cases h : m ∈ keys T
  · rw [if_pos (any_keys.mpr h), if_pos h]
    unfold keys
    rw [List.map_map]
    congr 1; funext a
    show (if a.1 = m then (a.1, x) else a).1 = a.1
    split <;> rfl
  · rw [if_neg (fun e => h (any_keys.mp e)), if_neg h]
    simp [keys]
theorem nd_pt {T : Tb} {m : Mon} {x : Rat} (nd : (keys T).Nodup) : (keys (pt T m x)).Nodup := by
  rw [keys_pt]
  split
  · exact nd
  · rename_i h
    rw [List.nodup_append]
    refine ⟨nd, by simp, ?_⟩
    intro a ha b hb
    simp at hb
    subst hb
    exact fun e => h (by rw [← e]; exact ha)
theorem nd_dp {T : Tb} {m : Mon} (nd : (keys T).Nodup) : (keys (dp T m)).Nodup := nd.sublist (List.Sublist.map _ List.filter_sublist)
theorem cf_pt (T : Tb) (m : Mon) (x : Rat) (k : Mon) : cf (pt T m x) k = if k = m then x else cf T k := by
  unfold pt
  by_cases h : m ∈ keys T
  · rw [if_pos (any_keys.mpr h)]
    induction T with
    | nil => simp [keys] at h
    | cons a T ih =>
      rw [List.map_cons, cf_cons, cf_cons]
      by_cases h1 : a.1 = m
      · rw [if_pos h1]
        by_cases hk : k = m
        · subst hk; simp [h1]
        · have : ¬ (a.1 = k) := fun e => hk (by rw [← e, h1])
          rw [if_neg this, if_neg hk, if_neg this]
          by_cases hm : m ∈ keys T
          · rw [ih hm, if_neg hk]
          · congr 1
            have : T.map (fun a => if a.1 = m then (a.1, x) else a) = T := by
              conv => rhs; rw [← List.map_id T]
              refine List.map_congr_left fun b hb => ?_
              rw [if_neg (fun e => hm (by rw [← e]; exact List.mem_map_of_mem hb))]; rfl
            rw [this]
      · have hm : m ∈ keys T := by
          simp only [keys, List.map_cons, List.mem_cons] at h
          rcases h with h | h
          · exact absurd h.symm h1
          · exact h
        rw [if_neg h1, ih hm]
        by_cases hk : k = m
        · subst hk; simp [h1]
        · simp [hk]
  · rw [if_neg (fun e => h (any_keys.mp e)), cf_append]
    by_cases hk : k = m
    · subst hk; rw [if_neg h, if_pos rfl, cf_cons, if_pos rfl]
    · rw [if_neg hk]
      have e0 : cf [(m, x)] k = 0 := by rw [cf_cons, if_neg (fun e => hk e.symm), cf_nil]
      rw [e0]
      split
      · rfl
      · rename_i h2; exact (cf_not h2).symm
theorem cf_dp (T : Tb) (m : Mon) (k : Mon) : cf (dp T m) k = if k = m then 0 else cf T k := by
  unfold dp
  induction T with
  | nil => simp [cf_nil]
  | cons a T ih =>
    by_cases h : a.1 = m
    · rw [List.filter_cons_of_neg (by simpa using h), ih, cf_cons]
      by_cases hk : k = m
      · simp [hk]
      · rw [if_neg hk, if_neg hk, if_neg (fun e => hk (by rw [← e, h]))]
    · rw [List.filter_cons_of_pos (by simpa using h), cf_cons, ih, cf_cons]
      by_cases hk : k = m
      · subst hk; simp [h]
      · simp [hk]
theorem len_pt (T : Tb) (m : Mon) (x : Rat) : (pt T m x).length ≤ T.length + 1 := by
  unfold pt; split <;> simp
theorem len_dp (T : Tb) (m : Mon) : (dp T m).length ≤ T.length := List.length_filter_le _ _
/-! ### the canonical form -/
structure Canon (L : Tb) : Prop where
  up : L.Pairwise fun a b => a.1 < b.1
  nz : ∀ a ∈ L, a.2 ≠ 0
theorem lex_tri : ∀ a b : Mon, a < b ∨ a = b ∨ b < a
  | [], [] => .inr (.inl rfl)
  | [], b :: bs => .inl (by simp)
  | a :: as, [] => .inr (.inr (by simp))
  | a :: as, b :: bs => by
    rw [List.cons_lt_cons_iff, List.cons_lt_cons_iff]
    rcases lex_tri as bs with h | h | h
    · by_cases e : a = b
      · exact .inl (.inr ⟨e, h⟩)
      · by_cases l : a < b
        · exact .inl (.inl l)
        · exact .inr (.inr (.inl (by omega)))
    · by_cases e : a = b
      · exact .inr (.inl (by rw [e, h]))
      · by_cases l : a < b
        · exact .inl (.inl l)
        · exact .inr (.inr (.inl (by omega)))
    · by_cases e : a = b
      · exact .inr (.inr (.inr ⟨e.symm, h⟩))
      · by_cases l : a < b
        · exact .inl (.inl l)
        · exact .inr (.inr (.inl (by omega)))
theorem lex_irr (a : Mon) : ¬ a < a := List.lt_irrefl a
theorem lex_asy {a b : Mon} (h : a < b) : ¬ b < a := fun h2 => List.lt_irrefl a (List.lt_trans h h2)
theorem Canon.nd {L : Tb} (h : Canon L) : (keys L).Nodup := by
  unfold keys List.Nodup
  rw [List.pairwise_map]
  refine h.up.imp fun {a b} (h : a.1 < b.1) => (?_ : a.1 ≠ b.1)
  exact fun e => lex_irr b.1 (by rw [e] at h; exact h)
theorem Canon.nd' {L : Tb} (h : Canon L) : L.Nodup := by
  refine h.up.imp fun {a b} (h : a.1 < b.1) => (?_ : a ≠ b)
  exact fun e => lex_irr b.1 (by rw [e] at h; exact h)
theorem Canon.mem {L : Tb} (h : Canon L) (a : Mon × Rat) : a ∈ L ↔ cf L a.1 = a.2 ∧ a.2 ≠ 0 := by
  refine ⟨fun m => ⟨cf_mem h.nd m, h.nz a m⟩, fun ⟨e, nz⟩ => ?_⟩
  by_cases k : a.1 ∈ keys L
  · obtain ⟨b, hb, e2⟩ := List.mem_map.mp k
    have : b = a := by
      have e3 := cf_mem h.nd hb
      rw [e2, e] at e3
      exact Prod.ext e2 e3.symm
    rw [← this]; exact hb
  · rw [cf_not k] at e; exact absurd e.symm nz
theorem canon_ext {L L' : Tb} (h : Canon L) (h' : Canon L') (e : ∀ m, cf L m = cf L' m) : L = L' := by
  have p : L.Perm L' := (List.perm_ext_iff_of_nodup h.nd' h'.nd').mpr fun a => by rw [h.mem, h'.mem, e]
  exact List.Perm.eq_of_pairwise (le := fun a b : Mon × Rat => a.1 < b.1) (fun a b _ _ h1 h2 => absurd h2 (lex_asy h1)) h.up h'.up p
end DV
/-! P3: told, _law_told. -/
namespace DV
open PySem L2
theorem compD_map {α : Type} {vs : List Nat} {g : GvT} {q : AEnv → Sto → Res Bool} {te : EvE} {env : AEnv} {S : Sto} (f : α → D) (b : α → Bool) (h : α → D) : ∀ (L : List α) (acc : List D),
    (∀ a ∈ L, ∃ env1, g (f a) (wipeA env vs) S = some (env1, S) ∧ q env1 S = .ok (b a) S ∧ (b a = true → te env1 S = .ok (h a) S)) → acc.length + L.length ≤ LN →
    compD vs g q te env (L.map f) acc S = .ok (acc ++ (L.filter b).map h) S
  | [], acc, _, _ => by simp [compD]
  | a :: L, acc, k, hl => by
    obtain ⟨env1, h1, h2, h3⟩ := k a List.mem_cons_self
    have ih := fun acc => compD_map f b h L acc fun x hx => k x (List.mem_cons_of_mem _ hx)
    rw [List.map_cons]
    unfold compD
    rw [h1]
    simp only [h2, Res.bind0]
    rw [List.length_cons] at hl
    have hLN : LN = 16777216 := rfl
    cases hb : b a with
    | false =>
      rw [if_neg Bool.false_ne_true, ih acc (by omega), List.filter_cons_of_neg (by simp [hb])]
    | true =>
      rw [if_pos rfl]
      simp only [h3 hb]
      rw [if_pos (by omega), ih (acc ++ [h a]) (by simp; omega), List.filter_cons_of_pos (by simp [hb])]
      simp
theorem pys_ints : ∀ m : List Int, pys (m.map D.int) = some (m.map PyData.int)
  | [] => rfl
  | i :: m => by simp [pys, D.py, pys_ints m]
theorem py_mD (m : Mon) : (mD m).py = some (.tuple (m.map .int)) := by simp [mD, D.py, pys_ints]
theorem py_frD (x : Rat) : (frD x).py = some (.tuple [.int x.num, .int x.den]) := by simp [frD, D.py, pys]
theorem py_tmD (a : Mon × Rat) : (tmD a).py = some (.tuple [.tuple (a.1.map .int), .tuple [.int a.2.num, .int a.2.den]]) := by simp [tmD, D.py, pys, py_mD, py_frD]
theorem enc_mD (m : Mon) : encD (mD m) = .tuple (m.map .int) := by simp [encD, py_mD]
theorem enc_tmD (a : Mon × Rat) : encD (tmD a) = .tuple [.tuple (a.1.map .int), .tuple [.int a.2.num, .int a.2.den]] := by simp [encD, py_tmD]
theorem depth_mon (m : Mon) : (PyData.tuple (m.map .int)).depth = 1 := by rw [PyData.depth, PySem.W.depth_ints]
theorem alike_mon (a b : Mon) : PySem.W.alike (.tuple (a.map .int)) (.tuple (b.map .int)) = true := by rw [PySem.W.alike]; exact PySem.W.alike_ints a b
theorem lt_mon (a b : Mon) : PySem.W.dataLt (.tuple (a.map .int)) (.tuple (b.map .int)) = decide (a < b) := PySem.W.dataLt_ints a b
theorem eqv_mon : ∀ a b : Mon, PyData.eqvAll (a.map .int) (b.map .int) = decide (a = b)
  | [], [] => by simp [PyData.eqvAll]
  | [], _ :: _ => by simp [PyData.eqvAll]
  | _ :: _, [] => by simp [PyData.eqvAll]
  | a :: as, b :: bs => by
    simp only [List.map_cons, PyData.eqvAll, PyData.eqv, eqv_mon as bs, List.cons.injEq]
    by_cases h1 : a = b <;> by_cases h2 : as = bs <;> simp [h1, h2]
theorem alike_tm (a b : Mon × Rat) : PySem.W.alike (encD (tmD a)) (encD (tmD b)) = true := by
  rw [enc_tmD, enc_tmD]
  simp [PySem.W.alike, PySem.W.alikeAll, PySem.W.alike_ints]
theorem sort_pairwise (ds : List D) : (ds.mergeSort (PySem.W.dataLe false encD)).Pairwise fun a b => PySem.W.dataLe false encD a b = true := by
  have t := PySem.W.sortLe_total (PyProof.Rows.listOrd PyProof.Rows.itemOrd) false fun b => PySem.W.keyToks (encD b)
  exact List.pairwise_mergeSort t.trans (fun a b => by rcases t.total a b with h | h <;> simp [PySem.W.dataLe, h]) ds
/-- a list of D's that come from things, sorted -/
theorem sort_map {α : Type} (f : α → D) (L : List α) : ∃ L' : List α, L'.Perm L ∧ (L.map f).mergeSort (PySem.W.dataLe false encD) = L'.map f ∧ L'.Pairwise fun a b => PySem.W.dataLe false encD (f a) (f b) = true := by
  refine ⟨L.mergeSort fun a b => PySem.W.dataLe false encD (f a) (f b), List.mergeSort_perm _ _, (List.map_mergeSort (f := f) (r := fun a b => PySem.W.dataLe false encD (f a) (f b)) (s := PySem.W.dataLe false encD) (fun a _ b _ => rfl)).symm, ?_⟩
  have h := sort_pairwise (L.map f)
  rw [← List.map_mergeSort (r := fun a b => PySem.W.dataLe false encD (f a) (f b)) (fun a _ b _ => rfl), List.pairwise_map] at h
  exact h
theorem lk_mem {T : Tb} (nd : (keys T).Nodup) {a : Mon × Rat} (h : a ∈ T) : lk T a.1 = some a.2 := by
  induction T with
  | nil => cases h
  | cons b T ih =>
    simp only [keys, List.map_cons, List.nodup_cons] at nd
    unfold lk
    rw [List.find?_cons]
    rcases List.mem_cons.mp h with rfl | h
    · simp
    · have : ¬ b.1 = a.1 := fun e => nd.1 (by rw [e]; exact List.mem_map_of_mem h)
      simp only [this, decide_false]
      exact ih nd.2 h
def isT (S : Sto) (n : Nat) (T : Tb) : Prop := S[n]? = some (.dT (encT T)) ∨ S[n]? = some (.rT (encT T))
theorem get_T {S : Sto} {n : Nat} {T : Tb} (h : isT S n T) (m : Mon) : dGetD (.loc n) (mD m) S = some ((lk T m).map frD) := by
  rcases h with h | h <;> simp [dGetD, h, look_enc]
@[simp] theorem ix_fr0 (x : Rat) (S : Sto) : ixD (frD x) (.int 0) S = some (.int x.num) := fr_ix0 (fr_frD x)
@[simp] theorem ix_fr1 (x : Rat) (S : Sto) : ixD (frD x) (.int 1) S = some (.int x.den) := fr_ix1 (fr_frD x)
def nz (a : Mon × Rat) : Bool := decide (a.2 ≠ 0)
/-- each key of a table: the pair, if it is not 0 -/
theorem told_step {S : Sto} {n : Nat} {T : Tb} (h : isT S n T) (nd : (keys T).Nodup) {a : Mon × Rat} (ha : a ∈ T) :
    (tBin (oBn cEq) (eIx (eGet (eVar 0) (eVar 1)) (eC (.int 0))) (eC (.int 0)) [some (.loc n), some (mD a.1)] S = .ok (nz a) S) ∧
      (eTup (aCons (eVar 1) (aCons (eGet (eVar 0) (eVar 1)) aNil)) [some (.loc n), some (mD a.1)] S = .ok (tmD a) S) := by
  have e := get_T h a.1
  rw [lk_mem nd ha] at e
  constructor
  · simp [e, nz, Rat.num_eq_zero]
  · simp [e, tmD]
theorem keysD_enc (T : Tb) : keysD (encT T) = T.map fun a => mD a.1 := by
  unfold keysD encT mD kI
  rw [List.map_map]
  congr 1; funext a
  simp [kD, Function.comp_def]
theorem sortOk_keys {T : Tb} (hk : ∀ a ∈ T, a.1 ≠ []) (hl : T.length ≤ LN) : SortOk (T.map fun a => mD a.1) := by
  refine ⟨fun d hd => ?_, ?_, ?_, by rw [List.length_map]; exact hl⟩
  · obtain ⟨a, _, rfl⟩ := List.mem_map.mp hd
    exact ⟨_, py_mD _, by rw [depth_mon]; omega⟩
  · rw [List.map_map]
    exact PySem.W.AllAlike.of fun a b => by simp only [Function.comp, enc_mD]; exact alike_mon _ _
  · refine .inl fun d hd => ?_
    rw [List.map_map] at hd
    obtain ⟨a, ha, rfl⟩ := List.mem_map.mp hd
    simp only [Function.comp, enc_mD]
    cases hm : a.1 with
    | nil => exact absurd hm (hk a ha)
    | cons x r => exact ⟨_, _, rfl⟩
theorem sortOk_tm {T : Tb} (hl : T.length ≤ LN) : SortOk (T.map tmD) := by
  refine ⟨fun d hd => ?_, ?_, ?_, by rw [List.length_map]; exact hl⟩
  · obtain ⟨a, _, rfl⟩ := List.mem_map.mp hd
    refine ⟨_, py_tmD _, ?_⟩
    simp [PyData.depth, PyData.depthAll, PySem.W.depth_ints]
  · rw [List.map_map]
    exact PySem.W.AllAlike.of fun a b => alike_tm a b
  · refine .inl fun d hd => ?_
    rw [List.map_map] at hd
    obtain ⟨a, ha, rfl⟩ := List.mem_map.mp hd
    exact ⟨_, _, enc_tmD a⟩
/-- what told makes of a table -/
structure ToldOf (T L : Tb) : Prop where
  cn : Canon L
  cf : ∀ m, cf L m = cf T m
  sub : ∀ a ∈ L, a ∈ T
  len : L.length ≤ T.length
theorem told_of {T L : Tb} (nd : (keys T).Nodup) (p : L.Perm (T.filter nz)) (up : L.Pairwise fun a b => a.1 < b.1) : ToldOf T L := by
  have hs : ∀ a, a ∈ L ↔ a ∈ T ∧ a.2 ≠ 0 := fun a => by rw [p.mem_iff, List.mem_filter]; simp [nz]
  have cn : Canon L := ⟨up, fun a ha => ((hs a).mp ha).2⟩
  refine ⟨cn, fun m => ?_, fun a ha => ((hs a).mp ha).1, by rw [p.length_eq]; exact List.length_filter_le _ _⟩
  by_cases h : m ∈ keys L
  · obtain ⟨a, ha, rfl⟩ := List.mem_map.mp h
    rw [cf_mem cn.nd ha, cf_mem nd ((hs a).mp ha).1]
  · rw [cf_not h]
    by_cases h2 : m ∈ keys T
    · obtain ⟨a, ha, rfl⟩ := List.mem_map.mp h2
      rw [cf_mem nd ha]
      apply Classical.byContradiction
      intro z
      exact h (List.mem_map_of_mem ((hs a).mpr ⟨ha, fun e => z e.symm⟩))
    · rw [cf_not h2]
theorem T_law_told_ok {S : Sto} {n : Nat} {T : Tb} (h : S[n]? = some (.dT (encT T))) (nd : (keys T).Nodup) (hl : T.length ≤ LN) : ∃ L, T__law_told [.loc n] S = .ok (.fup (polyL L)) S ∧ ToldOf T L := by
  have hn : n < S.length := (List.getElem?_eq_some_iff.mp h).1
  obtain ⟨L', p, e, up⟩ := sort_map tmD (T.filter nz)
  have h1 : rTof S n = some (S.set n (.rT (encT T))) := by simp [rTof, h]
  have hS1 : (S.set n (.rT (encT T)))[n]? = some (.rT (encT T)) := by rw [List.getElem?_set_self hn]
  have h2 : unT (S.set n (.rT (encT T))) n = some S := by
    unfold unT
    rw [hS1]
    simp only [List.set_set]
    congr 1
    exact List.ext_getElem? fun i => by
      by_cases hi : n = i
      · subst hi; rw [List.getElem?_set_self hn, h]
      · rw [List.getElem?_set_ne hi]
  have ec := compD_map (vs := [1]) (g := gN 1) (q := tBin (oBn cEq) (eIx (eGet (eVar 0) (eVar 1)) (eC (.int 0))) (eC (.int 0))) (te := eTup (aCons (eVar 1) (aCons (eGet (eVar 0) (eVar 1)) aNil))) (env := [some (.loc n), none]) (S := S.set n (.rT (encT T)))
    (fun a : Mon × Rat => mD a.1) nz tmD T [] (fun a ha => ⟨[some (.loc n), some (mD a.1)], rfl, (told_step (.inr hS1) nd ha).1, fun _ => (told_step (.inr hS1) nd ha).2⟩) (by simpa using hl)
  rw [← keysD_enc] at ec
  have es : sortD ((T.filter nz).map tmD) = some (L'.map tmD) := by
    unfold sortD
    rw [if_pos (sortOk_tm (Nat.le_trans (List.length_filter_le _ _) hl)), e]
  refine ⟨L', ?_, told_of nd p ?_⟩
  · have hK : iKeyK (.loc n) (S.set n (.rT (encT T))) = .ok (keysD (encT T)) (S.set n (.rT (encT T))) := by simp [hS1]
    have hC : lLock 0 (lComp [1] (iKeys' (eVar 0)) (gN 1) (tBin (oBn cEq) (eIx (eGet (eVar 0) (eVar 1)) (eC (.int 0))) (eC (.int 0))) (eTup (aCons (eVar 1) (aCons (eGet (eVar 0) (eVar 1)) aNil)))) [some (.loc n), none] S = .ok ((T.filter nz).map tmD) S := by
      rw [List.nil_append] at ec
      simp [h1, hS1, ec, h2]
    simp only [T__law_told, b__law_told, run_def, start_def, sRet, eOfL, lOfL]
    show (match sbind (((((lLock 0 _) [some (.loc n), none] S).bind _).bind _)) _ _ with | .nx _ S' => _ | .ret d S' => _ | .exc c _ S' => _ | _ => _) = _
    rw [hC]
    simp [es, polyL]
  · have ndL : (keys (T.filter nz)).Nodup := nd.sublist (List.Sublist.map _ List.filter_sublist)
    have ndL' : L'.Pairwise fun a b => a.1 ≠ b.1 := by
      have h3 : (keys L').Nodup := (p.map _).nodup_iff.mpr ndL
      unfold keys List.Nodup at h3
      rw [List.pairwise_map] at h3
      exact h3
    refine (up.and ndL').imp fun {a b} ⟨h1, h2⟩ => ?_
    have h3 : (!PySem.W.dataLt (encD (tmD b)) (encD (tmD a))) = true := h1
    rw [enc_tmD, enc_tmD, PySem.W.dataLt_pair (alike_mon _ _) (by simp [PySem.W.alike, PySem.W.alikeAll])] at h3
    rw [show PyData.eqv (.tuple (b.1.map .int)) (.tuple (a.1.map .int)) = decide (b.1 = a.1) from eqv_mon _ _, if_neg (by simpa using fun e => h2 e.symm), lt_mon] at h3
    rcases lex_tri a.1 b.1 with l | l | l
    · exact l
    · exact absurd l h2
    · simp [l] at h3
end DV
/-! P4: sums and products. -/
namespace DV
open PySem L2
/-! ### sizes -/
/-- k / M with |k| at most B -/
def CB (M B : Nat) (x : Rat) : Prop := ∃ k : Int, x = mkRat k M ∧ k.natAbs ≤ B
theorem CB.zero (M B : Nat) : CB M B 0 := ⟨0, by simp, by simp⟩
theorem CB.mono {M B C : Nat} {x : Rat} (h : CB M B x) (l : B ≤ C) : CB M C x := by obtain ⟨k, e, b⟩ := h; exact ⟨k, e, by omega⟩
theorem CB.add {M B C : Nat} {x y : Rat} (hM : M ≠ 0) (h : CB M B x) (g : CB M C y) : CB M (B + C) (x + y) := by
  obtain ⟨k, rfl, b⟩ := h
  obtain ⟨l, rfl, c⟩ := g
  refine ⟨k + l, ?_, by omega⟩
  rw [Rat.mkRat_add_mkRat _ _ hM hM, ← Int.add_mul]
  exact Rat.mkRat_mul_right hM
theorem CB.mul {M N B C : Nat} {x y : Rat} (h : CB M B x) (g : CB N C y) : CB (M * N) (B * C) (x * y) := by
  obtain ⟨k, rfl, b⟩ := h
  obtain ⟨l, rfl, c⟩ := g
  exact ⟨k * l, Rat.mkRat_mul_mkRat _ _ _ _, by rw [Int.natAbs_mul]; exact Nat.mul_le_mul b c⟩
theorem CB.sm {M B : Nat} {x : Rat} (h : CB M B x) (hM : M < 2 ^ 400) (hB : B < 2 ^ 400) : Sm x := by
  obtain ⟨k, rfl, b⟩ := h
  constructor
  · rw [Rat.num_mkRat]
    split
    · exact Nat.pow_pos (by decide)
    · have h1 : (k / ((M.gcd k.natAbs : Nat) : Int)).natAbs ≤ k.natAbs := Int.natAbs_ediv_le_natAbs _ _
      exact Nat.lt_of_le_of_lt (Nat.le_trans h1 b) hB
  · rw [Rat.den_mkRat]
    split
    · exact Nat.one_lt_two_pow (by decide)
    · exact Nat.lt_of_le_of_lt (Nat.div_le_self _ _) hM
/-! ### contributions -/
def acc (l : Tb) (m : Mon) : Rat := (l.map fun a => if a.1 = m then a.2 else 0).sum
theorem acc_nil (m : Mon) : acc [] m = 0 := rfl
theorem acc_cons (a : Mon × Rat) (l : Tb) (m : Mon) : acc (a :: l) m = (if a.1 = m then a.2 else 0) + acc l m := by simp [acc]
theorem acc_append (l l' : Tb) (m : Mon) : acc (l ++ l') m = acc l m + acc l' m := by
  induction l with
  | nil => rw [List.nil_append, acc_nil, Rat.zero_add]
  | cons a l ih => rw [List.cons_append, acc_cons, acc_cons, ih, Rat.add_assoc]
theorem acc_cb {M B : Nat} (hM : M ≠ 0) {l : Tb} (h : ∀ a ∈ l, CB M B a.2) (m : Mon) : CB M (l.length * B) (acc l m) := by
  induction l with
  | nil => rw [acc_nil]; exact CB.zero _ _
  | cons a l ih =>
    rw [acc_cons, List.length_cons, Nat.add_mul, Nat.one_mul, Nat.add_comm]
    refine CB.add hM ?_ (ih fun x hx => h x (List.mem_cons_of_mem _ hx))
    split
    · exact h a List.mem_cons_self
    · exact CB.zero _ _
theorem acc_canon {L : Tb} (nd : (keys L).Nodup) (m : Mon) : acc L m = cf L m := by
  induction L with
  | nil => rfl
  | cons a L ih =>
    simp only [keys, List.map_cons, List.nodup_cons] at nd
    rw [acc_cons, cf_cons, ih nd.2]
    by_cases h : a.1 = m
    · rw [if_pos h, if_pos h, cf_not (by rw [← h]; exact nd.1), Rat.add_zero]
    · rw [if_neg h, if_neg h, Rat.zero_add]
/-! ### tables in the store -/
/-- a table as it should be: N the unknowns -/
structure TbOk (N : Nat) (T : Tb) : Prop where
  nd : (keys T).Nodup
  ln : ∀ a ∈ T, a.1.length = N
theorem TbOk.ne {N : Nat} {T : Tb} (h : TbOk N T) (hN : 0 < N) : ∀ a ∈ T, a.1 ≠ [] := fun a ha e => by
  have := h.ln a ha; rw [e] at this; simp at this; omega
theorem TbOk.pt {N : Nat} {T : Tb} {m : Mon} {x : Rat} (h : TbOk N T) (hm : m.length = N) : TbOk N (pt T m x) := ⟨nd_pt h.nd, fun a ha => by
  have : a.1 ∈ keys (DV.pt T m x) := List.mem_map_of_mem ha
  rw [keys_pt] at this
  split at this
  · obtain ⟨b, hb, e⟩ := List.mem_map.mp this; rw [← e]; exact h.ln b hb
  · rcases List.mem_append.mp this with h1 | h1
    · obtain ⟨b, hb, e⟩ := List.mem_map.mp h1; rw [← e]; exact h.ln b hb
    · simp at h1; rw [h1]; exact hm⟩
theorem TbOk.dp {N : Nat} {T : Tb} {m : Mon} (h : TbOk N T) : TbOk N (dp T m) := ⟨nd_dp h.nd, fun a ha => h.ln a (List.mem_filter.mp ha).1⟩
theorem TbOk.nil (N : Nat) : TbOk N [] := ⟨List.Pairwise.nil, fun _ h => nomatch h⟩
def tabAt (S : Sto) (n : Nat) (T : Tb) : Prop := S[n]? = some (.dT (encT T))
theorem tabAt.lt {S : Sto} {n : Nat} {T : Tb} (h : tabAt S n T) : n < S.length := (List.getElem?_eq_some_iff.mp h).1
theorem tabAt.set {S : Sto} {n : Nat} {T T' : Tb} (h : tabAt S n T) : tabAt (S.set n (.dT (encT T'))) n T' := List.getElem?_set_self h.lt
theorem set_same {S : Sto} {n : Nat} {o : MO} (h : S[n]? = some o) : S.set n o = S := List.ext_getElem? fun i => by
  by_cases hi : n = i
  · subst hi; rw [List.getElem?_set_self (List.getElem?_eq_some_iff.mp h).1, h]
  · rw [List.getElem?_set_ne hi]
theorem put_T {S : Sto} {n : Nat} {T : Tb} (h : tabAt S n T) (hl : T.length < LN) (m : Mon) (x : Rat) : dPutD (.loc n) (mD m) (frD x) S = some (S.set n (.dT (encT (pt T m x)))) := by
  have h' : S[n]? = some (.dT (encT T)) := h
  have hl' : (encT T).length < LN := by simpa [encT] using hl
  simp only [dPutD, h', if_pos hl', keyT_mD, Option.map_some, put_enc]
theorem pop_T {S : Sto} {n : Nat} {T : Tb} (h : tabAt S n T) (m : Mon) : ∃ d, gPopT (.loc n) [mD m, .non] S = some (d, S.set n (.dT (encT (dp T m)))) := by
  have h' : S[n]? = some (.dT (encT T)) := h
  simp only [gPopT, h', keyT_mD, look_enc]
  cases hk : lk T m with
  | some x => exact ⟨frD x, by simp only [Option.map_some, drop_enc]⟩
  | none =>
    refine ⟨.non, ?_⟩
    have hm : m ∉ keys T := fun e => by
      unfold lk at hk
      obtain ⟨a, ha, e2⟩ := List.mem_map.mp e
      simp only [Option.map_eq_none_iff, List.find?_eq_none, decide_eq_true_eq] at hk
      exact hk a ha e2
    have : dp T m = T := by
      unfold dp
      rw [List.filter_eq_self]
      intro a ha
      simp only [decide_eq_true_eq]
      exact fun e => hm (by rw [← e]; exact List.mem_map_of_mem ha)
    rw [this, set_same h']; rfl
theorem dc_T {S : Sto} {n : Nat} {T : Tb} (h : tabAt S n T) : isDc (.loc n) S = true := by
  have h' : S[n]? = some (.dT (encT T)) := h
  simp [isDc, h']
theorem ty_T {S : Sto} {n : Nat} {T : Tb} (h : tabAt S n T) : tyD "dict" (.loc n) S = true := by
  have h' : S[n]? = some (.dT (encT T)) := h
  simp [tyD, h']
theorem fr_get (T : Tb) (m : Mon) {z : D} (hz : fr? z 0) : fr? (((lk T m).map frD).getD z) (cf T m) := by
  unfold cf
  cases lk T m with
  | none => exact hz
  | some x => exact fr_frD x
theorem fr_zeroC : fr? (.cst (List.map D.int [0, 1])) 0 := rfl
theorem fr_zeroT : fr? (.tup [.int 0, .int 1]) 0 := rfl
end DV
/-! M1: square matrices of rationals, plain. -/
namespace DV
abbrev Mx := List (List Rat)
def en (A : Mx) (i j : Nat) : Rat := (A.getD i []).getD j 0
def Sq (n : Nat) (A : Mx) : Prop := A.length = n ∧ ∀ r ∈ A, r.length = n
def tab (n : Nat) (f : Nat → Nat → Rat) : Mx := (List.range n).map fun i => (List.range n).map fun j => f i j
theorem en_tab {n i j : Nat} {f : Nat → Nat → Rat} (hi : i < n) (hj : j < n) : en (tab n f) i j = f i j := by
  unfold en tab
  simp [List.getD_eq_getElem?_getD, List.getElem?_range hi, List.getElem?_range hj]
theorem sq_tab (n : Nat) (f : Nat → Nat → Rat) : Sq n (tab n f) := by
  refine ⟨by simp [tab], fun r hr => ?_⟩
  obtain ⟨i, _, rfl⟩ := List.mem_map.mp hr
  simp
theorem Sq.row {n : Nat} {A : Mx} (h : Sq n A) {i : Nat} (hi : i < n) : ∃ r, A[i]? = some r ∧ r.length = n ∧ ∀ j, r.getD j 0 = en A i j := by
  have hl : i < A.length := by rw [h.1]; exact hi
  refine ⟨A[i], List.getElem?_eq_getElem hl, h.2 _ (List.getElem_mem hl), fun j => ?_⟩
  unfold en
  rw [List.getD_eq_getElem?_getD (l := A), List.getElem?_eq_getElem hl]; rfl
theorem Sq.ext {n : Nat} {A B : Mx} (hA : Sq n A) (hB : Sq n B) (h : ∀ i j, i < n → j < n → en A i j = en B i j) : A = B := by
  refine List.ext_getElem (by rw [hA.1, hB.1]) fun i h1 h2 => ?_
  have hi : i < n := by rw [← hA.1]; exact h1
  have l1 : (A[i]).length = n := hA.2 _ (List.getElem_mem h1)
  have l2 : (B[i]).length = n := hB.2 _ (List.getElem_mem h2)
  refine List.ext_getElem (by rw [l1, l2]) fun j h3 h4 => ?_
  have hj : j < n := by rw [← l1]; exact h3
  have e := h i j hi hj
  unfold en at e
  rw [List.getD_eq_getElem?_getD (l := A), List.getD_eq_getElem?_getD (l := B), List.getElem?_eq_getElem h1, List.getElem?_eq_getElem h2] at e
  simp only [Option.getD_some] at e
  rw [List.getD_eq_getElem?_getD, List.getD_eq_getElem?_getD, List.getElem?_eq_getElem h3, List.getElem?_eq_getElem h4] at e
  exact e
/-- the sum of f k, k < n -/
def sm : Nat → (Nat → Rat) → Rat
  | 0, _ => 0
  | n + 1, f => sm n f + f n
theorem sm_congr {f g : Nat → Rat} : ∀ {n : Nat}, (∀ k, k < n → f k = g k) → sm n f = sm n g
  | 0, _ => rfl
  | n + 1, h => by rw [sm, sm, sm_congr (fun k hk => h k (by omega)), h n (by omega)]
theorem sm_zero : ∀ n : Nat, sm n (fun _ => 0) = 0
  | 0 => rfl
  | n + 1 => by rw [sm, sm_zero n, Rat.add_zero]
theorem sm_add (f g : Nat → Rat) : ∀ n : Nat, sm n (fun k => f k + g k) = sm n f + sm n g
  | 0 => by simp [sm, Rat.add_zero]
  | n + 1 => by simp only [sm]; rw [sm_add f g n]; grind
theorem sm_mul (c : Rat) (f : Nat → Rat) : ∀ n : Nat, sm n (fun k => f k * c) = sm n f * c
  | 0 => by simp [sm]
  | n + 1 => by simp only [sm]; rw [sm_mul c f n]; grind
theorem sm_lmul (c : Rat) (f : Nat → Rat) (n : Nat) : sm n (fun k => c * f k) = c * sm n f := by
  rw [sm_congr (g := fun k => f k * c) (fun k _ => Rat.mul_comm _ _), sm_mul, Rat.mul_comm]
theorem sm_comm (f : Nat → Nat → Rat) (m : Nat) : ∀ n : Nat, sm n (fun i => sm m fun j => f i j) = sm m fun j => sm n fun i => f i j
  | 0 => by simp only [sm]; exact (sm_zero m).symm
  | n + 1 => by simp only [sm]; rw [sm_comm f m n, ← sm_add]
theorem sm_one {n i : Nat} (hi : i < n) (f : Nat → Rat) : sm n (fun k => if i = k then f k else 0) = f i := by
  have low : ∀ m, m ≤ i → sm m (fun k => if i = k then f k else 0) = 0 := by
    intro m
    induction m with
    | zero => intro _; rfl
    | succ m ih => intro h; rw [sm, ih (by omega), if_neg (by omega), Rat.add_zero]
  have up : ∀ m, i < m → sm m (fun k => if i = k then f k else 0) = f i := by
    intro m
    induction m with
    | zero => intro h; omega
    | succ m ih =>
      intro h
      rw [sm]
      by_cases e : i = m
      · subst e; rw [low i (Nat.le_refl _), if_pos rfl, Rat.zero_add]
      · rw [ih (by omega), if_neg e, Rat.add_zero]
  exact up n hi
def mulM (n : Nat) (A B : Mx) : Mx := tab n fun i j => sm n fun k => en A i k * en B k j
def unitM (n : Nat) : Mx := tab n fun i j => if i = j then 1 else 0
def zeroM (n : Nat) : Mx := tab n fun _ _ => 0
def withM (n : Nat) (A B : Mx) (c : Rat) : Mx := tab n fun i j => en A i j + en B i j * c
theorem sq_mul {n : Nat} {A B : Mx} : Sq n (mulM n A B) := sq_tab _ _
theorem sq_unit {n : Nat} : Sq n (unitM n) := sq_tab _ _
theorem sq_zero {n : Nat} : Sq n (zeroM n) := sq_tab _ _
theorem sq_with {n : Nat} {A B : Mx} {c : Rat} : Sq n (withM n A B c) := sq_tab _ _
theorem en_mul {n i j : Nat} {A B : Mx} (hi : i < n) (hj : j < n) : en (mulM n A B) i j = sm n fun k => en A i k * en B k j := en_tab hi hj
theorem en_unit {n i j : Nat} (hi : i < n) (hj : j < n) : en (unitM n) i j = if i = j then 1 else 0 := en_tab hi hj
theorem en_zero {n i j : Nat} (hi : i < n) (hj : j < n) : en (zeroM n) i j = 0 := en_tab hi hj
theorem en_with {n i j : Nat} {A B : Mx} {c : Rat} (hi : i < n) (hj : j < n) : en (withM n A B c) i j = en A i j + en B i j * c := en_tab hi hj
theorem mul_assocM (n : Nat) (A B C : Mx) : mulM n (mulM n A B) C = mulM n A (mulM n B C) := by
  refine Sq.ext sq_mul sq_mul fun i j hi hj => ?_
  rw [en_mul hi hj, en_mul hi hj]
  have e1 : sm n (fun k => en (mulM n A B) i k * en C k j) = sm n fun k => sm n fun l => en A i l * en B l k * en C k j :=
    sm_congr fun k hk => by rw [en_mul hi hk, sm_mul]
  have e2 : sm n (fun l => en A i l * en (mulM n B C) l j) = sm n fun l => sm n fun k => en A i l * en B l k * en C k j :=
    sm_congr fun l hl => by
      rw [en_mul hl hj, ← sm_lmul]
      exact sm_congr fun k _ => by grind
  rw [e1, e2, sm_comm]
theorem unit_mul {n : Nat} {A : Mx} (h : Sq n A) : mulM n (unitM n) A = A := by
  refine Sq.ext sq_mul h fun i j hi hj => ?_
  rw [en_mul hi hj, sm_congr (g := fun k => if i = k then en A k j else 0) (fun k hk => ?_), sm_one hi]
  rw [en_unit hi hk]; split <;> simp
theorem mul_unit {n : Nat} {A : Mx} (h : Sq n A) : mulM n A (unitM n) = A := by
  refine Sq.ext sq_mul h fun i j hi hj => ?_
  rw [en_mul hi hj, sm_congr (g := fun k => if j = k then en A i k else 0) (fun k hk => ?_), sm_one hj]
  rw [en_unit hk hj]
  by_cases e : k = j
  · subst e; simp
  · rw [if_neg e, if_neg (fun z => e z.symm)]; simp
theorem mul_zeroM (n : Nat) (A : Mx) : mulM n A (zeroM n) = zeroM n := Sq.ext sq_mul sq_zero fun i j hi hj => by
  rw [en_mul hi hj, en_zero hi hj, sm_congr (g := fun _ => 0) (fun k hk => by rw [en_zero hk hj]; simp), sm_zero]
theorem zero_mulM (n : Nat) (A : Mx) : mulM n (zeroM n) A = zeroM n := Sq.ext sq_mul sq_zero fun i j hi hj => by
  rw [en_mul hi hj, en_zero hi hj, sm_congr (g := fun _ => 0) (fun k hk => by rw [en_zero hi hk]; simp), sm_zero]
theorem mul_with (n : Nat) (A B C : Mx) (c : Rat) : mulM n A (withM n B C c) = withM n (mulM n A B) (mulM n A C) c := Sq.ext sq_mul sq_with fun i j hi hj => by
  rw [en_mul hi hj, en_with hi hj, en_mul hi hj, en_mul hi hj, ← sm_mul, ← sm_add]
  exact sm_congr fun k hk => by rw [en_with hk hj]; grind
theorem with_mul (n : Nat) (A B C : Mx) (c : Rat) : mulM n (withM n B C c) A = withM n (mulM n B A) (mulM n C A) c := Sq.ext sq_mul sq_with fun i j hi hj => by
  rw [en_mul hi hj, en_with hi hj, en_mul hi hj, en_mul hi hj, ← sm_mul, ← sm_add]
  exact sm_congr fun k hk => by rw [en_with hi hk]; grind
/-- A and B commute -/
def Cm (n : Nat) (A B : Mx) : Prop := mulM n A B = mulM n B A
theorem Cm.symm {n : Nat} {A B : Mx} (h : Cm n A B) : Cm n B A := Eq.symm h
theorem Cm.refl (n : Nat) (A : Mx) : Cm n A A := rfl
theorem Cm.unit {n : Nat} {A : Mx} (h : Sq n A) : Cm n A (unitM n) := by unfold Cm; rw [mul_unit h, unit_mul h]
theorem Cm.zero (n : Nat) (A : Mx) : Cm n A (zeroM n) := by unfold Cm; rw [mul_zeroM, zero_mulM]
theorem Cm.mul {n : Nat} {A B C : Mx} (h : Cm n A B) (g : Cm n A C) : Cm n A (mulM n B C) := by
  unfold Cm at *
  rw [← mul_assocM, h, mul_assocM, g, ← mul_assocM]
theorem Cm.add {n : Nat} {A B C : Mx} (c : Rat) (h : Cm n A B) (g : Cm n A C) : Cm n A (withM n B C c) := by
  unfold Cm at *
  rw [mul_with, with_mul, h, g]
/-- combinations of the unit matrix, M and its square -/
inductive Poly2 (n : Nat) (M : Mx) : Mx → Prop
  | z : Poly2 n M (zeroM n)
  | u {A : Mx} (c : Rat) : Poly2 n M A → Poly2 n M (withM n A (unitM n) c)
  | m {A : Mx} (c : Rat) : Poly2 n M A → Poly2 n M (withM n A M c)
  | s {A : Mx} (c : Rat) : Poly2 n M A → Poly2 n M (withM n A (mulM n M M) c)
theorem Poly2.cm {n : Nat} {M A X : Mx} (hX : Sq n X) (hm : Cm n X M) (h : Poly2 n M A) : Cm n X A := by
  induction h with
  | z => exact Cm.zero _ _
  | u c _ ih => exact Cm.add c ih (Cm.unit hX)
  | m c _ ih => exact Cm.add c ih hm
  | s c _ ih => exact Cm.add c ih (Cm.mul hm hm)
theorem Poly2.sq {n : Nat} {M A : Mx} (h : Poly2 n M A) : Sq n A := by cases h <;> first | exact sq_zero | exact sq_with
theorem Poly2.comm {n : Nat} {M A B : Mx} (hM : Sq n M) (hA : Poly2 n M A) (hB : Poly2 n M B) : Cm n A B :=
  hB.cm hA.sq (hA.cm hM (Cm.refl _ _)).symm
/-- M to the e-th -/
def powM (n : Nat) (M : Mx) : Nat → Mx
  | 0 => unitM n
  | e + 1 => mulM n (powM n M e) M
theorem sq_pow {n : Nat} {M : Mx} : ∀ e, Sq n (powM n M e)
  | 0 => sq_unit
  | _ + 1 => sq_mul
/-- a product and M so many times behind it -/
theorem mul_pow (n : Nat) (A M : Mx) (hA : Sq n A) : ∀ e, mulM n A (powM n M (e + 1)) = mulM n (mulM n A (powM n M e)) M := fun e => by
  show mulM n A (mulM n (powM n M e) M) = _
  rw [mul_assocM]
end DV
/-! R1: rules for loops by index; rows and matrices as the program has them. -/
namespace DV
open PySem L2
/-- a loop over things, by their number -/
theorem forD_idx {g : GvT} {f : EvS} (n : Nat) {ds : List D} (hl : ds.length = n) (I : Nat → AEnv → Sto → Prop)
    (step : ∀ i d env S, i < n → ds[i]? = some d → I i env S → ∃ q env' S', g d env S = some q ∧ f q.1 q.2 = .nx env' S' ∧ I (i + 1) env' S') (env : AEnv) (S : Sto) (h : I 0 env S) :
    ∃ env' S', forD g f ds env S = .nx env' S' ∧ I n env' S' := by
  obtain ⟨env', S', h1, i, h2, h3⟩ := forD_rule (g := g) (f := f) (fun es env S => ∃ i, es = ds.drop i ∧ i + es.length = n ∧ I i env S) (by
    rintro d es env S ⟨i, e, hi, hI⟩
    simp only [List.length_cons] at hi
    have hd : ds[i]? = some d := by
      have : (ds.drop i)[0]? = some d := by rw [← e]; rfl
      rw [List.getElem?_drop] at this; simpa using this
    obtain ⟨q, env', S', a, b, c⟩ := step i d env S (by omega) hd hI
    refine ⟨q, env', S', a, b, i + 1, ?_, by omega, c⟩
    rw [← List.drop_drop, ← e]; rfl) ds env S ⟨0, rfl, by omega, h⟩
  refine ⟨env', S', h1, ?_⟩
  have : i = n := by simp at h3; omega
  subst this; exact h3.2
theorem forW_idx {g : GvT} {f : EvS} {ws : Wt} : ∀ (n : Nat) {ds : List D} (hl : ds.length = n) (I : Nat → AEnv → Sto → Prop) (hw : ∀ i env S, i ≤ n → I i env S → Cw ws S)
    (step : ∀ i d env S, i < n → ds[i]? = some d → I i env S → ∃ q env' S', g d env S = some q ∧ f q.1 q.2 = .nx env' S' ∧ I (i + 1) env' S') (env : AEnv) (S : Sto) (h : I 0 env S),
    ∃ env' S', forW ws g f ds env S = .nx env' S' ∧ I n env' S'
  | 0, [], _, I, hw, step, env, S, h => ⟨env, S, by unfold forW; rw [if_pos (hw 0 env S (Nat.le_refl _) h)], h⟩
  | 0, d :: ds, hl, I, hw, step, env, S, h => by simp at hl
  | n + 1, [], hl, I, hw, step, env, S, h => by simp at hl
  | n + 1, d :: ds, hl, I, hw, step, env, S, h => by
    obtain ⟨q, env1, S1, a, b, c⟩ := step 0 d env S (by omega) rfl h
    obtain ⟨env2, S2, h1, h2⟩ := forW_idx (g := g) (f := f) (ws := ws) n (ds := ds) (by simpa using hl) (fun i => I (i + 1)) (fun i env S hi => hw (i + 1) env S (by omega)) (fun i d' env S hi hd => step (i + 1) d' env S (by omega) (by simpa using hd)) env1 S1 c
    refine ⟨env2, S2, ?_, h2⟩
    unfold forW
    rw [if_pos (hw 0 env S (by omega) h), a]
    simp only
    rw [b]; exact h1
theorem cw_nil (S : Sto) : Cw [] S := Cw.nil S
theorem rng_get {n i : Nat} {d : D} (h : (rngD 0 n)[i]? = some d) : d = .int i := by
  unfold rngD at h
  rw [List.getElem?_map] at h
  by_cases hi : i < n
  · rw [List.getElem?_range hi] at h; cases h; simp
  · rw [List.getElem?_eq_none (by simpa using hi)] at h; cases h
theorem enum_len (ds : List D) : (enumD ds).length = ds.length := by simp [enumD]
theorem zip_len (a b : List D) : (zipD a b).length = min a.length b.length := by simp [zipD]
theorem zip_get {a b : List D} {i : Nat} {d : D} (h : (zipD a b)[i]? = some d) : ∃ x y, a[i]? = some x ∧ b[i]? = some y ∧ d = .tup [x, y] := by
  unfold zipD at h
  rw [List.getElem?_map] at h
  cases hz : (a.zip b)[i]? with
  | none => rw [hz] at h; cases h
  | some q =>
    rw [hz] at h; cases h
    have := List.getElem?_zip_eq_some.mp hz
    exact ⟨q.1, q.2, this.1, this.2, rfl⟩
theorem rng1_int {j : Int} (S : Sto) (h : -1000000 ≤ j ∧ j < 1000000) : iRng1K [.int j] S = .ok (rngD 0 j.toNat) S := by
  simp only [iRng1K]
  rw [if_pos (rngB_iff.mpr h)]
theorem rng1_nat {j : Nat} (S : Sto) (h : j < 1000000) : iRng1K [.int j] S = .ok (rngD 0 j) S := by
  rw [rng1_int S ⟨by omega, by omega⟩, Int.toNat_natCast]
theorem rngB_nat {j : Nat} (h : j < 1000000) : rngB (j : Int) = true := rngB_iff.mpr ⟨by omega, by omega⟩
/-- a place in the midst of the store -/
theorem mid_get (S g : Sto) (o : MO) : (S ++ o :: g)[S.length]? = some o := by simp
theorem mid_set (S g : Sto) (o o' : MO) : (S ++ o :: g).set S.length o' = S ++ o' :: g := by simp
theorem mid_app (S g : Sto) (ds : List D) (hl : ds.length < LN) (y : D) : gApp (.loc S.length) [y] (S ++ .lst ds :: g) = some (.non, S ++ .lst (ds ++ [y]) :: g) := by
  simp only [gApp, mutL, mid_get]
  rw [if_pos hl, mid_set]
theorem mid_ty (S g : Sto) (ds : List D) : tyD "list" (.loc S.length) (S ++ .lst ds :: g) = true := by simp [tyD]
theorem mid_tup (S g : Sto) (ds : List D) : gTupD [.loc S.length] (S ++ .lst ds :: g) = some (.tup ds) := by simp [gTupD, lstOf]
theorem mid_ix (S g : Sto) (ds : List D) (k : Int) : ixD (.loc S.length) (.int k) (S ++ .lst ds :: g) = atI ds k := ix_loc (mid_get S g _)
theorem ixN_nat {n i : Nat} (h : i < n) : ixN n (i : Int) = some i := by
  unfold ixN
  rw [if_pos (by omega), if_pos (by omega)]; simp
theorem mid_put (S g : Sto) (ds : List D) {k : Nat} (hk : k < ds.length) (y : D) : setLD (.loc S.length) (.int k) y (S ++ .lst ds :: g) = some (S ++ .lst (ds.set k y) :: g) := by
  simp only [setLD, mutL, mid_get]
  rw [ixN_nat hk, Option.map_some, mid_set]
theorem loc_put {S : Sto} {n : Nat} {ds : List D} (h : S[n]? = some (.lst ds)) {k : Nat} (hk : k < ds.length) (y : D) : setLD (.loc n) (.int k) y S = some (S.set n (.lst (ds.set k y))) := by
  simp only [setLD, mutL, h]
  rw [ixN_nat hk, Option.map_some]
theorem flat_rep1 (x : D) : ∀ n : Nat, (List.replicate n [x]).flatten = List.replicate n x
  | 0 => rfl
  | n + 1 => by rw [List.replicate_succ, List.flatten_cons, flat_rep1 x n]; rfl
theorem len_seq {d : D} {xs : List D} (S : Sto) (h : d.seq? = some xs) : gLenD [d] S = some (.int xs.length) := by
  cases d <;> simp [D.seq?] at h <;> subst h <;> rfl
/-! ### rows, matrices -/
def rowR (d : D) (n : Nat) (f : Nat → Rat) : Prop := ∃ ds, d.seq? = some ds ∧ ds.length = n ∧ ∀ j, j < n → ∃ e, ds[j]? = some e ∧ fr? e (f j)
def matR (d : D) (n : Nat) (A : Mx) : Prop := ∃ ds, d.seq? = some ds ∧ ds.length = n ∧ ∀ i, i < n → ∃ e, ds[i]? = some e ∧ rowR e n (en A i)
theorem rowR.len {d : D} {n : Nat} {f : Nat → Rat} (h : rowR d n f) (S : Sto) : gLenD [d] S = some (.int n) := by
  obtain ⟨ds, h1, h2, _⟩ := h
  rw [len_seq S h1, h2]
theorem matR.len {d : D} {n : Nat} {A : Mx} (h : matR d n A) (S : Sto) : gLenD [d] S = some (.int n) := by
  obtain ⟨ds, h1, h2, _⟩ := h
  rw [len_seq S h1, h2]
theorem rowR.ix {d : D} {n : Nat} {f : Nat → Rat} (h : rowR d n f) {j : Nat} (hj : j < n) (S : Sto) : ∃ e, ixD d (.int j) S = some e ∧ fr? e (f j) := by
  obtain ⟨ds, h1, h2, h3⟩ := h
  obtain ⟨e, h4, h5⟩ := h3 j hj
  exact ⟨e, by rw [ix_seq h1, atI_n, h4], h5⟩
theorem matR.ix {d : D} {n : Nat} {A : Mx} (h : matR d n A) {j : Nat} (hj : j < n) (S : Sto) : ∃ e, ixD d (.int j) S = some e ∧ rowR e n (en A j) := by
  obtain ⟨ds, h1, h2, h3⟩ := h
  obtain ⟨e, h4, h5⟩ := h3 j hj
  exact ⟨e, by rw [ix_seq h1, atI_n, h4], h5⟩
theorem pys_get : ∀ {n : Nat} {ds : List D} {p : Nat → PyData}, ds.length = n → (∀ i, i < n → ∃ e, ds[i]? = some e ∧ e.py = some (p i)) → pys ds = some ((List.range n).map p)
  | 0, [], _, _, _ => rfl
  | 0, _ :: _, _, hl, _ => by simp at hl
  | n + 1, [], _, hl, _ => by simp at hl
  | n + 1, d :: ds, p, hl, h => by
    obtain ⟨e, h1, h2⟩ := h 0 (by omega)
    simp at h1; subst h1
    have ih := pys_get (n := n) (ds := ds) (p := fun i => p (i + 1)) (by simpa using hl) fun i hi => by
      obtain ⟨e, h3, h4⟩ := h (i + 1) (by omega)
      exact ⟨e, by simpa using h3, h4⟩
    rw [pys, h2, ih, List.range_succ_eq_map, List.map_cons, List.map_map]; rfl
theorem py_seq {d : D} {ds : List D} {ps : List PyData} (h : d.seq? = some ds) (e : pys ds = some ps) : d.py = some (.tuple ps) := by
  cases d <;> simp [D.seq?] at h <;> subst h <;> simp [D.py, e]
theorem fr_py {d : D} {x : Rat} (h : fr? d x) : d.py = some (.tuple [.int x.num, .int x.den]) := py_seq h (by simp [pys, D.py])
def rowP (n : Nat) (f : Nat → Rat) : PyData := .tuple ((List.range n).map fun j => .tuple [.int (f j).num, .int (f j).den])
def matP (n : Nat) (A : Mx) : PyData := .tuple ((List.range n).map fun i => rowP n (en A i))
theorem rowR.py {d : D} {n : Nat} {f : Nat → Rat} (h : rowR d n f) : d.py = some (rowP n f) := by
  obtain ⟨ds, h1, h2, h3⟩ := h
  exact py_seq h1 (pys_get h2 fun i hi => let ⟨e, a, b⟩ := h3 i hi; ⟨e, a, fr_py b⟩)
theorem matR.py {d : D} {n : Nat} {A : Mx} (h : matR d n A) : d.py = some (matP n A) := by
  obtain ⟨ds, h1, h2, h3⟩ := h
  exact py_seq h1 (pys_get h2 fun i hi => let ⟨e, a, b⟩ := h3 i hi; ⟨e, a, b.py⟩)
theorem fr_inj {d : D} {x y : Rat} (h : fr? d x) (g : fr? d y) : x = y := by
  unfold fr? at h g
  rw [h] at g
  simp at g
  exact Rat.ext g.1 (by omega)
theorem eqv_tuple (xs ys : List PyData) : PyData.eqv (.tuple xs) (.tuple ys) = PyData.eqvAll xs ys := by simp [PyData.eqv]
theorem eqv_all {n : Nat} {p q : Nat → PyData} : PyData.eqvAll ((List.range n).map p) ((List.range n).map q) = true ↔ ∀ i, i < n → PyData.eqv (p i) (q i) = true := by
  induction n generalizing p q with
  | zero => simp [PyData.eqvAll]
  | succ n ih =>
    rw [List.range_succ_eq_map, List.map_cons, List.map_cons, List.map_map, List.map_map]
    have := ih (p := p ∘ Nat.succ) (q := q ∘ Nat.succ)
    simp only [PyData.eqvAll, Bool.and_eq_true, this]
    constructor
    · rintro ⟨a, b⟩ i hi
      cases i with
      | zero => exact a
      | succ i => exact b i (by omega)
    · intro h
      exact ⟨h 0 (by omega), fun i hi => h (i + 1) (by omega)⟩
theorem eqv_fr (x y : Rat) : PyData.eqv (.tuple [.int x.num, .int x.den]) (.tuple [.int y.num, .int y.den]) = true ↔ x = y := by
  simp only [PyData.eqv, PyData.eqvAll, Bool.and_true, Bool.and_eq_true, decide_eq_true_eq]
  constructor
  · rintro ⟨a, b⟩; exact Rat.ext (by simpa using a) (by have := b; simp at this; omega)
  · rintro rfl; simp
theorem eqv_mat {n : Nat} {A B : Mx} (hA : Sq n A) (hB : Sq n B) : PyData.eqv (matP n A) (matP n B) = decide (A = B) := by
  have h : PyData.eqv (matP n A) (matP n B) = true ↔ A = B := by
    unfold matP
    rw [eqv_tuple, eqv_all]
    constructor
    · intro h
      refine Sq.ext hA hB fun i j hi hj => ?_
      have h1 := h i hi
      unfold rowP at h1
      rw [eqv_tuple, eqv_all] at h1
      exact (eqv_fr _ _).mp (h1 j hj)
    · rintro rfl i hi
      unfold rowP
      rw [eqv_tuple, eqv_all]
      exact fun j _ => (eqv_fr _ _).mpr rfl
  by_cases e : A = B
  · rw [decide_eq_true e]; exact h.mpr e
  · rw [decide_eq_false e]
    cases hx : PyData.eqv (matP n A) (matP n B) with
    | false => rfl
    | true => exact absurd (h.mp hx) e
end DV
/-! R2: matrices: equal, unit, products. -/
namespace DV
open PySem L2
theorem canLay_all {α : Type} {l : List α} {p : α → PyData} (h : ∀ a ∈ l, (p a).canLay0 = true) : PyData.canLayAll0 (l.map p) = true := by
  induction l with
  | nil => rfl
  | cons a l ih => rw [List.map_cons, PyData.canLayAll0, h a List.mem_cons_self, ih fun b hb => h b (List.mem_cons_of_mem _ hb)]; rfl
theorem depth_tup {k : Nat} {xs : List PyData} (h : ∀ x ∈ xs, PyData.depth x ≤ k) : PyData.depth (.tuple xs) ≤ k + 1 := by
  rw [PyData.depth]
  have : PyData.depthAll xs ≤ k := by
    induction xs with
    | nil => simp [PyData.depthAll]
    | cons x xs ih =>
      rw [PyData.depthAll]
      have h1 := h x List.mem_cons_self
      have h2 := ih fun y hy => h y (List.mem_cons_of_mem _ hy)
      omega
  omega
theorem shaped_mat (n : Nat) (A : Mx) : SeqAt.shaped (matP n A) = true := by
  unfold SeqAt.shaped
  rw [Bool.and_eq_true]
  constructor
  · unfold matP rowP
    rw [PyData.canLay0]
    refine canLay_all fun i _ => ?_
    rw [PyData.canLay0]
    refine canLay_all fun j _ => ?_
    simp [PyData.canLay0, PyData.canLayAll0]
  · rw [decide_eq_true_eq]
    have : (matP n A).depth ≤ 2 + 1 := by
      unfold matP
      refine depth_tup fun x hx => ?_
      obtain ⟨i, _, rfl⟩ := List.mem_map.mp hx
      unfold rowP
      refine depth_tup (k := 1) fun x hx => ?_
      obtain ⟨j, _, rfl⟩ := List.mem_map.mp hx
      simp [PyData.depth, PyData.depthAll]
    omega
theorem cEq_seq {a b : D} {xs ys : List D} (h : a.seq? = some xs) (g : b.seq? = some ys) : cEq a b = cEqG a b := by
  cases a <;> simp [D.seq?] at h <;> cases b <;> simp [D.seq?] at g <;> rfl
theorem cEq_mat {d e : D} {n : Nat} {A B : Mx} (h : matR d n A) (g : matR e n B) (hA : Sq n A) (hB : Sq n B) : cEq d e = some (decide (A = B)) := by
  obtain ⟨xs, h1, _⟩ := id h
  obtain ⟨ys, g1, _⟩ := id g
  rw [cEq_seq h1 g1]
  unfold cEqG
  rw [h.py, g.py]
  simp only
  rw [if_pos ⟨shaped_mat _ _, shaped_mat _ _⟩, eqv_mat hA hB]
/-- a matrix made row by row -/
theorem matR_of {d : D} {n : Nat} {A : Mx} {ds : List D} (h : d.seq? = some ds) (hl : ds.length = n) (k : ∀ i, i < n → ∃ e, ds[i]? = some e ∧ rowR e n (en A i)) : matR d n A := ⟨ds, h, hl, k⟩
/-- a comprehension by the numbers of its items; the store grows -/
theorem compD_idx {vs : List Nat} {g : GvT} {te : EvE} {env : AEnv} {S0 : Sto} : ∀ (n : Nat) {ds : List D} (hl : ds.length = n) (P : Nat → D → Prop) (acc : List D) (S : Sto) (gg : Sto) (hS : S = S0 ++ gg) (hacc : acc.length + n ≤ LN)
    (step : ∀ i d g1, i < n → ds[i]? = some d → ∃ env1 y g2, g d (wipeA env vs) (S0 ++ g1) = some (env1, S0 ++ g1) ∧ te env1 (S0 ++ g1) = .ok y (S0 ++ g1 ++ g2) ∧ P i y),
    ∃ ys g3, compD vs g tYes' te env ds acc S = .ok (acc ++ ys) (S0 ++ g3) ∧ ys.length = n ∧ ∀ i, i < n → ∃ y, ys[i]? = some y ∧ P i y
  | 0, [], _, P, acc, S, gg, hS, _, _ => ⟨[], gg, by simp [compD, hS], rfl, fun i hi => by omega⟩
  | 0, d :: ds, hl, P, acc, S, gg, hS, _, _ => by simp at hl
  | n + 1, [], hl, P, acc, S, gg, hS, _, _ => by simp at hl
  | n + 1, d :: ds, hl, P, acc, S, gg, hS, hacc, step => by
    obtain ⟨env1, y, g2, h1, h2, h3⟩ := step 0 d gg (by omega) rfl
    have hLN : LN = 16777216 := rfl
    obtain ⟨ys, g3, h4, h5, h6⟩ := compD_idx (vs := vs) (g := g) (te := te) (env := env) (S0 := S0) n (ds := ds) (by simpa using hl) (fun i => P (i + 1)) (acc ++ [y]) (S0 ++ gg ++ g2) (gg ++ g2) (by rw [List.append_assoc]) (by simp; omega) (fun i d' g1 hi hd => step (i + 1) d' g1 (by omega) (by simpa using hd))
    refine ⟨y :: ys, g3, ?_, by simp [h5], fun i hi => ?_⟩
    · unfold compD
      rw [hS, h1]
      have ha : acc.length < 16777216 := by omega
      simp [h2, ha]
      rw [List.append_assoc, List.append_assoc] at h4
      simpa using h4
    · cases i with
      | zero => exact ⟨y, rfl, h3⟩
      | succ i => simpa using h6 i (by omega)
/-- the same where the store stays -/
theorem compD_pure {vs : List Nat} {g : GvT} {te : EvE} {env : AEnv} {S : Sto} (n : Nat) {ds : List D} (hl : ds.length = n) (P : Nat → D → Prop) (hn : n ≤ LN)
    (step : ∀ i d, i < n → ds[i]? = some d → ∃ env1 y, g d (wipeA env vs) S = some (env1, S) ∧ te env1 S = .ok y S ∧ P i y) :
    ∃ ys, compD vs g tYes' te env ds [] S = .ok ys S ∧ ys.length = n ∧ ∀ i, i < n → ∃ y, ys[i]? = some y ∧ P i y := by
  have go : ∀ (n : Nat) {ds : List D} (hl : ds.length = n) (P : Nat → D → Prop) (acc : List D) (hacc : acc.length + n ≤ LN) (step : ∀ i d, i < n → ds[i]? = some d → ∃ env1 y, g d (wipeA env vs) S = some (env1, S) ∧ te env1 S = .ok y S ∧ P i y),
      ∃ ys, compD vs g tYes' te env ds acc S = .ok (acc ++ ys) S ∧ ys.length = n ∧ ∀ i, i < n → ∃ y, ys[i]? = some y ∧ P i y := by
    intro n
    induction n with
    | zero =>
      intro ds hl P acc hacc step
      cases ds with
      | nil => exact ⟨[], by simp [compD], rfl, fun i hi => by omega⟩
      | cons d ds => simp at hl
    | succ n ih =>
      intro ds hl P acc hacc step
      cases ds with
      | nil => simp at hl
      | cons d ds =>
        have hLN : LN = 16777216 := rfl
        obtain ⟨env1, y, h1, h2, h3⟩ := step 0 d (by omega) rfl
        obtain ⟨ys, h4, h5, h6⟩ := ih (ds := ds) (by simpa using hl) (fun i => P (i + 1)) (acc ++ [y]) (by simp; omega) (fun i d' hi hd => step (i + 1) d' (by omega) (by simpa using hd))
        refine ⟨y :: ys, ?_, by simp [h5], fun i hi => ?_⟩
        · unfold compD
          rw [h1]
          have ha : acc.length < 16777216 := by omega
          simp [h2, ha]
          simpa using h4
        · cases i with
          | zero => exact ⟨y, rfl, h3⟩
          | succ i => simpa using h6 i (by omega)
  obtain ⟨ys, h1, h2, h3⟩ := go n hl P [] (by simpa using hn) step
  exact ⟨ys, by simpa using h1, h2, h3⟩
theorem fr_0C : fr? (.cst (List.map D.int [0, 1])) 0 := rfl
theorem fr_1C : fr? (.cst (List.map D.int [1, 1])) 1 := rfl
theorem fr_1T : fr? (.tup [.int 1, .int 1]) 1 := rfl
theorem T_unit_matrix_ok (n : Nat) (hn : n ≤ 1000) (S : Sto) : ∃ d, T_unit_matrix [.int n] S = .ok d S ∧ matR d n (unitM n) := by
  have hLN : LN = 16777216 := rfl
  have hr : iRng1K [.int n] S = .ok (rngD 0 n) S := rng1_nat S (by omega)
  obtain ⟨ys, h1, h2, h3⟩ := compD_pure (vs := [1]) (g := gN 1) (te := (eOfL gTup (lComp [2] (iRng1' (aCons (eVar 0) aNil)) (gN 2) tYes' (eIf (tBin (oBl cEq) (eVar 1) (eVar 2)) (eC (.cst (List.map D.int [1, 1]))) (eC (.cst (List.map D.int [0, 1]))))))) (env := [some (.int n), none, none]) (S := S) n (ds := rngD 0 n) (rng_len 0 n) (fun i y => rowR y n (en (unitM n) i)) (by omega) (by
    intro i d hi hd
    have := rng_get hd; subst this
    obtain ⟨zs, k1, k2, k3⟩ := compD_pure (vs := [2]) (g := gN 2) (te := (eIf (tBin (oBl cEq) (eVar 1) (eVar 2)) (eC (.cst (List.map D.int [1, 1]))) (eC (.cst (List.map D.int [0, 1]))))) (env := [some (.int n), some (.int i), none]) (S := S) n (ds := rngD 0 n) (rng_len 0 n) (fun j y => fr? y (en (unitM n) i j)) (by omega) (by
      intro j d hj hd
      have := rng_get hd; subst this
      refine ⟨[some (.int n), some (.int i), some (.int j)], if i = j then .cst (List.map D.int [1, 1]) else .cst (List.map D.int [0, 1]), by simp [wipeA], ?_, ?_⟩
      · by_cases e : i = j
        · subst e; simp
        · have e' : ¬ ((i : Int) = (j : Int)) := by omega
          simp [e, e']
      · rw [en_unit hi hj]
        by_cases e : i = j
        · rw [if_pos e, if_pos e]; exact fr_1C
        · rw [if_neg e, if_neg e]; exact fr_0C)
    refine ⟨[some (.int n), some (.int i), none], .tup zs, by simp [wipeA], ?_, ⟨zs, rfl, k2, k3⟩⟩
    simp at hr k1 ⊢
    simp [hr, k1])
  refine ⟨.tup ys, ?_, ⟨ys, rfl, h2, h3⟩⟩
  simp only [T_unit_matrix, b_unit_matrix, run_def, start_def]
  simp at hr h1 ⊢
  simp [hr, h1]
/-- small enough to be multiplied -/
structure Ms (n : Nat) (A B : Mx) : Prop where
  a : ∀ i j, i < n → j < n → Sm (en A i j)
  b : ∀ i j, i < n → j < n → Sm (en B i j)
  p : ∀ i j k, i < n → j < n → k < n → Sm (en A i k * en B k j)
  s : ∀ i j m, i < n → j < n → m ≤ n → Sm (sm m fun k => en A i k * en B k j)
theorem num0 (x : Rat) : decide (x.num = 0) = decide (x = 0) := by
  by_cases h : x = 0
  · subst h; rfl
  · rw [decide_eq_false h, decide_eq_false (by rwa [Rat.num_eq_zero])]
theorem T_law_unit_ok (n : Nat) (hn : n ≤ 1000) (S : Sto) : ∃ d, T__law_unit [.int n] S = .ok d S ∧ matR d n (unitM n) := by
  have hLN : LN = 16777216 := rfl
  have hr : iRng1K [.int n] S = .ok (rngD 0 n) S := rng1_nat S (by omega)
  obtain ⟨ys, h1, h2, h3⟩ := compD_pure (vs := [1]) (g := gN 1) (te := (eOfL gTup (lComp [2] (iRng1' (aCons (eVar 0) aNil)) (gN 2) tYes' (eTup (aCons (eCB gInt (aCons (eBin (oBl cEq) (eVar 1) (eVar 2)) aNil)) (aCons (eC (.int 1)) aNil)))))) (env := [some (.int n), none, none]) (S := S) n (ds := rngD 0 n) (rng_len 0 n) (fun i y => rowR y n (en (unitM n) i)) (by omega) (by
    intro i d hi hd
    have := rng_get hd; subst this
    obtain ⟨zs, k1, k2, k3⟩ := compD_pure (vs := [2]) (g := gN 2) (te := (eTup (aCons (eCB gInt (aCons (eBin (oBl cEq) (eVar 1) (eVar 2)) aNil)) (aCons (eC (.int 1)) aNil)))) (env := [some (.int n), some (.int i), none]) (S := S) n (ds := rngD 0 n) (rng_len 0 n) (fun j y => fr? y (en (unitM n) i j)) (by omega) (by
      intro j d hj hd
      have := rng_get hd; subst this
      refine ⟨[some (.int n), some (.int i), some (.int j)], .tup [.int (if i = j then 1 else 0), .int 1], by simp [wipeA], ?_, ?_⟩
      · by_cases e : i = j
        · subst e; simp [gInt]
        · have e' : ¬ ((i : Int) = (j : Int)) := by omega
          simp [e, e', gInt]
      · rw [en_unit hi hj]
        by_cases e : i = j
        · rw [if_pos e, if_pos e]; rfl
        · rw [if_neg e, if_neg e]; rfl)
    refine ⟨[some (.int n), some (.int i), none], .tup zs, by simp [wipeA], ?_, ⟨zs, rfl, k2, k3⟩⟩
    simp at hr k1 ⊢
    simp [hr, k1])
  refine ⟨.tup ys, ?_, ⟨ys, rfl, h2, h3⟩⟩
  simp only [T__law_unit, b__law_unit, run_def, start_def]
  simp at hr h1 ⊢
  simp [hr, h1]
end DV
/-! R3: products of matrices. -/
namespace DV
open PySem L2
/-- a list of n fractions -/
def frs (n : Nat) (L : List D) (f : Nat → Rat) : Prop := L.length = n ∧ ∀ j, j < n → ∃ e, L[j]? = some e ∧ fr? e (f j)
theorem frs.row {n : Nat} {L : List D} {f : Nat → Rat} (h : frs n L f) : rowR (.tup L) n f := ⟨L, rfl, h.1, h.2⟩
theorem frs.set {n : Nat} {L : List D} {f f' : Nat → Rat} (h : frs n L f) {k : Nat} (hk : k < n) {e : D} (he : fr? e (f' k)) (hf : ∀ j, j < n → j ≠ k → f' j = f j) : frs n (L.set k e) f' := by
  refine ⟨by rw [List.length_set, h.1], fun j hj => ?_⟩
  by_cases e1 : j = k
  · subst e1; exact ⟨e, by rw [List.getElem?_set_self (by rw [h.1]; exact hj)], he⟩
  · obtain ⟨e2, h2, h3⟩ := h.2 j hj
    exact ⟨e2, by rw [List.getElem?_set_ne (fun z => e1 z.symm)]; exact h2, by rw [hf j hj e1]; exact h3⟩
theorem frs.congr {n : Nat} {L : List D} {f f' : Nat → Rat} (h : frs n L f) (hf : ∀ j, j < n → f' j = f j) : frs n L f' := ⟨h.1, fun j hj => let ⟨e, a, b⟩ := h.2 j hj; ⟨e, a, by rw [hf j hj]; exact b⟩⟩
theorem frs.zeros (n : Nat) : frs n (List.replicate n (.cst (List.map D.int [0, 1]))) (fun _ => 0) := ⟨by simp, fun j hj => ⟨_, by rw [List.getElem?_replicate, if_pos hj], fr_0C⟩⟩
abbrev mm3 : EvS := (sIf (tBin (oBn cEq) (eIx (eVar 8) (eC (.int 0))) (eC (.int 0))) (sPut' setLD (eVar 4) (eVar 7) (eCall 2 T_plus (aCons (eIx (eVar 4) (eVar 7)) (aCons (eCall 2 T_times (aCons (eVar 5) (aCons (eVar 8) aNil))) aNil)))) sNil)
theorem mm_in {n : Nat} {S1 h : Sto} {os Mk : List D} {x : Rat} {s b : Nat → Rat} {one other : D} (ho : os.length = n) (hob : ∀ j, j < n → ∃ e, os[j]? = some e ∧ fr? e (b j)) (hone : fr? one x) (hM : frs n Mk s)
    (hs : ∀ j, j < n → Sm (s j)) (hx : 0 < n → Sm x) (hb : ∀ j, j < n → Sm (b j)) (hp : ∀ j, j < n → Sm (x * b j)) (p0 p1 p2 p3 o7 o8 : Option D) :
    ∃ Mk' o7' o8', forW [] (gTup' 2 (gCons' (gN 7) (gCons' (gN 8) gNil'))) mm3 (enumD os) [p0, p1, p2, p3, some (.loc S1.length), some one, some other, o7, o8] (S1 ++ .lst Mk :: h) = .nx [p0, p1, p2, p3, some (.loc S1.length), some one, some other, o7', o8'] (S1 ++ .lst Mk' :: h) ∧ frs n Mk' (fun j => s j + x * b j) := by
  obtain ⟨env', S', h1, L, o7', o8', rfl, rfl, h2⟩ := forW_idx (g := gTup' 2 (gCons' (gN 7) (gCons' (gN 8) gNil'))) (f := mm3) (ws := []) n (ds := enumD os) (by rw [enum_len, ho])
    (fun i env S => ∃ L o7 o8, env = [p0, p1, p2, p3, some (.loc S1.length), some one, some other, o7, o8] ∧ S = S1 ++ .lst L :: h ∧ frs n L (fun j => if j < i then s j + x * b j else s j)) (fun i env S _ _ => cw_nil S)
    (by
      rintro i d env S hi hd ⟨L, o7, o8, rfl, rfl, hL⟩
      obtain ⟨y, hy, rfl⟩ := enumD_get hd
      obtain ⟨e, he, hfe⟩ := hob i hi
      rw [he] at hy; cases hy
      obtain ⟨c, hc, hfc⟩ := hL.2 i hi
      simp only [Nat.lt_irrefl, if_false] at hfc
      refine ⟨([p0, p1, p2, p3, some (.loc S1.length), some one, some other, some (.int i), some y], S1 ++ .lst L :: h), ?_⟩
      have ix8 : ixD y (.int 0) (S1 ++ .lst L :: h) = some (.int (b i).num) := fr_ix0 hfe
      by_cases hz : b i = 0
      · refine ⟨[p0, p1, p2, p3, some (.loc S1.length), some one, some other, some (.int i), some y], S1 ++ .lst L :: h, by simp, ?_, L, _, _, rfl, rfl, ?_⟩
        · have : (b i).num = 0 := by rw [hz]; rfl
          simp [ix8, this]
        · refine hL.congr fun j hj => ?_
          by_cases e1 : j < i
          · simp [e1, Nat.lt_succ_of_lt e1]
          · by_cases e2 : j = i
            · subst e2; simp [hz, Rat.add_zero]
            · have e3 : ¬ j < i + 1 := by omega
              simp [e1, e3]
      · have hz' : ¬ (b i).num = 0 := by rwa [Rat.num_eq_zero]
        have e1 := T_times_ok (S1 ++ .lst L :: h) hone hfe (hx (by omega)) (hb i hi)
        have e2 := T_plus_ok (S1 ++ .lst L :: h) hfc (fr_frD (x * b i)) (hs i hi) (hp i hi)
        have hix : ixD (.loc S1.length) (.int i) (S1 ++ .lst L :: h) = some c := by rw [mid_ix, atI_n, hc]
        have hput := mid_put S1 h L (k := i) (by rw [hL.1]; exact hi) (frD (s i + x * b i))
        refine ⟨[p0, p1, p2, p3, some (.loc S1.length), some one, some other, some (.int i), some y], S1 ++ .lst (L.set i (frD (s i + x * b i))) :: h, by simp, ?_, _, _, _, rfl, rfl, hL.set hi (by simp; exact fr_frD _) fun j hj hji => ?_⟩
        · simp [ix8, hz', hix, e1, e2, hput]
        · by_cases e3 : j < i
          · simp [e3, Nat.lt_succ_of_lt e3]
          · have e4 : ¬ j < i + 1 := by omega
            simp [e3, e4]) [p0, p1, p2, p3, some (.loc S1.length), some one, some other, o7, o8] (S1 ++ .lst Mk :: h) ⟨Mk, o7, o8, rfl, rfl, hM.congr fun j _ => by simp⟩
  exact ⟨L, o7', o8', h1, h2.congr fun j hj => by simp [hj]⟩
noncomputable abbrev mm2 : EvS := (sIf (tBin (oBn cEq) (eIx (eVar 5) (eC (.int 0))) (eC (.int 0))) (sForW (iEn' (aCons (eVar 6) aNil)) (gTup' 2 (gCons' (gN 7) (gCons' (gN 8) gNil'))) mm3) sNil)
theorem mm_row {n : Nat} {S1 h : Sto} {A B : Mx} {d e row : D} {i : Nat} (hi : i < n) (hrow : rowR row n (en A i)) (he : matR e n B) (m : Ms n A B) (p2 o5 o6 o7 o8 : Option D) :
    ∃ Mk' o5' o6' o7' o8', sFor (iZip' (aCons (eVar 3) (aCons (eVar 1) aNil))) (gTup' 2 (gCons' (gN 5) (gCons' (gN 6) gNil'))) mm2 [some d, some e, p2, some row, some (.loc S1.length), o5, o6, o7, o8] (S1 ++ .lst (List.replicate n (.cst (List.map D.int [0, 1]))) :: h) =
      .nx [some d, some e, p2, some row, some (.loc S1.length), o5', o6', o7', o8'] (S1 ++ .lst Mk' :: h) ∧ frs n Mk' (en (mulM n A B) i) := by
  obtain ⟨xs, hx1, hx2, hx3⟩ := hrow
  obtain ⟨rs, hr1, hr2, hr3⟩ := he
  obtain ⟨env', S', h1, L, o5', o6', o7', o8', rfl, rfl, h2⟩ := forD_idx (g := gTup' 2 (gCons' (gN 5) (gCons' (gN 6) gNil'))) (f := mm2) n (ds := zipD xs rs) (by rw [zip_len, hx2, hr2]; exact Nat.min_self n)
    (fun k env S => ∃ L o5 o6 o7 o8, env = [some d, some e, p2, some row, some (.loc S1.length), o5, o6, o7, o8] ∧ S = S1 ++ .lst L :: h ∧ frs n L (fun j => sm k fun l => en A i l * en B l j))
    (by
      rintro k z env S hk hz ⟨L, o5, o6, o7, o8, rfl, rfl, hL⟩
      obtain ⟨a, r, ha, hr, rfl⟩ := zip_get hz
      obtain ⟨a', ha1, ha2⟩ := hx3 k hk
      rw [ha1] at ha; cases ha
      obtain ⟨r', hr4, os, ho1, ho2, ho3⟩ := hr3 k hk
      rw [hr4] at hr; cases hr
      refine ⟨([some d, some e, p2, some row, some (.loc S1.length), some a, some r, o7, o8], S1 ++ .lst L :: h), ?_⟩
      have ix5 : ixD a (.int 0) (S1 ++ .lst L :: h) = some (.int (en A i k).num) := fr_ix0 ha2
      by_cases hz : en A i k = 0
      · refine ⟨[some d, some e, p2, some row, some (.loc S1.length), some a, some r, o7, o8], S1 ++ .lst L :: h, by simp, ?_, L, _, _, _, _, rfl, rfl, hL.congr fun j hj => ?_⟩
        · have : (en A i k).num = 0 := by rw [hz]; rfl
          simp [ix5, this]
        · simp only [sm]; rw [hz]; simp [Rat.add_zero]
      · have hz' : ¬ (en A i k).num = 0 := by rwa [Rat.num_eq_zero]
        obtain ⟨Mk', o7', o8', h3, h4⟩ := mm_in (S1 := S1) (h := h) (other := r) ho2 ho3 ha2 hL (fun j hj => m.s i j k hi hj (by omega)) (fun _ => m.a i k hi hk) (fun j hj => m.b k j hk hj) (fun j hj => m.p i j k hi hj hk) (some d) (some e) p2 (some row) o7 o8
        refine ⟨[some d, some e, p2, some row, some (.loc S1.length), some a, some r, o7', o8'], S1 ++ .lst Mk' :: h, by simp, ?_, Mk', _, _, _, _, rfl, rfl, h4⟩
        (try simp at h3)
        simp [ix5, hz', ho1, h3]) [some d, some e, p2, some row, some (.loc S1.length), o5, o6, o7, o8] (S1 ++ .lst (List.replicate n (.cst (List.map D.int [0, 1]))) :: h) ⟨_, o5, o6, o7, o8, rfl, rfl, frs.zeros n⟩
  refine ⟨L, o5', o6', o7', o8', ?_, h2.congr fun j hj => en_mul hi hj⟩
  (try simp at h1)
  simp [hx1, hr1, h1]
noncomputable abbrev mm1 : EvS := (sSeq (sSet 4 (eMat (lMul (lDisp (aCons (eC (.cst (List.map D.int [0, 1]))) aNil)) (eCB gLenD (aCons (eVar 3) aNil)))))
    (sSeq (sFor (iZip' (aCons (eVar 3) (aCons (eVar 1) aNil))) (gTup' 2 (gCons' (gN 5) (gCons' (gN 6) gNil'))) mm2)
    (sExpr (eMet "list" gApp (eVar 2) (aCons (eCB gTupD (aCons (eVar 4) aNil)) aNil)))))
theorem seq_nx {f g : EvS} {env env1 : AEnv} {S S1 : Sto} {R : SRes} (h : f env S = .nx env1 S1) (h2 : g env1 S1 = R) : sSeq f g env S = R := by
  show sThen _ _ = _
  rw [h]; exact h2
theorem T_mul_ok {d e : D} {n : Nat} {A B : Mx} (hd : matR d n A) (he : matR e n B) (m : Ms n A B) (hn : n ≤ 1000) (S : Sto) : ∃ r g, T_multiplied_matrices [d, e] S = .ok r (S ++ g) ∧ matR r n (mulM n A B) := by
  have hLN : LN = 16777216 := rfl
  obtain ⟨rs, hr1, hr2, hr3⟩ := hd
  obtain ⟨env', S', h1, F, g, o3, o4, o5, o6, o7, o8, rfl, rfl, h2, h3⟩ := forD_idx (g := gN 3) (f := mm1) n (ds := rs) hr2
    (fun i env S1 => ∃ F g o3 o4 o5 o6 o7 o8, env = [some d, some e, some (.loc S.length), o3, o4, o5, o6, o7, o8] ∧ S1 = S ++ .lst F :: g ∧ F.length = i ∧ ∀ k, k < i → ∃ r, F[k]? = some r ∧ rowR r n (en (mulM n A B) k))
    (by
      rintro i row env S1 hi hrow ⟨F, g, o3, o4, o5, o6, o7, o8, rfl, rfl, hF1, hF2⟩
      obtain ⟨row', hr4, hr5⟩ := hr3 i hi
      rw [hr4] at hrow; cases hrow
      have hlen := hr5.len (S ++ .lst F :: g)
      obtain ⟨Mk', o5', o6', o7', o8', h4, h5⟩ := mm_row (S1 := S ++ .lst F :: g) (h := []) (d := d) hi hr5 he m (some (.loc S.length)) o5 o6 o7 o8
      refine ⟨([some d, some e, some (.loc S.length), some row, o4, o5, o6, o7, o8], S ++ .lst F :: g), [some d, some e, some (.loc S.length), some row, some (.loc (S ++ .lst F :: g).length), o5', o6', o7', o8'], S ++ .lst (F ++ [.tup Mk']) :: (g ++ [.lst Mk']), by simp, ?_, F ++ [.tup Mk'], g ++ [.lst Mk'], _, _, _, _, _, _, rfl, rfl, by simp [hF1], fun k hk => ?_⟩
      · refine seq_nx (env1 := [some d, some e, some (.loc S.length), some row, some (.loc (S ++ .lst F :: g).length), o5, o6, o7, o8]) (S1 := S ++ .lst F :: g ++ [.lst (List.replicate n (.cst (List.map D.int [0, 1])))]) ?_ (seq_nx (h4) ?_)
        · have hb := rngB_nat (show n < 1000000 by omega)
          have hq : n ≤ 16777216 := by omega
          have ef := flat_rep1 (D.cst [.int 0, .int 1]) n
          simp [hlen, hb, hq, ef]
        · have e1 : gTupD [.loc (S ++ .lst F :: g).length] (S ++ .lst F :: g ++ [.lst Mk']) = some (.tup Mk') := mid_tup (S ++ .lst F :: g) [] Mk'
          have e2 : gApp (.loc S.length) [.tup Mk'] (S ++ .lst F :: (g ++ [.lst Mk'])) = some (.non, S ++ .lst (F ++ [.tup Mk']) :: (g ++ [.lst Mk'])) := mid_app S (g ++ [.lst Mk']) F (by omega) _
          have e3 := mid_ty S (g ++ [.lst Mk']) F
          simp at e1 e2 e3
          simp [e1, e2, e3]
      · by_cases e1 : k < i
        · obtain ⟨r, a, b⟩ := hF2 k e1
          exact ⟨r, by rw [List.getElem?_append_left (by omega)]; exact a, b⟩
        · have : k = i := by omega
          subst this
          exact ⟨.tup Mk', by rw [List.getElem?_append_right (by omega), hF1]; simp, h5.row⟩) [some d, some e, some (.loc S.length), none, none, none, none, none, none] (S ++ [.lst []]) ⟨[], [], _, _, _, _, _, _, rfl, by simp, rfl, fun k hk => by omega⟩
  refine ⟨.tup F, .lst F :: g, ?_, ⟨F, rfl, h2, h3⟩⟩
  have e1 := mid_tup S g F
  simp [mm1, mm2, mm3] at h1; (try simp at e1)
  simp [T_multiplied_matrices, b_multiplied_matrices, hr1, h1, e1]
end DV
/-! R4: the law's own matrices: products, sums, zeros. -/
namespace DV
open PySem L2
theorem frs.push {n : Nat} {L : List D} {f : Nat → Rat} {e : D} (h : frs n L f) (he : fr? e (f n)) : frs (n + 1) (L ++ [e]) f := by
  refine ⟨by simp [h.1], fun j hj => ?_⟩
  by_cases e1 : j < n
  · obtain ⟨a, b, c⟩ := h.2 j e1
    exact ⟨a, by rw [List.getElem?_append_left (by rw [h.1]; exact e1)]; exact b, c⟩
  · have : j = n := by omega
    subst this
    exact ⟨e, by rw [List.getElem?_append_right (by rw [h.1]; omega), h.1]; simp, he⟩
theorem frs.nil (f : Nat → Rat) : frs 0 [] f := ⟨rfl, fun j hj => by omega⟩
abbrev lb3 : EvS := (sSet 6 (eCall 2 T__law_plus (aCons (eVar 6) (aCons (eCall 2 T__law_times (aCons (eIx (eVar 3) (eVar 7)) (aCons (eIx (eIx (eVar 1) (eVar 7)) (eVar 5)) aNil))) aNil))))
abbrev lb2 : EvS := (sSeq (sSet 6 (eTup (aCons (eC (.int 0)) (aCons (eC (.int 1)) aNil))))
    (sSeq (sFor (iRng1' (aCons (eCB gLenD (aCons (eVar 0) aNil)) aNil)) (gN 7) lb3)
    (sExpr (eMet "list" gApp (eVar 4) (aCons (eVar 6) aNil)))))
abbrev lb1 : EvS := (sSeq (sSet 4 (eMat (lDisp aNil)))
    (sSeq (sFor (iRng1' (aCons (eCB gLenD (aCons (eVar 0) aNil)) aNil)) (gN 5) lb2)
    (sExpr (eMet "list" gApp (eVar 2) (aCons (eCB gTupD (aCons (eVar 4) aNil)) aNil)))))
section
variable {n : Nat} {S : Sto} {A B : Mx} {d e row : D} {i k : Nat}
theorem lb_in (hd : matR d n A) (he : matR e n B) (hrow : rowR row n (en A i)) (m : Ms n A B) (hn : n ≤ 1000) (hi : i < n) (hk : k < n) (p2 p4 o7 : Option D) :
    ∃ z o7', sFor (iRng1' (aCons (eCB gLenD (aCons (eVar 0) aNil)) aNil)) (gN 7) lb3 [some d, some e, p2, some row, p4, some (.int k), some (.tup [.int 0, .int 1]), o7] S = .nx [some d, some e, p2, some row, p4, some (.int k), some z, o7'] S ∧ fr? z (en (mulM n A B) i k) := by
  obtain ⟨env', S', h1, z, o7', rfl, rfl, h2⟩ := forD_idx (g := gN 7) (f := lb3) n (ds := rngD 0 n) (rng_len 0 n)
    (fun j env S1 => ∃ z o7, env = [some d, some e, p2, some row, p4, some (.int k), some z, o7] ∧ S = S1 ∧ fr? z (sm j fun l => en A i l * en B l k))
    (by
      rintro j x env S1 hj hx ⟨z, o7, rfl, rfl, hz⟩
      have := rng_get hx; subst this
      obtain ⟨a, ha, hfa⟩ := hrow.ix hj S
      obtain ⟨r, hr, hfr⟩ := he.ix hj S
      obtain ⟨b, hb, hfb⟩ := hfr.ix hk S
      have e1 := T_law_times_ok S hfa hfb (m.a i j hi hj) (m.b j k hj hk)
      have e2 := T_law_plus_ok S hz (fr_frD _) (m.s i k j hi hk (by omega)) (m.p i k j hi hk hj)
      refine ⟨([some d, some e, p2, some row, p4, some (.int k), some z, some (.int j)], S), [some d, some e, p2, some row, p4, some (.int k), some (frD _), some (.int j)], S, by simp, ?_, _, _, rfl, rfl, fr_frD _⟩
      simp [ha, hr, hb, e1, e2, sm])
    [some d, some e, p2, some row, p4, some (.int k), some (.tup [.int 0, .int 1]), o7] S ⟨_, o7, rfl, rfl, fr_zeroT⟩
  refine ⟨z, o7', ?_, by rw [en_mul hi hk]; exact h2⟩
  have hr : iRng1K [.int n] S = .ok (rngD 0 n) S := rng1_nat S (by omega)
  simp at h1 hr
  simp [hd.len, hr, h1]
theorem lb_row (hd : matR d n A) (he : matR e n B) (hrow : rowR row n (en A i)) (m : Ms n A B) (hn : n ≤ 1000) (hi : i < n) (p2 o5 o6 o7 : Option D) :
    ∃ Mk o5' o6' o7', sFor (iRng1' (aCons (eCB gLenD (aCons (eVar 0) aNil)) aNil)) (gN 5) lb2 [some d, some e, p2, some row, some (.loc S.length), o5, o6, o7] (S ++ [.lst []]) = .nx [some d, some e, p2, some row, some (.loc S.length), o5', o6', o7'] (S ++ [.lst Mk]) ∧ frs n Mk (en (mulM n A B) i) := by
  have hLN : LN = 16777216 := rfl
  obtain ⟨env', S', h1, Mk, o5', o6', o7', rfl, rfl, h2⟩ := forD_idx (g := gN 5) (f := lb2) n (ds := rngD 0 n) (rng_len 0 n)
    (fun k env S1 => ∃ Mk o5 o6 o7, env = [some d, some e, p2, some row, some (.loc S.length), o5, o6, o7] ∧ S1 = S ++ [.lst Mk] ∧ frs k Mk (en (mulM n A B) i))
    (by
      rintro k x env S1 hk hx ⟨Mk, o5, o6, o7, rfl, rfl, hM⟩
      have := rng_get hx; subst this
      obtain ⟨z, o7', h3, h4⟩ := lb_in (S := S ++ [.lst Mk]) hd he hrow m hn hi hk p2 (some (.loc S.length)) o7
      refine ⟨([some d, some e, p2, some row, some (.loc S.length), some (.int k), o6, o7], S ++ [.lst Mk]), [some d, some e, p2, some row, some (.loc S.length), some (.int k), some z, o7'], S ++ [.lst (Mk ++ [z])], by simp, ?_, _, _, _, _, rfl, rfl, hM.push h4⟩
      refine seq_nx (env1 := [some d, some e, p2, some row, some (.loc S.length), some (.int k), some (.tup [.int 0, .int 1]), o7]) (by simp) (seq_nx h3 ?_)
      have e2 : gApp (.loc S.length) [z] (S ++ [.lst Mk]) = some (.non, S ++ [.lst (Mk ++ [z])]) := mid_app S [] Mk (by rw [hM.1]; omega) z
      have e3 : tyD "list" (.loc S.length) (S ++ [.lst Mk]) = true := mid_ty S [] Mk
      simp [e2, e3])
    [some d, some e, p2, some row, some (.loc S.length), o5, o6, o7] (S ++ [.lst []]) ⟨_, _, _, _, rfl, rfl, frs.nil _⟩
  refine ⟨Mk, o5', o6', o7', ?_, h2⟩
  have hr : iRng1K [.int n] (S ++ [.lst []]) = .ok (rngD 0 n) (S ++ [.lst []]) := rng1_nat _ (by omega)
  simp [lb2, lb3] at h1 hr
  simp [hd.len, hr, h1]
theorem T_law_by_ok (hd : matR d n A) (he : matR e n B) (m : Ms n A B) (hn : n ≤ 1000) (S : Sto) : ∃ r g, T__law_by [d, e] S = .ok r (S ++ g) ∧ matR r n (mulM n A B) := by
  have hLN : LN = 16777216 := rfl
  obtain ⟨rs, hr1, hr2, hr3⟩ := id hd
  obtain ⟨env', S', h1, F, g, o3, o4, o5, o6, o7, rfl, rfl, h2, h3⟩ := forD_idx (g := gN 3) (f := lb1) n (ds := rs) hr2
    (fun i env S1 => ∃ F g o3 o4 o5 o6 o7, env = [some d, some e, some (.loc S.length), o3, o4, o5, o6, o7] ∧ S1 = S ++ .lst F :: g ∧ F.length = i ∧ ∀ k, k < i → ∃ r, F[k]? = some r ∧ rowR r n (en (mulM n A B) k))
    (by
      rintro i row env S1 hi hrow ⟨F, g, o3, o4, o5, o6, o7, rfl, rfl, hF1, hF2⟩
      obtain ⟨row', hr4, hr5⟩ := hr3 i hi
      rw [hr4] at hrow; cases hrow
      obtain ⟨Mk', o5', o6', o7', h4, h5⟩ := lb_row (S := S ++ .lst F :: g) hd he hr5 m hn hi (some (.loc S.length)) o5 o6 o7
      refine ⟨([some d, some e, some (.loc S.length), some row, o4, o5, o6, o7], S ++ .lst F :: g), [some d, some e, some (.loc S.length), some row, some (.loc (S ++ .lst F :: g).length), o5', o6', o7'], S ++ .lst (F ++ [.tup Mk']) :: (g ++ [.lst Mk']), by simp, ?_, F ++ [.tup Mk'], g ++ [.lst Mk'], _, _, _, _, _, rfl, rfl, by simp [hF1], fun k hk => ?_⟩
      · refine seq_nx (env1 := [some d, some e, some (.loc S.length), some row, some (.loc (S ++ .lst F :: g).length), o5, o6, o7]) (S1 := S ++ .lst F :: g ++ [.lst []]) (by simp) (seq_nx h4 ?_)
        have e1 : gTupD [.loc (S ++ .lst F :: g).length] (S ++ .lst F :: g ++ [.lst Mk']) = some (.tup Mk') := mid_tup (S ++ .lst F :: g) [] Mk'
        have e2 : gApp (.loc S.length) [.tup Mk'] (S ++ .lst F :: (g ++ [.lst Mk'])) = some (.non, S ++ .lst (F ++ [.tup Mk']) :: (g ++ [.lst Mk'])) := mid_app S (g ++ [.lst Mk']) F (by omega) _
        have e3 := mid_ty S (g ++ [.lst Mk']) F
        simp at e1 e2 e3
        simp [e1, e2, e3]
      · by_cases e1 : k < i
        · obtain ⟨r, a, b⟩ := hF2 k e1
          exact ⟨r, by rw [List.getElem?_append_left (by omega)]; exact a, b⟩
        · have : k = i := by omega
          subst this
          exact ⟨.tup Mk', by rw [List.getElem?_append_right (by omega), hF1]; simp, h5.row⟩) [some d, some e, some (.loc S.length), none, none, none, none, none] (S ++ [.lst []]) ⟨[], [], _, _, _, _, _, rfl, by simp, rfl, fun k hk => by omega⟩
  refine ⟨.tup F, .lst F :: g, ?_, ⟨F, rfl, h2, h3⟩⟩
  have e1 := mid_tup S g F
  simp [lb1, lb2, lb3] at h1; (try simp at e1)
  simp [T__law_by, b__law_by, hr1, h1, e1]
/-- small enough to be added with a factor -/
structure As (n : Nat) (A B : Mx) (c : Rat) : Prop where
  a : ∀ i j, i < n → j < n → Sm (en A i j)
  b : ∀ i j, i < n → j < n → Sm (en B i j)
  cc : Sm c
  p : ∀ i j, i < n → j < n → Sm (en B i j * c)
/-- a tuple of tuples -/
def tupM (d : D) : Prop := ∃ rows, d = .tup rows ∧ ∀ r ∈ rows, ∃ es, r = .tup es
abbrev lw1 : EvS := (sExpr (eMet "list" gApp (eVar 3) (aCons (eOfL gTup (lComp [5] (iRng1' (aCons (eCB gLenD (aCons (eVar 0) aNil)) aNil)) (gN 5) tYes' (eCall 2 T__law_plus (aCons (eIx (eIx (eVar 0) (eVar 4)) (eVar 5)) (aCons (eCall 2 T__law_times (aCons (eIx (eIx (eVar 1) (eVar 4)) (eVar 5)) (aCons (eVar 2) aNil))) aNil))))) aNil)))
theorem T_law_with_ok {c : Rat} {f : D} (hd : matR d n A) (he : matR e n B) (hf : fr? f c) (m : As n A B c) (hn : n ≤ 1000) (S : Sto) : ∃ r g, T__law_with [d, e, f] S = .ok r (S ++ g) ∧ matR r n (withM n A B c) ∧ tupM r := by
  have hLN : LN = 16777216 := rfl
  obtain ⟨env', S', h1, F, o4, o5, rfl, rfl, h2, h3⟩ := forD_idx (g := gN 4) (f := lw1) n (ds := rngD 0 n) (rng_len 0 n)
    (fun i env S1 => ∃ F o4 o5, env = [some d, some e, some f, some (.loc S.length), o4, o5] ∧ S1 = S ++ [.lst F] ∧ F.length = i ∧ ∀ k, k < i → ∃ r, F[k]? = some r ∧ rowR r n (en (withM n A B c) k) ∧ ∃ es, r = .tup es)
    (by
      rintro i x env S1 hi hx ⟨F, o4, o5, rfl, rfl, hF1, hF2⟩
      have := rng_get hx; subst this
      obtain ⟨ra, ha1, ha2⟩ := hd.ix hi (S ++ [.lst F])
      obtain ⟨rb, hb1, hb2⟩ := he.ix hi (S ++ [.lst F])
      obtain ⟨ys, k1, k2, k3⟩ := compD_pure (vs := [5]) (g := gN 5) (te := (eCall 2 T__law_plus (aCons (eIx (eIx (eVar 0) (eVar 4)) (eVar 5)) (aCons (eCall 2 T__law_times (aCons (eIx (eIx (eVar 1) (eVar 4)) (eVar 5)) (aCons (eVar 2) aNil))) aNil)))) (env := [some d, some e, some f, some (.loc S.length), some (.int i), o5]) (S := S ++ [.lst F]) n (ds := rngD 0 n) (rng_len 0 n) (fun j y => fr? y (en (withM n A B c) i j)) (by omega) (by
        intro j x hj hx
        have := rng_get hx; subst this
        obtain ⟨ea, ha3, ha4⟩ := ha2.ix hj (S ++ [.lst F])
        obtain ⟨eb, hb3, hb4⟩ := hb2.ix hj (S ++ [.lst F])
        have e1 := T_law_times_ok (S ++ [.lst F]) hb4 hf (m.b i j hi hj) m.cc
        have e2 := T_law_plus_ok (S ++ [.lst F]) ha4 (fr_frD _) (m.a i j hi hj) (m.p i j hi hj)
        refine ⟨[some d, some e, some f, some (.loc S.length), some (.int i), some (.int j)], frD _, by simp [wipeA], ?_, by rw [en_with hi hj]; exact fr_frD _⟩
        simp [ha1, ha3, hb1, hb3, e1, e2])
      have hr : iRng1K [.int n] (S ++ [.lst F]) = .ok (rngD 0 n) (S ++ [.lst F]) := rng1_nat _ (by omega)
      have e2 : gApp (.loc S.length) [.tup ys] (S ++ [.lst F]) = some (.non, S ++ [.lst (F ++ [.tup ys])]) := mid_app S [] F (by omega) _
      have e3 : tyD "list" (.loc S.length) (S ++ [.lst F]) = true := mid_ty S [] F
      refine ⟨([some d, some e, some f, some (.loc S.length), some (.int i), o5], S ++ [.lst F]), [some d, some e, some f, some (.loc S.length), some (.int i), o5], S ++ [.lst (F ++ [.tup ys])], by simp, ?_, _, _, _, rfl, rfl, by simp [hF1], fun k hk => ?_⟩
      · simp at hr k1
        simp [e3, hd.len, hr, k1, e2]
      · by_cases e1 : k < i
        · obtain ⟨r, a, b, c⟩ := hF2 k e1
          exact ⟨r, by rw [List.getElem?_append_left (by omega)]; exact a, b, c⟩
        · have : k = i := by omega
          subst this
          exact ⟨.tup ys, by rw [List.getElem?_append_right (by omega), hF1]; simp, ⟨ys, rfl, k2, k3⟩, ys, rfl⟩) [some d, some e, some f, some (.loc S.length), none, none] (S ++ [.lst []]) ⟨[], _, _, rfl, rfl, rfl, fun k hk => by omega⟩
  refine ⟨.tup F, [.lst F], ?_, ⟨F, rfl, h2, fun i hi => let ⟨e, a, b, _⟩ := h3 i hi; ⟨e, a, b⟩⟩, F, rfl, fun r hr => ?_⟩
  rotate_left
  · obtain ⟨i, hi, e⟩ := List.mem_iff_getElem.mp hr
    obtain ⟨r', a, _, b⟩ := h3 i (by omega)
    rw [List.getElem?_eq_getElem hi, e] at a; cases a; exact b
  have e1 : gTupD [.loc S.length] (S ++ [.lst F]) = some (.tup F) := mid_tup S [] F
  have hr : iRng1K [.int n] (S ++ [.lst []]) = .ok (rngD 0 n) (S ++ [.lst []]) := rng1_nat _ (by omega)
  simp [lw1] at h1 hr
  simp [T__law_with, b__law_with, hd.len, hr, h1, e1]
theorem mul_rep1 {n : Nat} (x : D) (hn : 0 < n) (hn3 : n ≤ 1000) : oMul (.tup [x]) (.int n) = some (.tup (List.replicate n x)) := by
  show (if [x] ≠ [] ∧ 1 ≤ (n : Int) ∧ (n : Int) ≤ 1000 ∧ [x].length ≤ 1000 then some (D.tup (List.replicate (n : Int).toNat [x]).flatten) else none) = _
  rw [if_pos ⟨by simp, by omega, by omega, by simp⟩, Int.toNat_natCast, flat_rep1]
theorem T_law_zeros_ok (hn0 : 0 < n) (hn : n ≤ 1000) (S : Sto) : ∃ r, T__law_zeros [.int n] S = .ok r S ∧ matR r n (zeroM n) := by
  have m1 := mul_rep1 (.tup [.int 0, .int 1]) hn0 hn
  have m2 := mul_rep1 (.tup (List.replicate n (.tup [.int 0, .int 1]))) hn0 hn
  refine ⟨.tup (List.replicate n (.tup (List.replicate n (.tup [.int 0, .int 1])))), by simp [T__law_zeros, b__law_zeros, m1, m2], _, rfl, by simp, fun i hi => ⟨.tup (List.replicate n (.tup [.int 0, .int 1])), by rw [List.getElem?_replicate, if_pos hi], _, rfl, by simp, fun j hj => ⟨.tup [.int 0, .int 1], by rw [List.getElem?_replicate, if_pos hj], by rw [en_zero hi hj]; exact fr_zeroT⟩⟩⟩
end
end DV
/-! R5: data; fractions. -/
namespace DV
open PySem L2
mutual
/-- data of ints below 2 ^ 20, texts, tuples -/
def gd : D → Bool
  | .non => true
  | .bl _ => true
  | .int i => Nat.blt i.natAbs (2 ^ 20)
  | .str _ => true
  | .tup ds => Nat.ble ds.length 6 && gds ds
  | .cst ds => Nat.ble ds.length 6 && gds ds
  | .fup ds => Nat.ble ds.length 6 && gds ds
  | .loc _ => false
def gds : List D → Bool
  | [] => true
  | d :: ds => gd d && gds ds
end
theorem gds_mem : ∀ {ds : List D}, gds ds = true → ∀ d ∈ ds, gd d = true
  | [], _, _, h => by cases h
  | d :: ds, h, x, hx => by
    simp only [gds, Bool.and_eq_true] at h
    rcases List.mem_cons.mp hx with rfl | hx
    · exact h.1
    · exact gds_mem h.2 x hx
theorem gds_of : ∀ {ds : List D}, (∀ d ∈ ds, gd d = true) → gds ds = true
  | [], _ => rfl
  | d :: ds, h => by
    simp only [gds, Bool.and_eq_true]
    exact ⟨h d List.mem_cons_self, gds_of fun x hx => h x (List.mem_cons_of_mem _ hx)⟩
theorem gd_seq {d : D} {ds : List D} (h : gd d = true) (e : d.seq? = some ds) : ds.length ≤ 6 ∧ ∀ x ∈ ds, gd x = true := by
  cases d with
  | tup xs => simp [D.seq?] at e; subst e; simp only [gd, Bool.and_eq_true, Nat.ble_eq] at h; exact ⟨h.1, gds_mem h.2⟩
  | cst xs => simp [D.seq?] at e; subst e; simp only [gd, Bool.and_eq_true, Nat.ble_eq] at h; exact ⟨h.1, gds_mem h.2⟩
  | fup xs => simp [D.seq?] at e; subst e; simp only [gd, Bool.and_eq_true, Nat.ble_eq] at h; exact ⟨h.1, gds_mem h.2⟩
  | _ => simp [D.seq?] at e
theorem gd_int {i : Int} (h : gd (.int i) = true) : i.natAbs < 2 ^ 20 := by
  simp only [gd, Nat.blt_eq] at h; exact h
def isI : D → Bool
  | .int _ => true
  | _ => false
def isIB : D → Bool
  | .int _ => true
  | .bl _ => true
  | _ => false
def isB : D → Bool
  | .bl _ => true
  | _ => false
theorem kit_vals : kitB "NoneType" "tuple" = some false ∧ kitB "bool" "tuple" = some false ∧ kitB "int" "tuple" = some false ∧ kitB "str" "tuple" = some false ∧ kitB "tuple" "tuple" = some true ∧
    kitB "NoneType" "int" = some false ∧ kitB "bool" "int" = some true ∧ kitB "int" "int" = some true ∧ kitB "str" "int" = some false ∧ kitB "tuple" "int" = some false ∧
    kitB "NoneType" "bool" = some false ∧ kitB "bool" "bool" = some true ∧ kitB "int" "bool" = some false ∧ kitB "str" "bool" = some false ∧ kitB "tuple" "bool" = some false := by
  refine ⟨?_, ?_, ?_, ?_, ?_, ?_, ?_, ?_, ?_, ?_, ?_, ?_, ?_, ?_, ?_⟩ <;> decide +kernel
theorem isi_tuple {d : D} (S : Sto) (h : gd d = true) : isiD "tuple" d S = some (.bl d.seq?.isSome) := by
  obtain ⟨a1, a2, a3, a4, a5, _⟩ := kit_vals
  cases d <;> simp [isiD, tyN, D.seq?, a1, a2, a3, a4, a5] <;> simp [gd] at h
theorem isi_int {d : D} (S : Sto) (h : gd d = true) : isiD "int" d S = some (.bl (isIB d)) := by
  obtain ⟨_, _, _, _, _, a1, a2, a3, a4, a5, _⟩ := kit_vals
  cases d <;> simp [isiD, tyN, isIB, a1, a2, a3, a4, a5] <;> simp [gd] at h
theorem isi_bool {d : D} (S : Sto) (h : gd d = true) : isiD "bool" d S = some (.bl (isB d)) := by
  obtain ⟨_, _, _, _, _, _, _, _, _, _, a1, a2, a3, a4, a5⟩ := kit_vals
  cases d <;> simp [isiD, tyN, isB, a1, a2, a3, a4, a5] <;> simp [gd] at h
theorem T_is_integer_ok {d : D} (S : Sto) (h : gd d = true) : T_is_integer [d] S = .ok (.bl (isI d)) S := by
  simp [T_is_integer, b_is_integer, isi_int S h, isi_bool S h]
  cases d <;> simp [isI, isIB, isB]
theorem T_law_is_integer_ok {d : D} (S : Sto) (h : gd d = true) : T__law_is_integer [d] S = .ok (.bl (isI d)) S := by
  simp [T__law_is_integer, b__law_is_integer, isi_int S h, isi_bool S h]
  cases d <;> simp [isI, isIB, isB]
theorem isI_some {d : D} (h : isI d = true) : ∃ i, d = .int i := by
  cases d <;> simp [isI] at h
  exact ⟨_, rfl⟩
@[simp] theorem tru_bl (b : Bool) (S : Sto) : truD (.bl b) S = some b := by simp [truD]
theorem len_D {d : D} {ds : List D} (S : Sto) (h : d.seq? = some ds) : gLenD [d] S = some (.int ds.length) := len_seq S h
/-- a fraction in lowest terms -/
def isR (d : D) : Bool := match d.seq? with
  | some [.int a, .int b] => decide (0 < b) && decide (Int.gcd a b = 1)
  | _ => false
theorem isR_no {d a b : D} (hd : d.seq? = some [a, b]) (h : isI a = false ∨ isI b = false) : isR d = false := by
  unfold isR
  rw [hd]
  split
  · rename_i e; cases e; simp [isI] at h
  · rfl
theorem isR_len {d : D} {ds : List D} (hd : d.seq? = some ds) (h : ds.length ≠ 2) : isR d = false := by
  unfold isR
  rw [hd]
  split
  · rename_i e; cases e; simp at h
  · rfl
theorem two_of {ds : List D} (h : ds.length = 2) : ∃ a b, ds = [a, b] := by
  match ds, h with
  | [a, b], _ => exact ⟨a, b, rfl⟩
theorem gcd1 (a b : Int) : (((Int.gcd a b : Nat) : Int) = 1) ↔ Int.gcd a b = 1 := by omega
theorem T_is_ratio_ok {d : D} (S : Sto) (h : gd d = true) : T_is_ratio [d] S = .ok (.bl (isR d)) S := by
  have ht := isi_tuple S h
  cases hd : d.seq? with
  | none =>
    rw [hd] at ht
    simp [T_is_ratio, b_is_ratio, ht, isR, hd]
  | some ds =>
    rw [hd] at ht
    have hl := len_D S hd
    by_cases h2 : ds.length = 2
    · obtain ⟨a, b, rfl⟩ := two_of h2
      obtain ⟨_, hg⟩ := gd_seq h hd
      have i0 : ixD d (.int 0) S = some a := by rw [ix_seq hd]; rfl
      have i1 : ixD d (.int 1) S = some b := by rw [ix_seq hd]; rfl
      have ta := T_is_integer_ok S (hg a (by simp))
      have tb := T_is_integer_ok S (hg b (by simp))
      cases ha : isI a with
      | false =>
        rw [ha] at ta
        have e := isR_no hd (.inl ha)
        simp [T_is_ratio, b_is_ratio, ht, hl, i0, i1, ta, tb, e]
      | true =>
        cases hb : isI b with
        | false =>
          rw [ha] at ta; rw [hb] at tb
          have e := isR_no hd (.inr hb)
          simp [T_is_ratio, b_is_ratio, ht, hl, i0, i1, ta, tb, e]
        | true =>
          rw [ha] at ta; rw [hb] at tb
          obtain ⟨i, rfl⟩ := isI_some ha
          obtain ⟨j, rfl⟩ := isI_some hb
          have e : isR d = (decide (0 < j) && decide (Int.gcd i j = 1)) := by unfold isR; rw [hd]
          rw [e]
          by_cases hj : 0 < j <;> simp [T_is_ratio, b_is_ratio, ht, hl, i0, i1, ta, tb, hj, T_common_divisor_ok, gcd1]
    · have h2' : ¬ ((ds.length : Int) = 2) := by omega
      simp [T_is_ratio, b_is_ratio, ht, hl, h2', isR_len hd h2]
theorem isR_num {d : D} (h : gd d = true) (g : isR d = true) : ∃ x : Rat, fr? d x ∧ x.num.natAbs < 2 ^ 20 ∧ x.den < 2 ^ 20 := by
  unfold isR at g
  split at g
  · rename_i a b e
    rw [Bool.and_eq_true, decide_eq_true_eq, decide_eq_true_eq] at g
    obtain ⟨_, hg⟩ := gd_seq h e
    have ga := gd_int (hg (.int a) (by simp))
    have gb := gd_int (hg (.int b) (by simp))
    obtain ⟨n, rfl⟩ := Int.eq_ofNat_of_zero_le (show 0 ≤ b by omega)
    have hn : n ≠ 0 := by omega
    have hg1 : Nat.gcd a.natAbs n = 1 := by have := g.2; simpa [Int.gcd] using this
    refine ⟨⟨a, n, hn, hg1⟩, e, ga, by simpa using gb⟩
  · cases g
abbrev hdBody : EvS := (sSet 2 (eBin oMul (eVar 2) (eBin oPow (eC (.int 10)) (eC (.int 50)))))
theorem hd_loop (one : D) (S : Sto) : forD (gN 3) hdBody (rngD 0 4) [some one, some (.int 200), some (.int 1), none] S = .nx [some one, some (.int 200), some (.int (10 ^ 200)), some (.int 3)] S := by rfl
theorem T_has_digits_ok {d : D} {x : Rat} (S : Sto) (h : fr? d x) (h1 : x.num.natAbs < 2 ^ 20) (h2 : x.den < 2 ^ 20) : T_has_digits [d, .int 200] S = .ok (.bl true) S := by
  have e1 : (if x.num < 0 then -x.num else x.num) = (x.num.natAbs : Int) := by split <;> omega
  have l1 : (2 : Nat) ^ 20 < 10 ^ 200 := by decide
  have b1 : ((x.num.natAbs : Nat) : Int) < 10 ^ 200 := by exact_mod_cast Nat.lt_trans h1 l1
  have b2 : ((x.den : Nat) : Int) < 10 ^ 200 := by exact_mod_cast Nat.lt_trans h2 l1
  have hr : iRng1K [.int 4] S = .ok (rngD 0 4) S := rng1_nat (j := 4) S (by decide)
  have l2 : Nat.log2 50 < 9000 := by decide
  have hl := hd_loop d S
  generalize (10 : Int) ^ 200 = z at *
  simp at hr hl
  simp [T_has_digits, b_has_digits, l2, hr, hl, fr_ix0 h, fr_ix1 h, e1, b1, b2]
end DV
/-! R6: what has the form of a matrix. -/
namespace DV
open PySem L2
/-- a loop that looks at its items, and gives False at the first one that is not right -/
theorem forD_chk {g : GvT} {f : EvS} : ∀ (n : Nat) {ds : List D} (hl : ds.length = n) (P : Nat → Prop) (I : AEnv → Sto → Prop) (J : Sto → Prop)
    (step : ∀ i d env S, i < n → ds[i]? = some d → I env S → ∃ q, g d env S = some q ∧ ((P i ∧ ∃ env' S', f q.1 q.2 = .nx env' S' ∧ I env' S') ∨ (¬ P i ∧ ∃ S', f q.1 q.2 = .ret (.bl false) S' ∧ J S'))) (env : AEnv) (S : Sto) (h : I env S),
    ((∀ i, i < n → P i) ∧ ∃ env' S', forD g f ds env S = .nx env' S' ∧ I env' S') ∨ ((¬ ∀ i, i < n → P i) ∧ ∃ S', forD g f ds env S = .ret (.bl false) S' ∧ J S')
  | 0, [], _, P, I, J, step, env, S, h => .inl ⟨fun i hi => by omega, env, S, rfl, h⟩
  | 0, d :: ds, hl, P, I, J, step, env, S, h => by simp at hl
  | n + 1, [], hl, P, I, J, step, env, S, h => by simp at hl
  | n + 1, d :: ds, hl, P, I, J, step, env, S, h => by
    obtain ⟨q, hq, ⟨p0, env1, S1, b, c⟩ | ⟨p0, S1, b, c⟩⟩ := step 0 d env S (by omega) rfl h
    · rcases forD_chk (g := g) (f := f) n (ds := ds) (by simpa using hl) (fun i => P (i + 1)) I J (fun i d' env S hi hd => step (i + 1) d' env S (by omega) (by simpa using hd)) env1 S1 c with ⟨h1, env2, S2, h2, h3⟩ | ⟨h1, S2, h2, h3⟩
      · refine .inl ⟨fun i hi => ?_, env2, S2, ?_, h3⟩
        · cases i with
          | zero => exact p0
          | succ i => exact h1 i (by omega)
        · unfold forD; rw [hq]; simp only; rw [b]; exact h2
      · refine .inr ⟨fun z => h1 fun i hi => z (i + 1) (by omega), S2, ?_, h3⟩
        unfold forD; rw [hq]; simp only; rw [b]; exact h2
    · refine .inr ⟨fun z => p0 (z 0 (by omega)), S1, ?_, c⟩
      unfold forD; rw [hq]; simp only; rw [b]
theorem forW_chk {g : GvT} {f : EvS} : ∀ (n : Nat) {ds : List D} (hl : ds.length = n) (P : Nat → Prop) (I : AEnv → Sto → Prop) (J : Sto → Prop)
    (step : ∀ i d env S, i < n → ds[i]? = some d → I env S → ∃ q, g d env S = some q ∧ ((P i ∧ ∃ env' S', f q.1 q.2 = .nx env' S' ∧ I env' S') ∨ (¬ P i ∧ ∃ S', f q.1 q.2 = .ret (.bl false) S' ∧ J S'))) (env : AEnv) (S : Sto) (h : I env S),
    ((∀ i, i < n → P i) ∧ ∃ env' S', forW [] g f ds env S = .nx env' S' ∧ I env' S') ∨ ((¬ ∀ i, i < n → P i) ∧ ∃ S', forW [] g f ds env S = .ret (.bl false) S' ∧ J S')
  | 0, [], _, P, I, J, step, env, S, h => .inl ⟨fun i hi => by omega, env, S, by unfold forW; rw [if_pos (cw_nil S)], h⟩
  | 0, d :: ds, hl, P, I, J, step, env, S, h => by simp at hl
  | n + 1, [], hl, P, I, J, step, env, S, h => by simp at hl
  | n + 1, d :: ds, hl, P, I, J, step, env, S, h => by
    obtain ⟨q, hq, ⟨p0, env1, S1, b, c⟩ | ⟨p0, S1, b, c⟩⟩ := step 0 d env S (by omega) rfl h
    · rcases forW_chk (g := g) (f := f) n (ds := ds) (by simpa using hl) (fun i => P (i + 1)) I J (fun i d' env S hi hd => step (i + 1) d' env S (by omega) (by simpa using hd)) env1 S1 c with ⟨h1, env2, S2, h2, h3⟩ | ⟨h1, S2, h2, h3⟩
      · refine .inl ⟨fun i hi => ?_, env2, S2, ?_, h3⟩
        · cases i with
          | zero => exact p0
          | succ i => exact h1 i (by omega)
        · unfold forW; rw [if_pos (cw_nil S), hq]; simp only; rw [b]; exact h2
      · refine .inr ⟨fun z => h1 fun i hi => z (i + 1) (by omega), S2, ?_, h3⟩
        unfold forW; rw [if_pos (cw_nil S), hq]; simp only; rw [b]; exact h2
    · refine .inr ⟨fun z => p0 (z 0 (by omega)), S1, ?_, c⟩
      unfold forW; rw [if_pos (cw_nil S), hq]; simp only; rw [b]
theorem all_bls {ds : List D} (f : D → Bool) : gAll (ds.map fun x => D.bl (f x)) = some (.bl (ds.all f)) := by
  unfold gAll
  have : bls? (ds.map fun x => D.bl (f x)) = some (ds.map f) := by
    rw [show (ds.map fun x => D.bl (f x)) = (ds.map f).map D.bl by rw [List.map_map]; rfl, bls?_map]
  rw [this]
  simp [List.all_map, Function.comp_def]
/-- a comprehension of truth values over the parts of data -/
theorem comp_bls {vs : List Nat} {g : GvT} {te : EvE} {env : AEnv} {S : Sto} {ds : List D} (f : D → Bool) (k : ∀ x ∈ ds, ∃ env1, g x (wipeA env vs) S = some (env1, S) ∧ te env1 S = .ok (.bl (f x)) S) (hl : ds.length ≤ LN) :
    compD vs g tYes' te env ds [] S = .ok (ds.map fun x => D.bl (f x)) S := by
  have ec := compD_map (vs := vs) (g := g) (q := tYes') (te := te) (env := env) (S := S) (fun x : D => x) (fun _ => true) (fun x => D.bl (f x)) ds [] (fun x hx => by
    obtain ⟨env1, h1, h2⟩ := k x hx
    exact ⟨env1, h1, rfl, fun _ => h2⟩) (by simpa using hl)
  rw [List.map_id', List.filter_eq_self.mpr (fun _ _ => rfl), List.nil_append] at ec
  exact ec
def rowOk (m : Nat) (r : D) : Bool := match r.seq? with
  | some es => decide (es.length = m) && es.all isR
  | none => false
def isMx (d : D) : Bool := match d.seq? with
  | some rows => decide (0 < rows.length) && rows.all (rowOk rows.length)
  | none => false
theorem LN20 {n : Nat} (h : n ≤ 6) : n ≤ LN := Nat.le_trans h (by decide)
theorem all_iff {ds : List D} {p : D → Bool} : ds.all p = true ↔ ∀ i, i < ds.length → ∃ d, ds[i]? = some d ∧ p d = true := by
  rw [List.all_eq_true]
  constructor
  · intro h i hi
    exact ⟨ds[i], List.getElem?_eq_getElem hi, h _ (List.getElem_mem hi)⟩
  · intro h x hx
    obtain ⟨i, hi, e⟩ := List.mem_iff_getElem.mp hx
    obtain ⟨d, h1, h2⟩ := h i hi
    rw [List.getElem?_eq_getElem hi, e] at h1
    cases h1; exact h2
theorem mem_get {ds : List D} {i : Nat} {d : D} (h : ds[i]? = some d) : d ∈ ds := List.mem_of_getElem? h
theorem gget {ds : List D} {p : D → Bool} {i : Nat} {d : D} (h : ds[i]? = some d) : (∃ e, ds[i]? = some e ∧ p e = true) ↔ p d = true := by
  constructor
  · rintro ⟨e, h1, h2⟩; rw [h] at h1; cases h1; exact h2
  · intro z; exact ⟨d, h, z⟩
abbrev imBody : EvS := (sSeq (sIf (bOr (bNot (tTru (eIsi "tuple" (eVar 1)))) (tBin (oBn cEq) (eCB gLenD (aCons (eVar 1) aNil)) (eCB gLenD (aCons (eVar 0) aNil)))) (sRet (eC (.bl false))) sNil)
    (sIf (bNot (tTru (eOfL gAll (lComp [2] (iTup' (eVar 1)) (gN 2) tYes' (eAnd (eCall 1 T_is_ratio (aCons (eVar 2) aNil)) (eCall 2 T_has_digits (aCons (eVar 2) (aCons (eC (.int 200)) aNil)))))))) (sRet (eC (.bl false))) sNil))
theorem T_is_matrix_ok {d : D} (S : Sto) (h : gd d = true) : T_is_matrix [d] S = .ok (.bl (isMx d)) S := by
  have ht := isi_tuple S h
  cases hd : d.seq? with
  | none =>
    rw [hd] at ht
    simp [T_is_matrix, b_is_matrix, ht, isMx, hd]
  | some ds =>
    rw [hd] at ht
    have hl := len_D S hd
    obtain ⟨hlen, hg⟩ := gd_seq h hd
    by_cases h0 : ds.length = 0
    · have e : isMx d = false := by unfold isMx; rw [hd]; simp [h0]
      simp [T_is_matrix, b_is_matrix, ht, hl, h0, e]
    · have c1 : (1 : Int) ≤ ds.length := by omega
      have c2 : ((ds.length : Nat) : Int) ≤ 24 := by omega
      have key := forD_chk (g := gN 1) (f := imBody) ds.length (ds := ds) rfl (fun i => ∃ r, ds[i]? = some r ∧ rowOk ds.length r = true) (fun env S1 => (∃ o1 o2, env = [some d, o1, o2]) ∧ S = S1) (fun S1 => S1 = S)
        (by
          rintro i r env S1 hi hr ⟨⟨o1, o2, rfl⟩, rfl⟩
          refine ⟨([some d, some r, o2], S), by simp, ?_⟩
          rw [gget hr]
          have gr := hg r (mem_get hr)
          have ht2 := isi_tuple S gr
          cases hrs : r.seq? with
          | none =>
            rw [hrs] at ht2
            exact .inr ⟨by simp [rowOk, hrs], S, by simp [ht2], rfl⟩
          | some es =>
            rw [hrs] at ht2
            have hl2 := len_D S hrs
            obtain ⟨hlen2, hg2⟩ := gd_seq gr hrs
            by_cases e1 : es.length = ds.length
            · have ec := comp_bls (vs := [2]) (g := gN 2) (te := (eAnd (eCall 1 T_is_ratio (aCons (eVar 2) aNil)) (eCall 2 T_has_digits (aCons (eVar 2) (aCons (eC (.int 200)) aNil))))) (env := [some d, some r, o2]) (S := S) (ds := es) isR
                (fun x hx => ⟨[some d, some r, some x], by simp [wipeA], by
                  have t1 := T_is_ratio_ok S (hg2 x hx)
                  cases hx2 : isR x with
                  | false => rw [hx2] at t1; simp [t1]
                  | true =>
                    rw [hx2] at t1
                    obtain ⟨y, a1, a2, a3⟩ := isR_num (hg2 x hx) hx2
                    have t2 := T_has_digits_ok S a1 a2 a3
                    simp [t1, t2]⟩) (LN20 hlen2)
              have ea := all_bls (ds := es) isR
              cases hall : es.all isR with
              | true =>
                rw [hall] at ea
                exact .inl ⟨by simp [rowOk, hrs, e1, hall], [some d, some r, o2], S, by simp [ht2, hl2, hl, e1, hrs, ec, ea], ⟨_, _, rfl⟩, rfl⟩
              | false =>
                rw [hall] at ea
                exact .inr ⟨by simp [rowOk, hrs, e1, hall], S, by simp [ht2, hl2, hl, e1, hrs, ec, ea], rfl⟩
            · have e2 : ¬ ((es.length : Int) = ds.length) := by omega
              exact .inr ⟨by simp [rowOk, hrs, e1], S, by simp [ht2, hl2, hl, e2], rfl⟩)
        [some d, none, none] S ⟨⟨none, none, rfl⟩, rfl⟩
      rw [← all_iff] at key
      rcases key with ⟨k1, env', S', k2, ⟨o1, o2, rfl⟩, rfl⟩ | ⟨k1, S', k2, rfl⟩
      · have e : isMx d = true := by unfold isMx; rw [hd]; simp only; rw [k1, decide_eq_true (show 0 < ds.length by omega)]; rfl
        simp [T_is_matrix, b_is_matrix, ht, hl, c1, c2, hd, k2, e]
      · have e : isMx d = false := by unfold isMx; rw [hd]; simp only; rw [Bool.not_eq_true] at k1; rw [k1, Bool.and_false]
        simp [T_is_matrix, b_is_matrix, ht, hl, c1, c2, hd, k2, e]
abbrev le2 : EvS := (sSeq (sIf (bOr (bNot (tTru (eIsi "tuple" (eVar 2)))) (bOr (tBin (oBn cEq) (eCB gLenD (aCons (eVar 2) aNil)) (eC (.int 2))) (bNot (tTru (eOfL gAll (lComp [3] (iTup' (eVar 2)) (gN 3) tYes' (eCall 1 T__law_is_integer (aCons (eVar 3) aNil)))))))) (sRet (eC (.bl false))) sNil)
    (sIf (bOr (tBin (oBl cLt) (eIx (eVar 2) (eC (.int 1))) (eC (.int 1))) (tBin (oBn cEq) (eCall 2 T__law_divisor (aCons (eIx (eVar 2) (eC (.int 0))) (aCons (eIx (eVar 2) (eC (.int 1))) aNil))) (eC (.int 1)))) (sRet (eC (.bl false))) sNil))
/-- one entry -/
theorem le_entry {p0 p1 o3 : Option D} {x : D} (S : Sto) (gx : gd x = true) :
    (isR x = true ∧ le2 [p0, p1, some x, o3] S = .nx [p0, p1, some x, o3] S) ∨ (isR x = false ∧ le2 [p0, p1, some x, o3] S = .ret (.bl false) S) := by
  have ht := isi_tuple S gx
  cases hd : x.seq? with
  | none =>
    rw [hd] at ht
    exact .inr ⟨by simp [isR, hd], by simp [ht]⟩
  | some ds =>
    rw [hd] at ht
    have hl := len_D S hd
    by_cases h2 : ds.length = 2
    · obtain ⟨a, b, rfl⟩ := two_of h2
      obtain ⟨_, hg⟩ := gd_seq gx hd
      have i0 : ixD x (.int 0) S = some a := by rw [ix_seq hd]; rfl
      have i1 : ixD x (.int 1) S = some b := by rw [ix_seq hd]; rfl
      have ta := T_law_is_integer_ok S (hg a (by simp))
      have tb := T_law_is_integer_ok S (hg b (by simp))
      have ec : compD [3] (gN 3) tYes' (eCall 1 T__law_is_integer (aCons (eVar 3) aNil)) [p0, p1, some x, o3] [a, b] [] S = .ok [.bl (isI a), .bl (isI b)] S := by
        simp [compD, wipeA, ta, tb]
      cases ha : isI a with
      | false =>
        rw [ha] at ec
        exact .inr ⟨isR_no hd (.inl ha), by simp [ht, hl, hd, ec, gAll, bls?]⟩
      | true =>
        cases hb : isI b with
        | false =>
          rw [ha, hb] at ec
          exact .inr ⟨isR_no hd (.inr hb), by simp [ht, hl, hd, ec, gAll, bls?]⟩
        | true =>
          rw [ha, hb] at ec
          obtain ⟨i, rfl⟩ := isI_some ha
          obtain ⟨j, rfl⟩ := isI_some hb
          have e : isR x = (decide (0 < j) && decide (Int.gcd i j = 1)) := by unfold isR; rw [hd]
          rw [e]
          by_cases hj : 0 < j
          · obtain ⟨n, rfl⟩ := Int.eq_ofNat_of_zero_le (Int.le_of_lt hj)
            have hn := gd_int (hg (.int n) (by simp))
            have td := T_law_divisor_ok i n S (Nat.lt_of_lt_of_le (show n < 2 ^ 20 by omega) (Nat.pow_le_pow_right (by decide) (by decide)))
            have hj' : ¬ ((n : Int) < 1) := by omega
            have hjn : 0 < n := by omega
            have hn0 : ¬ n = 0 := by omega
            by_cases hg1 : Int.gcd i n = 1
            · exact .inl ⟨by simp [hjn, hg1], by simp [ht, hl, hd, ec, gAll, bls?, i0, i1, hj', hn0, hjn, td, gcd1, hg1]⟩
            · exact .inr ⟨by simp [hg1], by simp [ht, hl, hd, ec, gAll, bls?, i0, i1, hj', hn0, hjn, td, gcd1, hg1]⟩
          · have hj' : j < 1 := by omega
            exact .inr ⟨by simp [hj], by simp [ht, hl, hd, ec, gAll, bls?, i0, i1, hj']⟩
    · have h2' : ¬ ((ds.length : Int) = 2) := by omega
      exact .inr ⟨isR_len hd h2, by simp [ht, hl, h2']⟩
abbrev le1 : EvS := (sSeq (sIf (bOr (bNot (tTru (eIsi "tuple" (eVar 1)))) (tBin (oBn cEq) (eCB gLenD (aCons (eVar 1) aNil)) (eCB gLenD (aCons (eVar 0) aNil)))) (sRet (eC (.bl false))) sNil)
    (sFor (iTup' (eVar 1)) (gN 2) le2))
theorem T_law_is_matrix_ok {d : D} (S : Sto) (h : gd d = true) : T__law_is_matrix [d] S = .ok (.bl (isMx d)) S := by
  have ht := isi_tuple S h
  cases hd : d.seq? with
  | none =>
    rw [hd] at ht
    simp [T__law_is_matrix, b__law_is_matrix, ht, isMx, hd]
  | some ds =>
    rw [hd] at ht
    have hl := len_D S hd
    obtain ⟨hlen, hg⟩ := gd_seq h hd
    have htr : truD d S = some (!ds.isEmpty) := by cases d <;> simp [D.seq?] at hd <;> subst hd <;> rfl
    by_cases h0 : ds.length = 0
    · have e : isMx d = false := by unfold isMx; rw [hd]; simp [h0]
      have hem : ds = [] := List.length_eq_zero_iff.mp h0
      subst hem
      simp [T__law_is_matrix, b__law_is_matrix, ht, htr, e]
    · have hem : ds.isEmpty = false := by
        cases ds with
        | nil => simp at h0
        | cons a b => rfl
      rw [hem] at htr
      have key := forD_chk (g := gN 1) (f := le1) ds.length (ds := ds) rfl (fun i => ∃ r, ds[i]? = some r ∧ rowOk ds.length r = true) (fun env S1 => (∃ o1 o2 o3, env = [some d, o1, o2, o3]) ∧ S = S1) (fun S1 => S1 = S)
        (by
          rintro i r env S1 hi hr ⟨⟨o1, o2, o3, rfl⟩, rfl⟩
          refine ⟨([some d, some r, o2, o3], S), by simp, ?_⟩
          rw [gget hr]
          have gr := hg r (mem_get hr)
          have ht2 := isi_tuple S gr
          cases hrs : r.seq? with
          | none =>
            rw [hrs] at ht2
            exact .inr ⟨by simp [rowOk, hrs], S, by simp [ht2], rfl⟩
          | some es =>
            rw [hrs] at ht2
            have hl2 := len_D S hrs
            obtain ⟨hlen2, hg2⟩ := gd_seq gr hrs
            by_cases e1 : es.length = ds.length
            · have k2 := forD_chk (g := gN 2) (f := le2) es.length (ds := es) rfl (fun i => ∃ r, es[i]? = some r ∧ isR r = true) (fun env S1 => (∃ o2 o3, env = [some d, some r, o2, o3]) ∧ S = S1) (fun S1 => S1 = S)
                (by
                  rintro i x env S1 hi hx ⟨⟨o2, o3, rfl⟩, rfl⟩
                  refine ⟨([some d, some r, some x, o3], S), by simp, ?_⟩
                  rw [gget hx]
                  rcases le_entry (p0 := some d) (p1 := some r) (o3 := o3) S (hg2 x (mem_get hx)) with ⟨a, b⟩ | ⟨a, b⟩
                  · exact .inl ⟨a, _, _, b, ⟨_, _, rfl⟩, rfl⟩
                  · exact .inr ⟨by rw [a]; decide, S, b, rfl⟩)
                [some d, some r, o2, o3] S ⟨⟨o2, o3, rfl⟩, rfl⟩
              rw [← all_iff] at k2
              rcases k2 with ⟨k1, env', S', k2, ⟨o2', o3', rfl⟩, rfl⟩ | ⟨k1, S', k2, rfl⟩
              · exact .inl ⟨by simp only [rowOk, hrs]; rw [k1]; simp [e1], [some d, some r, o2', o3'], S, by simp [ht2, hl2, hl, e1, hrs, k2], ⟨_, _, _, rfl⟩, rfl⟩
              · exact .inr ⟨by simp only [rowOk, hrs]; rw [Bool.not_eq_true] at k1; rw [k1]; simp, S', by simp [ht2, hl2, hl, e1, hrs, k2], rfl⟩
            · have e2 : ¬ ((es.length : Int) = ds.length) := by omega
              exact .inr ⟨by simp [rowOk, hrs, e1], S, by simp [ht2, hl2, hl, e2], rfl⟩)
        [some d, none, none, none] S ⟨⟨none, none, none, rfl⟩, rfl⟩
      rw [← all_iff] at key
      rcases key with ⟨k1, env', S', k2, ⟨o1, o2, o3, rfl⟩, rfl⟩ | ⟨k1, S', k2, rfl⟩
      · have e : isMx d = true := by unfold isMx; rw [hd]; simp only; rw [k1, decide_eq_true (show 0 < ds.length by omega)]; rfl
        simp [T__law_is_matrix, b__law_is_matrix, ht, htr, hd, k2, e]
      · have e : isMx d = false := by unfold isMx; rw [hd]; simp only; rw [Bool.not_eq_true] at k1; rw [k1, Bool.and_false]
        simp [T__law_is_matrix, b__law_is_matrix, ht, htr, hd, k2, e]
end DV
/-! R7: is_point. -/
namespace DV
open PySem L2
/-- as forW_chk, what is behind known -/
theorem forW_chk2 {g : GvT} {f : EvS} : ∀ (n : Nat) {ds : List D} (hl : ds.length = n) (P : Nat → Prop) (I : AEnv → Sto → Prop) (J : Sto → Prop)
    (step : ∀ i d env S, i < n → (∀ j, j < i → P j) → ds[i]? = some d → I env S → ∃ q, g d env S = some q ∧ ((P i ∧ ∃ env' S', f q.1 q.2 = .nx env' S' ∧ I env' S') ∨ (¬ P i ∧ ∃ S', f q.1 q.2 = .ret (.bl false) S' ∧ J S'))) (env : AEnv) (S : Sto) (h : I env S),
    ((∀ i, i < n → P i) ∧ ∃ env' S', forW [] g f ds env S = .nx env' S' ∧ I env' S') ∨ ((¬ ∀ i, i < n → P i) ∧ ∃ S', forW [] g f ds env S = .ret (.bl false) S' ∧ J S')
  | 0, [], _, P, I, J, step, env, S, h => .inl ⟨fun i hi => by omega, env, S, by unfold forW; rw [if_pos (cw_nil S)], h⟩
  | 0, d :: ds, hl, P, I, J, step, env, S, h => by simp at hl
  | n + 1, [], hl, P, I, J, step, env, S, h => by simp at hl
  | n + 1, d :: ds, hl, P, I, J, step, env, S, h => by
    obtain ⟨q, hq, ⟨p0, env1, S1, b, c⟩ | ⟨p0, S1, b, c⟩⟩ := step 0 d env S (by omega) (fun j hj => by omega) rfl h
    · rcases forW_chk2 (g := g) (f := f) n (ds := ds) (by simpa using hl) (fun i => P (i + 1)) I J (fun i d' env S hi pr hd => step (i + 1) d' env S (by omega) (fun j hj => by
        cases j with
        | zero => exact p0
        | succ j => exact pr j (by omega)) (by simpa using hd)) env1 S1 c with ⟨h1, env2, S2, h2, h3⟩ | ⟨h1, S2, h2, h3⟩
      · refine .inl ⟨fun i hi => ?_, env2, S2, ?_, h3⟩
        · cases i with
          | zero => exact p0
          | succ i => exact h1 i (by omega)
        · unfold forW; rw [if_pos (cw_nil S), hq]; simp only; rw [b]; exact h2
      · refine .inr ⟨fun z => h1 fun i hi => z (i + 1) (by omega), S2, ?_, h3⟩
        unfold forW; rw [if_pos (cw_nil S), hq]; simp only; rw [b]; exact h2
    · refine .inr ⟨fun z => p0 (z 0 (by omega)), S1, ?_, c⟩
      unfold forW; rw [if_pos (cw_nil S), hq]; simp only; rw [b]
def Bd (b : Nat) (x : Rat) : Prop := x.num.natAbs < 2 ^ b ∧ x.den < 2 ^ b
theorem mk_num (k : Int) (M : Nat) : (mkRat k M).num.natAbs ≤ k.natAbs := by
  rw [Rat.num_mkRat]
  split
  · simp
  · exact Int.natAbs_ediv_le_natAbs _ _
theorem mk_den {k : Int} {M : Nat} (h : 0 < M) : (mkRat k M).den ≤ M := by
  rw [Rat.den_mkRat]
  split
  · omega
  · exact Nat.div_le_self _ _
theorem Bd.mono {b c : Nat} {x : Rat} (h : Bd b x) (l : b ≤ c) : Bd c x :=
  ⟨Nat.lt_of_lt_of_le h.1 (Nat.pow_le_pow_right (by decide) l), Nat.lt_of_lt_of_le h.2 (Nat.pow_le_pow_right (by decide) l)⟩
theorem Bd.sm {b : Nat} {x : Rat} (h : Bd b x) (l : b ≤ 400) : Sm x := h.mono l
theorem Bd.mul {b c : Nat} {x y : Rat} (h : Bd b x) (g : Bd c y) : Bd (b + c) (x * y) := by
  rw [Rat.mul_def']
  refine ⟨Nat.lt_of_le_of_lt (mk_num _ _) ?_, Nat.lt_of_le_of_lt (mk_den (Nat.mul_pos x.den_pos y.den_pos)) (mul_lt_pow h.2 g.2)⟩
  rw [Int.natAbs_mul]; exact mul_lt_pow h.1 g.1
theorem Bd.add {b c : Nat} {x y : Rat} (h : Bd b x) (g : Bd c y) : Bd (b + c + 1) (x + y) := by
  rw [Rat.add_def']
  have p : 2 ^ (b + c + 1) = 2 ^ (b + c) + 2 ^ (b + c) := by rw [Nat.pow_succ]; omega
  refine ⟨Nat.lt_of_le_of_lt (mk_num _ _) ?_, Nat.lt_of_le_of_lt (mk_den (Nat.mul_pos x.den_pos y.den_pos)) ?_⟩
  · have h1 : (x.num * (y.den : Int)).natAbs < 2 ^ (b + c) := by rw [Int.natAbs_mul]; exact mul_lt_pow h.1 g.2
    have h2 : (y.num * (x.den : Int)).natAbs < 2 ^ (b + c) := by rw [Int.natAbs_mul, Nat.add_comm]; exact mul_lt_pow g.1 h.2
    omega
  · have := mul_lt_pow h.2 g.2; omega
theorem Bd.zero (b : Nat) (h : 1 ≤ b) : Bd b 0 := by
  have : 2 ^ 1 ≤ 2 ^ b := Nat.pow_le_pow_right (by decide) h
  exact ⟨by show 0 < _; omega, by show 1 < _; omega⟩
theorem Bd.sum {b : Nat} {f : Nat → Rat} : ∀ {m : Nat}, (∀ k, k < m → Bd b (f k)) → Bd ((b + 1) * m + 1) (DV.sm m f)
  | 0, _ => Bd.zero _ (by omega)
  | m + 1, h => by
    have := (Bd.sum (m := m) fun k hk => h k (by omega)).add (h m (by omega))
    exact this.mono (by rw [Nat.mul_succ]; omega)
theorem ms_bd {n : Nat} {A B : Mx} (hn : n ≤ 6) (ha : ∀ i j, i < n → j < n → Bd 20 (en A i j)) (hb : ∀ i j, i < n → j < n → Bd 20 (en B i j)) : Ms n A B :=
  ⟨fun i j hi hj => (ha i j hi hj).sm (by decide), fun i j hi hj => (hb i j hi hj).sm (by decide), fun i j k hi hj hk => ((ha i k hi hk).mul (hb k j hk hj)).sm (by decide),
   fun i j m hi hj hm => (Bd.sum (b := 40) fun k hk => (ha i k hi (by omega)).mul (hb k j (by omega) hj)).sm (by
     have : (40 + 1) * m ≤ 41 * 6 := Nat.mul_le_mul_left _ (by omega)
     omega)⟩
def valR (d : D) : Rat := match d.seq? with
  | some [.int a, .int b] => mkRat a b.toNat
  | _ => 0
theorem valR_ok {d : D} (h : gd d = true) (g : isR d = true) : fr? d (valR d) ∧ Bd 20 (valR d) := by
  obtain ⟨x, h1, h2, h3⟩ := isR_num h g
  have e : valR d = x := by
    unfold valR
    rw [h1]
    simp only [Int.toNat_natCast]
    exact Rat.mkRat_self x
  rw [e]; exact ⟨h1, h2, h3⟩
def sz (d : D) : Nat := (d.seq?.getD []).length
def mxOf (d : D) : Mx := (d.seq?.getD []).map fun r => (r.seq?.getD []).map valR
structure MxOk (d : D) (n : Nat) (A : Mx) : Prop where
  pos : 0 < n
  le : n ≤ 6
  r : matR d n A
  sq : Sq n A
  bd : ∀ i j, i < n → j < n → Bd 20 (en A i j)
theorem mx_ok {d : D} (h : gd d = true) (g : isMx d = true) : MxOk d (sz d) (mxOf d) := by
  unfold isMx at g
  cases hd : d.seq? with
  | none => rw [hd] at g; cases g
  | some rows =>
    rw [hd] at g
    simp only [Bool.and_eq_true, decide_eq_true_eq] at g
    obtain ⟨g1, g2⟩ := g
    obtain ⟨hl, hg⟩ := gd_seq h hd
    have e1 : sz d = rows.length := by unfold sz; rw [hd]; rfl
    have e2 : mxOf d = rows.map fun r => (r.seq?.getD []).map valR := by unfold mxOf; rw [hd]; rfl
    rw [all_iff] at g2
    have each : ∀ i, i < rows.length → ∃ r es, rows[i]? = some r ∧ r.seq? = some es ∧ es.length = rows.length ∧ (∀ j, j < rows.length → ∃ x, es[j]? = some x ∧ fr? x (en (mxOf d) i j) ∧ Bd 20 (en (mxOf d) i j)) := by
      intro i hi
      obtain ⟨r, hr, hok⟩ := g2 i hi
      unfold rowOk at hok
      cases hs : r.seq? with
      | none => rw [hs] at hok; cases hok
      | some es =>
        rw [hs] at hok
        simp only [Bool.and_eq_true, decide_eq_true_eq] at hok
        obtain ⟨k1, k2⟩ := hok
        obtain ⟨_, hg2⟩ := gd_seq (hg r (mem_get hr)) hs
        refine ⟨r, es, hr, hs, k1, fun j hj => ?_⟩
        rw [all_iff] at k2
        obtain ⟨x, hx, hxr⟩ := k2 j (by omega)
        have e3 : en (mxOf d) i j = valR x := by
          unfold en
          rw [e2]
          simp [List.getD_eq_getElem?_getD, hr, hs, hx]
        rw [e3]
        exact ⟨x, hx, valR_ok (hg2 x (mem_get hx)) hxr⟩
    rw [e1]
    refine ⟨g1, hl, ⟨rows, hd, rfl, fun i hi => ?_⟩, ⟨by rw [e2, List.length_map], fun r hr => ?_⟩, fun i j hi hj => ?_⟩
    · obtain ⟨r, es, h1, h2, h3, h4⟩ := each i hi
      exact ⟨r, h1, es, h2, h3, fun j hj => let ⟨x, a, b, _⟩ := h4 j hj; ⟨x, a, b⟩⟩
    · rw [e2] at hr
      obtain ⟨r0, h0, rfl⟩ := List.mem_map.mp hr
      obtain ⟨i, hi, e⟩ := List.mem_iff_getElem.mp h0
      obtain ⟨r, es, h1, h2, h3, _⟩ := each i hi
      rw [List.getElem?_eq_getElem hi, e] at h1
      cases h1
      rw [h2]; simpa using h3
    · obtain ⟨r, es, h1, h2, h3, h4⟩ := each i hi
      obtain ⟨x, _, _, c⟩ := h4 j hj
      exact c
/-- of one size, and commuting -/
def cmx (x y : D) : Prop := sz x = sz y ∧ Cm (sz x) (mxOf x) (mxOf y)
def AllC (ms : List D) : Prop := ∀ (i j : Nat) (x y : D), ms[i]? = some x → ms[j]? = some y → cmx x y
def IsPt (n : Nat) (d : D) : Prop := ∃ ms, d.seq? = some ms ∧ ms.length = n ∧ ms.all isMx = true ∧ AllC ms
theorem mx_len {x : D} (hx : MxOk x (sz x) (mxOf x)) (S : Sto) : gLenD [x] S = some (.int (sz x)) := hx.r.len S
/-- the two products, by the program and by the law -/
theorem prods {x y : D} (hx : MxOk x (sz x) (mxOf x)) (hy : MxOk y (sz y) (mxOf y)) (e : sz x = sz y) (S : Sto) : ∃ a b g1 g2, T_multiplied_matrices [x, y] S = .ok a (S ++ g1) ∧ T_multiplied_matrices [y, x] (S ++ g1) = .ok b (S ++ g2) ∧ cEq a b = some (decide (mulM (sz x) (mxOf x) (mxOf y) = mulM (sz x) (mxOf y) (mxOf x))) := by
  have hy' : MxOk y (sz x) (mxOf y) := by rw [e]; exact hy
  obtain ⟨a, g1, h1, h2⟩ := T_mul_ok hx.r hy'.r (ms_bd hx.le hx.bd hy'.bd) (by have := hx.le; omega) S
  obtain ⟨b, g2, h3, h4⟩ := T_mul_ok hy'.r hx.r (ms_bd hx.le hy'.bd hx.bd) (by have := hx.le; omega) (S ++ g1)
  exact ⟨a, b, g1, g1 ++ g2, h1, by rw [h3, List.append_assoc], cEq_mat h2 h4 sq_mul sq_mul⟩
theorem lprods {x y : D} (hx : MxOk x (sz x) (mxOf x)) (hy : MxOk y (sz y) (mxOf y)) (e : sz x = sz y) (S : Sto) : ∃ a b g1 g2, T__law_by [x, y] S = .ok a (S ++ g1) ∧ T__law_by [y, x] (S ++ g1) = .ok b (S ++ g2) ∧ cEq a b = some (decide (mulM (sz x) (mxOf x) (mxOf y) = mulM (sz x) (mxOf y) (mxOf x))) := by
  have hy' : MxOk y (sz x) (mxOf y) := by rw [e]; exact hy
  obtain ⟨a, g1, h1, h2⟩ := T_law_by_ok hx.r hy'.r (ms_bd hx.le hx.bd hy'.bd) (by have := hx.le; omega) S
  obtain ⟨b, g2, h3, h4⟩ := T_law_by_ok hy'.r hx.r (ms_bd hx.le hy'.bd hx.bd) (by have := hx.le; omega) (S ++ g1)
  exact ⟨a, b, g1, g1 ++ g2, h1, by rw [h3, List.append_assoc], cEq_mat h2 h4 sq_mul sq_mul⟩
noncomputable abbrev ipIn : EvS := (sIf (tBin (oBn cEq) (eCall 2 T_multiplied_matrices (aCons (eVar 3) (aCons (eVar 4) aNil))) (eCall 2 T_multiplied_matrices (aCons (eVar 4) (aCons (eVar 3) aNil)))) (sRet (eC (.bl false))) sNil)
noncomputable abbrev ipOut : EvS := (sSeq (sIf (tBin (oBn cEq) (eCB gLenD (aCons (eVar 3) aNil)) (eCB gLenD (aCons (eIx (eVar 0) (eC (.int 0))) aNil))) (sRet (eC (.bl false))) sNil)
    (sFor (iTup' (eSlT (eVar 0) pNo (pSome (eVar 2)))) (gN 4) ipIn))
theorem sIx_lo (n : Nat) : HT.sIx n 0 none = 0 := rfl
theorem cut_to {ds : List D} {k : Nat} (hk : k ≤ ds.length) : cutD ds none (some (k : Int)) = ds.take k := by
  unfold cutD
  rw [HT.sIx_none, show HT.sIx ds.length ds.length (some (k : Int)) = min k ds.length from HT.sIx_nat _ _ k, List.drop_zero, Nat.min_eq_left hk, Nat.sub_zero]
theorem T_is_point_ok {d : D} {n : Nat} (h : gd d = true) (hT : ∀ ds, d.seq? = some ds → d = .tup ds) (S : Sto) : ∃ b g, T_is_point [d, .int n] S = .ok (.bl b) (S ++ g) ∧ (b = true ↔ IsPt n d) := by
  have ht := isi_tuple S h
  cases hd : d.seq? with
  | none =>
    rw [hd] at ht
    exact ⟨false, [], by simp [T_is_point, b_is_point, ht], by simp [IsPt, hd]⟩
  | some ms =>
    rw [hd] at ht
    have hl := len_D S hd
    obtain ⟨hlen, hg⟩ := gd_seq h hd
    obtain rfl := hT ms hd
    by_cases h2 : ms.length = n
    · have h2' : (ms.length : Int) = n := by omega
      have ec := comp_bls (vs := [3]) (g := gN 3) (te := (eCall 1 T_is_matrix (aCons (eVar 3) aNil))) (env := [some (.tup ms), some (.int n), none, none, none]) (S := S) (ds := ms) isMx
        (fun x hx => ⟨[some (.tup ms), some (.int n), none, some x, none], by simp [wipeA], by simp [T_is_matrix_ok S (hg x hx)]⟩) (LN20 hlen)
      have ea := all_bls (ds := ms) isMx
      cases hall : ms.all isMx with
      | false =>
        rw [hall] at ea
        refine ⟨false, [], by simp [T_is_point, b_is_point, ht, hl, h2', ec, ea], ?_⟩
        simp only [Bool.false_eq_true, false_iff]
        rintro ⟨ms', e1, _, e2, _⟩
        rw [hd] at e1; cases e1
        rw [hall] at e2; cases e2
      | true =>
        rw [hall] at ea
        have mok : ∀ i x, ms[i]? = some x → MxOk x (sz x) (mxOf x) := fun i x hx => mx_ok (hg x (mem_get hx)) (by rw [List.all_eq_true] at hall; exact hall x (mem_get hx))
        have key := forW_chk2 (g := gTup' 2 (gCons' (gN 2) (gCons' (gN 3) gNil'))) (f := ipOut) n (ds := enumD ms) (by rw [enum_len, h2]) (fun k => ∃ x y, ms[k]? = some x ∧ ms[0]? = some y ∧ sz x = sz y ∧ ∀ j, j < k → ∃ z, ms[j]? = some z ∧ Cm (sz x) (mxOf x) (mxOf z))
          (fun env S1 => ∃ o2 o3 o4 g, env = [some (.tup ms), some (.int n), o2, o3, o4] ∧ S1 = S ++ g) (fun S1 => ∃ g, S1 = S ++ g)
          (by
            rintro k q env S1 hk prev hq ⟨o2, o3, o4, g, rfl, rfl⟩
            obtain ⟨x, hx, rfl⟩ := enumD_get hq
            obtain ⟨y, hy⟩ : ∃ y, ms[0]? = some y := ⟨ms[0]'(by omega), List.getElem?_eq_getElem _⟩
            have mx := mok k x hx
            have my := mok 0 y hy
            have l1 := mx.r.len (S ++ g)
            have l2 := my.r.len (S ++ g)
            refine ⟨([some (.tup ms), some (.int n), some (.int k), some x, o4], S ++ g), by simp, ?_⟩
            have psz : ∀ (j : Nat) z, j < k → ms[j]? = some z → sz z = sz y := by
              intro j z hj hz
              obtain ⟨x', y', a1, a2, a3, _⟩ := prev j hj
              rw [hz] at a1; rw [hy] at a2; cases a1; cases a2; exact a3
            by_cases e : sz x = sz y
            · have hin := forD_chk (g := gN 4) (f := ipIn) k (ds := ms.take k) (by rw [List.length_take]; omega) (fun j => ∃ z, ms[j]? = some z ∧ Cm (sz x) (mxOf x) (mxOf z))
                (fun env S1 => ∃ o4 g, env = [some (.tup ms), some (.int n), some (.int k), some x, o4] ∧ S1 = S ++ g) (fun S1 => ∃ g, S1 = S ++ g)
                (by
                  rintro j z env S1 hj hz ⟨o4, g, rfl, rfl⟩
                  rw [List.getElem?_take_of_lt hj] at hz
                  have mz := mok j z hz
                  obtain ⟨a, b, g1, g2, f1, f2, f3⟩ := prods mx mz (by rw [e, psz j z hj hz]) (S ++ g)
                  refine ⟨([some (.tup ms), some (.int n), some (.int k), some x, some z], S ++ g), by simp, ?_⟩
                  have hiff : (∃ w, ms[j]? = some w ∧ Cm (sz x) (mxOf x) (mxOf w)) ↔ mulM (sz x) (mxOf x) (mxOf z) = mulM (sz x) (mxOf z) (mxOf x) := by
                    constructor
                    · rintro ⟨w, hw, hc⟩; rw [hz] at hw; cases hw; exact hc
                    · intro hc; exact ⟨z, hz, hc⟩
                  rw [hiff]
                  by_cases hc : mulM (sz x) (mxOf x) (mxOf z) = mulM (sz x) (mxOf z) (mxOf x)
                  · rw [decide_eq_true hc] at f3
                    refine .inl ⟨hc, [some (.tup ms), some (.int n), some (.int k), some x, some z], S ++ (g ++ g2), ?_, some z, g ++ g2, rfl, rfl⟩
                    simp at f1 f2
                    simp [f1, f2, f3]
                  · rw [decide_eq_false hc] at f3
                    refine .inr ⟨hc, S ++ (g ++ g2), ?_, ⟨_, rfl⟩⟩
                    simp at f1 f2
                    simp [f1, f2, f3])
                [some (.tup ms), some (.int n), some (.int k), some x, o4] (S ++ g) ⟨o4, g, rfl, rfl⟩
              have hcut := cut_to (ds := ms) (k := k) (by omega)
              have hsl : slD (.tup ms) none (some (k : Int)) = some (.tup (ms.take k)) := by simp [slD, hcut]
              rcases hin with ⟨p1, env', S', p2, o4', g', rfl, rfl⟩ | ⟨p1, S', p2, g', rfl⟩
              · refine .inl ⟨⟨x, y, hx, hy, e, p1⟩, [some (.tup ms), some (.int n), some (.int k), some x, o4'], S ++ g', ?_, some (.int k), some x, o4', g', rfl, rfl⟩
                (try simp [ipIn] at p2)
                simp [hy, l1, l2, e, hsl, p2]
              · refine .inr ⟨?_, S ++ g', ?_, ⟨_, rfl⟩⟩
                · rintro ⟨x', y', a1, a2, a3, a4⟩
                  rw [hx] at a1; cases a1
                  exact p1 a4
                · (try simp [ipIn] at p2)
                  simp [hy, l1, l2, e, hsl, p2]
            · refine .inr ⟨?_, S ++ g, ?_, ⟨_, rfl⟩⟩
              · rintro ⟨x', y', a1, a2, a3, a4⟩
                rw [hx] at a1; rw [hy] at a2; cases a1; cases a2
                exact e a3
              · have e' : ¬ ((sz x : Int) = sz y) := by omega
                simp [hy, l1, l2, e'])
          [some (.tup ms), some (.int n), none, none, none] S ⟨none, none, none, [], rfl, by simp⟩
        have hiff : (∀ k, k < n → ∃ x y, ms[k]? = some x ∧ ms[0]? = some y ∧ sz x = sz y ∧ ∀ j, j < k → ∃ z, ms[j]? = some z ∧ Cm (sz x) (mxOf x) (mxOf z)) ↔ IsPt n (.tup ms) := by
          constructor
          · intro p
            have psz : ∀ (i j : Nat) x y, ms[i]? = some x → ms[j]? = some y → sz x = sz y := by
              intro i j x y hx hy
              obtain ⟨a, b, a1, a2, a3, _⟩ := p i (by rw [← h2]; exact (List.getElem?_eq_some_iff.mp hx).1)
              obtain ⟨c, d, c1, c2, c3, _⟩ := p j (by rw [← h2]; exact (List.getElem?_eq_some_iff.mp hy).1)
              rw [hx] at a1; rw [hy] at c1; cases a1; cases c1
              rw [a2] at c2; cases c2
              rw [a3, c3]
            refine ⟨ms, rfl, h2, hall, fun i j x y hx hy => ⟨psz i j x y hx hy, ?_⟩⟩
            rcases Nat.lt_trichotomy i j with hij | hij | hij
            · obtain ⟨c, d, c1, _, _, c4⟩ := p j (by rw [← h2]; exact (List.getElem?_eq_some_iff.mp hy).1)
              rw [hy] at c1; cases c1
              obtain ⟨z, z1, z2⟩ := c4 i hij
              rw [hx] at z1; cases z1
              rw [psz i j x y hx hy]; exact z2.symm
            · subst hij; rw [hx] at hy; cases hy; exact Cm.refl _ _
            · obtain ⟨c, d, c1, _, _, c4⟩ := p i (by rw [← h2]; exact (List.getElem?_eq_some_iff.mp hx).1)
              rw [hx] at c1; cases c1
              obtain ⟨z, z1, z2⟩ := c4 j hij
              rw [hy] at z1; cases z1
              exact z2
          · rintro ⟨ms', e1, _, _, e2⟩ k hk
            cases e1
            obtain ⟨x, hx⟩ : ∃ x, ms[k]? = some x := ⟨ms[k]'(by omega), List.getElem?_eq_getElem _⟩
            obtain ⟨y, hy⟩ : ∃ y, ms[0]? = some y := ⟨ms[0]'(by omega), List.getElem?_eq_getElem _⟩
            exact ⟨x, y, hx, hy, (e2 k 0 x y hx hy).1, fun j hj => by
              obtain ⟨z, hz⟩ : ∃ z, ms[j]? = some z := ⟨ms[j]'(by omega), List.getElem?_eq_getElem _⟩
              exact ⟨z, hz, (e2 k j x z hx hz).2⟩⟩
        rw [hiff] at key
        rcases key with ⟨p1, env', S', p2, o2, o3, o4, g, rfl, rfl⟩ | ⟨p1, S', p2, g, rfl⟩
        · refine ⟨true, g, ?_, by simp [p1]⟩
          (try simp [ipOut, ipIn] at p2)
          simp [T_is_point, b_is_point, ht, hl, h2', ec, ea, p2]
        · refine ⟨false, g, ?_, by simp [p1]⟩
          (try simp [ipOut, ipIn] at p2)
          simp [T_is_point, b_is_point, ht, hl, h2', ec, ea, p2]
    · have h2' : ¬ ((ms.length : Int) = n) := by omega
      refine ⟨false, [], by simp [T_is_point, b_is_point, ht, hl, h2'], ?_⟩
      simp only [Bool.false_eq_true, false_iff]
      rintro ⟨ms', e1, e2, _⟩
      rw [hd] at e1; cases e1
      exact h2 e2
end DV
/-! R8: the law's is_point. -/
namespace DV
open PySem L2
abbrev lpIn : EvS := (sIf (bOr (tBin (oBn cEq) (eCB gLenD (aCons (eVar 2) aNil)) (eCB gLenD (aCons (eVar 3) aNil))) (tBin (oBn cEq) (eCall 2 T__law_by (aCons (eVar 2) (aCons (eVar 3) aNil))) (eCall 2 T__law_by (aCons (eVar 3) (aCons (eVar 2) aNil))))) (sRet (eC (.bl false))) sNil)
abbrev lpOut : EvS := (sFor (iTup' (eVar 0)) (gN 3) lpIn)
theorem T_law_is_point_ok {d : D} {n : Nat} (h : gd d = true) (S : Sto) : ∃ b g, T__law_is_point [d, .int n] S = .ok (.bl b) (S ++ g) ∧ (b = true ↔ IsPt n d) := by
  have ht := isi_tuple S h
  cases hd : d.seq? with
  | none =>
    rw [hd] at ht
    exact ⟨false, [], by simp [T__law_is_point, b__law_is_point, ht], by simp [IsPt, hd]⟩
  | some ms =>
    rw [hd] at ht
    have hl := len_D S hd
    obtain ⟨hlen, hg⟩ := gd_seq h hd
    by_cases h2 : ms.length = n
    · have h2' : (ms.length : Int) = n := by omega
      have ec := comp_bls (vs := [2]) (g := gN 2) (te := (eCall 1 T__law_is_matrix (aCons (eVar 2) aNil))) (env := [some d, some (.int n), none, none]) (S := S) (ds := ms) isMx
        (fun x hx => ⟨[some d, some (.int n), some x, none], by simp [wipeA], by simp [T_law_is_matrix_ok S (hg x hx)]⟩) (LN20 hlen)
      have ea := all_bls (ds := ms) isMx
      cases hall : ms.all isMx with
      | false =>
        rw [hall] at ea
        refine ⟨false, [], by simp [T__law_is_point, b__law_is_point, ht, hl, h2', hd, ec, ea], ?_⟩
        simp only [Bool.false_eq_true, false_iff]
        rintro ⟨ms', e1, _, e2, _⟩
        rw [hd] at e1; cases e1
        rw [hall] at e2; cases e2
      | true =>
        rw [hall] at ea
        have mok : ∀ i x, ms[i]? = some x → MxOk x (sz x) (mxOf x) := fun i x hx => mx_ok (hg x (mem_get hx)) (by rw [List.all_eq_true] at hall; exact hall x (mem_get hx))
        have key := forD_chk (g := gN 2) (f := lpOut) n (ds := ms) h2 (fun i => ∀ j, j < n → ∃ x y, ms[i]? = some x ∧ ms[j]? = some y ∧ cmx x y)
          (fun env S1 => ∃ o2 o3 g, env = [some d, some (.int n), o2, o3] ∧ S1 = S ++ g) (fun S1 => ∃ g, S1 = S ++ g)
          (by
            rintro i x env S1 hi hx ⟨o2, o3, g, rfl, rfl⟩
            have mx := mok i x hx
            refine ⟨([some d, some (.int n), some x, o3], S ++ g), by simp, ?_⟩
            have hin := forD_chk (g := gN 3) (f := lpIn) n (ds := ms) h2 (fun j => ∃ x y, ms[i]? = some x ∧ ms[j]? = some y ∧ cmx x y)
                (fun env S1 => ∃ o3 g, env = [some d, some (.int n), some x, o3] ∧ S1 = S ++ g) (fun S1 => ∃ g, S1 = S ++ g)
                (by
                  rintro j y env S1 hj hy ⟨o3, g, rfl, rfl⟩
                  have my := mok j y hy
                  have l1 := mx.r.len (S ++ g)
                  have l2 := my.r.len (S ++ g)
                  refine ⟨([some d, some (.int n), some x, some y], S ++ g), by simp, ?_⟩
                  have hiff : (∃ x y, ms[i]? = some x ∧ ms[j]? = some y ∧ cmx x y) ↔ cmx x y := by
                    constructor
                    · rintro ⟨a, b, h1, h2, h3⟩; rw [hx] at h1; rw [hy] at h2; cases h1; cases h2; exact h3
                    · intro hc; exact ⟨x, y, hx, hy, hc⟩
                  rw [hiff]
                  by_cases e : sz x = sz y
                  · obtain ⟨a, b, g1, g2, f1, f2, f3⟩ := lprods mx my e (S ++ g)
                    by_cases hc : mulM (sz x) (mxOf x) (mxOf y) = mulM (sz x) (mxOf y) (mxOf x)
                    · rw [decide_eq_true hc] at f3
                      refine .inl ⟨⟨e, hc⟩, [some d, some (.int n), some x, some y], S ++ (g ++ g2), ?_, some y, g ++ g2, rfl, rfl⟩
                      simp at f1 f2
                      simp [l1, l2, e, f1, f2, f3]
                    · rw [decide_eq_false hc] at f3
                      refine .inr ⟨fun z => hc z.2, S ++ (g ++ g2), ?_, ⟨_, rfl⟩⟩
                      simp at f1 f2
                      simp [l1, l2, e, f1, f2, f3]
                  · have e' : ¬ ((sz x : Int) = sz y) := by omega
                    refine .inr ⟨fun z => e z.1, S ++ g, ?_, ⟨_, rfl⟩⟩
                    simp [l1, l2, e'])
                [some d, some (.int n), some x, o3] (S ++ g) ⟨o3, g, rfl, rfl⟩
            rcases hin with ⟨p1, env', S', p2, o3', g', rfl, rfl⟩ | ⟨p1, S', p2, g', rfl⟩
            · refine .inl ⟨p1, [some d, some (.int n), some x, o3'], S ++ g', ?_, some x, o3', g', rfl, rfl⟩
              (try simp [lpIn] at p2)
              simp [hd, p2]
            · refine .inr ⟨p1, S ++ g', ?_, ⟨_, rfl⟩⟩
              (try simp [lpIn] at p2)
              simp [hd, p2])
          [some d, some (.int n), none, none] S ⟨none, none, [], rfl, by simp⟩
        have hiff : (∀ i, i < n → ∀ j, j < n → ∃ x y, ms[i]? = some x ∧ ms[j]? = some y ∧ cmx x y) ↔ IsPt n d := by
          constructor
          · intro p
            refine ⟨ms, hd, h2, hall, fun i j x y hx hy => ?_⟩
            obtain ⟨a, b, h1, h3, h4⟩ := p i (by rw [← h2]; exact (List.getElem?_eq_some_iff.mp hx).1) j (by rw [← h2]; exact (List.getElem?_eq_some_iff.mp hy).1)
            rw [hx] at h1; rw [hy] at h3; cases h1; cases h3; exact h4
          · rintro ⟨ms', e1, _, _, e2⟩ i hi j hj
            rw [hd] at e1; cases e1
            obtain ⟨x, hx⟩ : ∃ x, ms[i]? = some x := ⟨ms[i]'(by omega), List.getElem?_eq_getElem _⟩
            obtain ⟨y, hy⟩ : ∃ y, ms[j]? = some y := ⟨ms[j]'(by omega), List.getElem?_eq_getElem _⟩
            exact ⟨x, y, hx, hy, e2 i j x y hx hy⟩
        rw [hiff] at key
        rcases key with ⟨p1, env', S', p2, o2, o3, g, rfl, rfl⟩ | ⟨p1, S', p2, g, rfl⟩
        · refine ⟨true, g, ?_, by simp [p1]⟩
          (try simp [lpOut, lpIn] at p2)
          simp [T__law_is_point, b__law_is_point, ht, hl, h2', hd, ec, ea, p2]
        · refine ⟨false, g, ?_, by simp [p1]⟩
          (try simp [lpOut, lpIn] at p2)
          simp [T__law_is_point, b__law_is_point, ht, hl, h2', hd, ec, ea, p2]
    · have h2' : ¬ ((ms.length : Int) = n) := by omega
      refine ⟨false, [], by simp [T__law_is_point, b__law_is_point, ht, hl, h2'], ?_⟩
      simp only [Bool.false_eq_true, false_iff]
      rintro ⟨ms', e1, e2, _⟩
      rw [hd] at e1; cases e1
      exact h2 e2
end DV
/-! Q9: the law's draws. -/
namespace DV
open PySem L2
abbrev cMO (c1 c2 c3 : Int) : MO := .lst [.loc 0, .int c1, .int c2, .int c3, .int 20]
structure CSt (ns : List Int) (c1 c2 c3 : Int) (t : Nat) (S : Sto) : Prop where
  s0 : S[0]? = some (.lst (ns.map .int))
  s1 : S[1]? = some (cMO c1 c2 c3)
  n1 : 0 ≤ c1
  n2 : 0 ≤ c2
  n3 : 0 ≤ c3
  t3 : c3 ≤ t
def CS (t : Nat) (S : Sto) : Prop := ∃ ns c1 c2 c3, CSt ns c1 c2 c3 t S
/-- nothing but the draws' state has changed -/
def Keep (S S' : Sto) : Prop := S'.length = S.length ∧ ∀ i, i ≠ 1 → S'[i]? = S[i]?
theorem Keep.refl (S : Sto) : Keep S S := ⟨rfl, fun _ _ => rfl⟩
theorem Keep.trans {S S' S'' : Sto} (h : Keep S S') (h' : Keep S' S'') : Keep S S'' := ⟨h'.1.trans h.1, fun i hi => (h'.2 i hi).trans (h.2 i hi)⟩
theorem Keep.set (S : Sto) (o : MO) : Keep S (S.set 1 o) := ⟨by simp, fun i hi => List.getElem?_set_ne (fun e => hi e.symm)⟩
theorem CSt.lt {ns : List Int} {c1 c2 c3 : Int} {t : Nat} {S : Sto} (h : CSt ns c1 c2 c3 t S) : 1 < S.length := (List.getElem?_eq_some_iff.mp h.s1).1
theorem CSt.set {ns : List Int} {c1 c2 c3 : Int} {t : Nat} {S : Sto} (h : CSt ns c1 c2 c3 t S) {d1 d2 d3 : Int} {u : Nat} (h1 : 0 ≤ d1) (h2 : 0 ≤ d2) (h3 : 0 ≤ d3) (h4 : d3 ≤ u) : CSt ns d1 d2 d3 u (S.set 1 (cMO d1 d2 d3)) :=
  ⟨by rw [List.getElem?_set_ne (by decide)]; exact h.s0, List.getElem?_set_self h.lt, h1, h2, h3, h4⟩
theorem CS.mono {t u : Nat} {S : Sto} (h : CS t S) (l : t ≤ u) : CS u S := by
  obtain ⟨ns, c1, c2, c3, h⟩ := h
  exact ⟨ns, c1, c2, c3, h.s0, h.s1, h.n1, h.n2, h.n3, by have := h.t3; omega⟩
theorem CS.app {t : Nat} {S : Sto} (h : CS t S) (g : Sto) : CS t (S ++ g) := by
  obtain ⟨ns, c1, c2, c3, h⟩ := h
  have := h.lt
  exact ⟨ns, c1, c2, c3, by rw [List.getElem?_append_left (by omega)]; exact h.s0, by rw [List.getElem?_append_left (by omega)]; exact h.s1, h.n1, h.n2, h.n3, h.t3⟩
theorem lgI {x : Int} {k : Nat} (h : x.natAbs < 2 ^ (k + 1)) : x.natAbs.log2 ≤ k := lg h
/-- the last steps of a fill: from the number -/
def fillEnd : EvS := (sSeq (sSet 1 (eBin oMod (eCB gInt (aCons (eBin oAdd (eBin oMul (eVar 1) (eC (.int 48271))) (eBin oMul (eIx (eVar 0) (eC (.int 3))) (eC (.int 69621)))) aNil)) (eC (.int 2147483647))))
    (sRet (eBin oAdd (eBin oDiv (eCB gInt (aCons (eBin oAdd (eBin oAdd (eBin oMul (eVar 1) (eVar 1)) (eBin oMul (eIx (eVar 0) (eC (.int 3))) (eC (.int 7919)))) (eC (.int 11))) aNil)) (eC (.int 64))) (eC (.int 36028797018963968)))))
theorem ix_c {S : Sto} {c1 c2 c3 : Int} (h : S[1]? = some (cMO c1 c2 c3)) : ixD (.loc 1) (.int 3) S = some (.int c3) ∧ ixD (.loc 1) (.int 2) S = some (.int c2) ∧ ixD (.loc 1) (.int 1) S = some (.int c1) ∧ ixD (.loc 1) (.int 0) S = some (.loc 0) := by
  refine ⟨?_, ?_, ?_, ?_⟩ <;> rw [ix_loc h] <;> simp
theorem fillEnd_ok {S : Sto} {c1 c2 c3 x : Int} (h : S[1]? = some (cMO c1 c2 c3)) (h0 : 0 ≤ x) (hx : x < 2 ^ 70) (h3 : 0 ≤ c3) (h3' : c3 < 2 ^ 60) : ∃ y : Int, fillEnd [some (.loc 1), some (.int x)] S = .ret (.int y) S ∧ 36028797018963968 ≤ y := by
  obtain ⟨i3, _, _, _⟩ := ix_c h
  have l1 : x.natAbs.log2 ≤ 69 := lgI (by omega)
  have l2 : c3.natAbs.log2 ≤ 59 := lgI (by omega)
  have k1 : Nat.log2 48271 ≤ 15 := lg (by decide)
  have k2 : Nat.log2 69621 ≤ 16 := lg (by decide)
  have k3 : Nat.log2 7919 ≤ 12 := lg (by decide)
  have k4 : Nat.log2 64 ≤ 6 := lg (by decide)
  have hm0 : 0 ≤ (x * 48271 + c3 * 69621) % 2147483647 := Int.emod_nonneg _ (by decide)
  have hm1 : (x * 48271 + c3 * 69621) % 2147483647 < 2147483647 := Int.emod_lt_of_pos _ (by decide)
  generalize hz : (x * 48271 + c3 * 69621) % 2147483647 = z at hm0 hm1
  have l3 : z.natAbs.log2 ≤ 30 := lgI (by omega)
  have g1 : x.natAbs.log2 + Nat.log2 48271 < 1000000 := by omega
  have g2 : c3.natAbs.log2 + Nat.log2 69621 < 1000000 := by omega
  have g3 : z.natAbs.log2 + z.natAbs.log2 < 1000000 := by omega
  have g4 : c3.natAbs.log2 + Nat.log2 7919 < 1000000 := by omega
  have g5 : Nat.log2 64 < 9000 := by omega
  have hq : 0 ≤ z * z := Int.mul_nonneg hm0 hm0
  refine ⟨(z * z + c3 * 7919 + 11) / 64 + 36028797018963968, ?_, by omega⟩
  simp [fillEnd, i3, g1, g2, hz, g3, g4, g5]
theorem set_c {S : Sto} {c1 c2 c3 : Int} (h : S[1]? = some (cMO c1 c2 c3)) (v : Int) : setLD (.loc 1) (.int 3) (.int v) S = some (S.set 1 (cMO c1 c2 v)) ∧ setLD (.loc 1) (.int 2) (.int v) S = some (S.set 1 (cMO c1 v c3)) ∧ setLD (.loc 1) (.int 1) (.int v) S = some (S.set 1 (cMO v c2 c3)) := by
  refine ⟨?_, ?_, ?_⟩ <;> simp [setLD, mutL, h, cMO, ixN]
theorem last_int {ns : List Int} (h : ns ≠ []) : ∃ v, atI (ns.map D.int) (-1) = some (.int v) := by
  have hl : 0 < ns.length := List.length_pos_iff.mpr h
  have e : ixN (ns.map D.int).length (-1) = some (ns.length - 1) := by
    unfold ixN
    rw [List.length_map, if_neg (by decide), if_pos (by omega)]
    congr 1; omega
  unfold atI
  rw [e, Option.bind_some, List.getElem?_map, List.getElem?_eq_getElem (by omega)]
  exact ⟨_, rfl⟩
/-- where the script is used up, its last number is mixed in -/
def fillMix : EvS := (sSeq (sIf (bAnd (tTru (eIx (eVar 0) (eC (.int 0)))) (tBin (oBl cGe) (eIx (eVar 0) (eC (.int 1))) (eCB gLenD (aCons (eIx (eVar 0) (eC (.int 0))) aNil)))) (sSet 1 (eBin oAdd (eVar 1) (eBin oMod (eCB gInt (aCons (eIx (eIx (eVar 0) (eC (.int 0))) (eUn oNeg (eC (.int 1)))) aNil)) (eC (.int 1000003))))) sNil) fillEnd)
theorem fillMix_ok {S : Sto} {ns : List Int} {c1 c2 c3 x : Int} (s0 : S[0]? = some (.lst (ns.map .int))) (h : S[1]? = some (cMO c1 c2 c3)) (h0 : 0 ≤ x) (hx : x < 2 ^ 69) (h3 : 0 ≤ c3) (h3' : c3 < 2 ^ 60) : ∃ y : Int, fillMix [some (.loc 1), some (.int x)] S = .ret (.int y) S ∧ 36028797018963968 ≤ y := by
  obtain ⟨i3, _, i1, i0⟩ := ix_c h
  have ht : truD (.loc 0) S = some (!ns.isEmpty) := by simp [truD, s0]
  have hl : gLenD [.loc 0] S = some (.int ns.length) := by simp [gLenD, lenD, s0]
  by_cases hn : ns = []
  · subst hn
    obtain ⟨y, e, hy⟩ := fillEnd_ok h h0 (by omega) h3 h3'
    refine ⟨y, ?_, hy⟩
    simp [fillMix, i0, ht, e]
  · have hne : ns.isEmpty = false := by simpa using hn
    by_cases hc : (ns.length : Int) ≤ c1
    · obtain ⟨v, hv⟩ := last_int hn
      have hix : ixD (.loc 0) (.int (-1)) S = some (.int v) := by rw [ix_loc s0]; exact hv
      have m0 : 0 ≤ v % 1000003 := Int.emod_nonneg _ (by decide)
      have m1 : v % 1000003 < 1000003 := Int.emod_lt_of_pos _ (by decide)
      obtain ⟨y, e, hy⟩ := fillEnd_ok h (x := x + v % 1000003) (by omega) (by omega) h3 h3'
      refine ⟨y, ?_, hy⟩
      simp [fillMix, i0, i1, ht, hne, hl, hc, hix, e]
    · obtain ⟨y, e, hy⟩ := fillEnd_ok h h0 (by omega) h3 h3'
      refine ⟨y, ?_, hy⟩
      simp [fillMix, i0, i1, ht, hne, hl, hc, e]
theorem fill_body : b__law_fill = (sSeq (sPut' setLD (eVar 0) (eC (.int 3)) (eBin oAdd (eIx (eVar 0) (eC (.int 3))) (eC (.int 1))))
    (sSeq (sSet 1 (eBin oAdd (eBin oMul (eIx (eVar 0) (eC (.int 3))) (eC (.int 69621))) (eC (.int 12345))))
    (sSeq (sIf (tBin (oBl cLt) (eIx (eVar 0) (eC (.int 1))) (eCB gLenD (aCons (eIx (eVar 0) (eC (.int 0))) aNil))) (sSeq (sSet 1 (eCB gMax2 (aCons (eIx (eIx (eVar 0) (eC (.int 0))) (eIx (eVar 0) (eC (.int 1)))) (aCons (eBin oSub (eBin oSub (eC (.int 0)) (eC (.int 1))) (eIx (eIx (eVar 0) (eC (.int 0))) (eIx (eVar 0) (eC (.int 1))))) aNil))))
    (sSeq (sPut' setLD (eVar 0) (eC (.int 1)) (eBin oAdd (eIx (eVar 0) (eC (.int 1))) (eC (.int 1))))
    (sIf (tBin (oBl cGe) (eVar 1) (eBin oPow (eC (.int 10)) (eC (.int 18)))) (sRet (eVar 1)) sNil))) sNil) fillMix))) := rfl
theorem fill_ok {ns : List Int} {c1 c2 c3 : Int} {t : Nat} {S : Sto} (h : CSt ns c1 c2 c3 t S) (ht : t < 2 ^ 50) : ∃ (y d1 : Int) (S' : Sto), T__law_fill [.loc 1] S = .ok (.int y) S' ∧ 1000 ≤ y ∧ CSt ns d1 c2 (c3 + 1) (t + 1) S' ∧ Keep S S' := by
  have hb := h.t3
  have hn3 := h.n3
  obtain ⟨i3, _, i1, i0⟩ := ix_c h.s1
  obtain ⟨w3, _, _⟩ := set_c h.s1 (c3 + 1)
  have hc1 : CSt ns c1 c2 (c3 + 1) (t + 1) (S.set 1 (cMO c1 c2 (c3 + 1))) := h.set h.n1 h.n2 (by omega) (by omega)
  have kp := Keep.set S (cMO c1 c2 (c3 + 1))
  generalize hS1 : S.set 1 (cMO c1 c2 (c3 + 1)) = S1 at w3 hc1 kp
  obtain ⟨j3, _, j1, j0⟩ := ix_c hc1.s1
  have hl : gLenD [.loc 0] S1 = some (.int ns.length) := by simp [gLenD, lenD, hc1.s0]
  have k2 : Nat.log2 69621 ≤ 16 := lg (by decide)
  have l2 : (c3 + 1).natAbs.log2 ≤ 50 := lgI (by omega)
  have g2 : (c3 + 1).natAbs.log2 + Nat.log2 69621 < 1000000 := by omega
  by_cases hlt : c1 < ns.length
  · obtain ⟨_, _, w1⟩ := set_c hc1.s1 (c1 + 1)
    have hc2 : CSt ns (c1 + 1) c2 (c3 + 1) (t + 1) (S1.set 1 (cMO (c1 + 1) c2 (c3 + 1))) := hc1.set (by have := h.n1; omega) h.n2 (by omega) hc1.t3
    have kp2 := kp.trans (Keep.set S1 (cMO (c1 + 1) c2 (c3 + 1)))
    generalize hS2 : S1.set 1 (cMO (c1 + 1) c2 (c3 + 1)) = S2 at w1 hc2 kp2
    have hget : ∃ v, ixD (.loc 0) (.int c1) S1 = some (.int v) := by
      refine ⟨ns[c1.toNat]'(by have := h.n1; omega), ?_⟩
      rw [ix_loc hc1.s0, atI_nat' h.n1, List.getElem?_map, List.getElem?_eq_getElem (by have := h.n1; omega)]; rfl
    obtain ⟨v, hv⟩ := hget
    generalize hx : (if -1 - v > v then -1 - v else v) = x
    have hx0 : 0 ≤ x := by rw [← hx]; split <;> omega
    have hmx : gMax2 [.int v, .int (-1 - v)] S1 = some (.int x) := by rw [gMax2_int, hx]
    by_cases hbig : (1000000000000000000 : Int) ≤ x
    · refine ⟨x, c1 + 1, S2, ?_, by omega, hc2, kp2⟩
      simp [T__law_fill, fill_body, i3, w3, j3, j1, j0, g2, hl, hlt, hv, hmx, w1, hbig]
    · obtain ⟨y, e, hy⟩ := fillMix_ok hc2.s0 hc2.s1 hx0 (by omega) (by omega) (by omega)
      refine ⟨y, c1 + 1, S2, ?_, by omega, hc2, kp2⟩
      simp [T__law_fill, fill_body, i3, w3, j3, j1, j0, g2, hl, hlt, hv, hmx, w1, hbig, e]
  · obtain ⟨y, e, hy⟩ := fillMix_ok (x := (c3 + 1) * 69621 + 12345) hc1.s0 hc1.s1 (by omega) (by omega) (by omega) (by omega)
    refine ⟨y, c1, S1, ?_, by omega, hc1, kp⟩
    simp [T__law_fill, fill_body, i3, w3, j3, j1, j0, g2, hl, hlt, e]
theorem take_ok {t : Nat} {S : Sto} (h : CS t S) (ht : t < 2 ^ 50) (m : Nat) (hm : 0 < m) (hm2 : m ≤ 1000) : ∃ (d : Nat) (S' : Sto), d < m ∧ T__law_take [.loc 1, .int m] S = .ok (.int d) S' ∧ CS (t + 1) S' ∧ Keep S S' := by
  obtain ⟨ns, c1, c2, c3, h⟩ := h
  obtain ⟨_, i2, _, _⟩ := ix_c h.s1
  have l1 : m.log2 ≤ 9 := lg (by omega)
  have g1 : m.log2 < 9000 := by omega
  -- the state behind the first if
  have key : ∃ (x d1 d3 : Int) (S1 : Sto), (sIf (tBin (oBl cLt) (eIx (eVar 0) (eC (.int 2))) (eVar 1)) (sPut' setLD (eVar 0) (eC (.int 2)) (eCall 1 T__law_fill (aCons (eVar 0) aNil))) sNil) [some (.loc 1), some (.int m), none] S = .nx [some (.loc 1), some (.int m), none] S1 ∧ 0 ≤ x ∧ CSt ns d1 x d3 (t + 1) S1 ∧ Keep S S1 := by
    by_cases hlt : c2 < m
    · obtain ⟨y, d1, S1, e, hy, hc, kp⟩ := fill_ok h ht
      obtain ⟨_, w2, _⟩ := set_c hc.s1 y
      refine ⟨y, d1, c3 + 1, S1.set 1 (cMO d1 y (c3 + 1)), ?_, by omega, hc.set hc.n1 (by omega) hc.n3 hc.t3, kp.trans (Keep.set _ _)⟩
      simp [i2, hlt, e, w2]
    · refine ⟨c2, c1, c3, S, ?_, h.n2, ⟨h.s0, h.s1, h.n1, h.n2, h.n3, by have := h.t3; omega⟩, Keep.refl S⟩
      simp [i2, hlt]
  obtain ⟨x, d1, d3, S1, e, hx, hc, kp⟩ := key
  obtain ⟨_, j2, _, _⟩ := ix_c hc.s1
  have m0 : 0 ≤ x % m := Int.emod_nonneg _ (by omega)
  have m1 : x % m < m := Int.emod_lt_of_pos _ (by omega)
  obtain ⟨_, w2, _⟩ := set_c hc.s1 (x / m)
  refine ⟨(x % m).toNat, S1.set 1 (cMO d1 (x / m) d3), by omega, ?_, ⟨ns, d1, x / m, d3, hc.set hc.n1 (Int.ediv_nonneg hx (by omega)) hc.n3 hc.t3⟩, kp.trans (Keep.set _ _)⟩
  have e2 : (((x % m).toNat : Nat) : Int) = x % m := by omega
  have hb : b__law_take = sSeq (sIf (tBin (oBl cLt) (eIx (eVar 0) (eC (.int 2))) (eVar 1)) (sPut' setLD (eVar 0) (eC (.int 2)) (eCall 1 T__law_fill (aCons (eVar 0) aNil))) sNil) (sSeq (sSet 2 (eBin oMod (eCB gInt (aCons (eIx (eVar 0) (eC (.int 2))) aNil)) (eVar 1)))
    (sSeq (sPut' setLD (eVar 0) (eC (.int 2)) (eBin oDiv (eIx (eVar 0) (eC (.int 2))) (eVar 1)))
    (sRet (eVar 2)))) := rfl
  rw [e2]
  simp only [T__law_take, hb, run_def, start_def]
  show (match sThen ((sIf _ _ _) [some (.loc 1), some (.int m), none] S) _ with | .nx _ S' => _ | .ret d S' => _ | .exc c _ S' => _ | _ => _) = _
  rw [e]
  simp [j2, hm, g1, w2]
end DV
/-! P10: drawn fractions and polynomials. -/
namespace DV
open PySem L2
abbrev bb : Nat := 4200000000000
theorem tab_new (S : Sto) (T : Tb) : tabAt (S ++ [.dT (encT T)]) S.length T := by simp [tabAt]
structure PB (N c M B : Nat) (L : Tb) : Prop where
  cn : Canon L
  ln : ∀ a ∈ L, a.1.length = N
  le : L.length ≤ c
  cb : ∀ a ∈ L, CB M B a.2
theorem above_ok : ∀ i, i < 7 → ∃ a : Int, ([.int (-3), .int (-1), .int 1, .int 2, .int 5, .int 12, .int 100000000000] : List D)[i]? = some (.int a) ∧ a ≠ 0 ∧ a.natAbs ≤ 100000000000
  | 0, _ => ⟨-3, rfl, by decide, by decide⟩
  | 1, _ => ⟨-1, rfl, by decide, by decide⟩
  | 2, _ => ⟨1, rfl, by decide, by decide⟩
  | 3, _ => ⟨2, rfl, by decide, by decide⟩
  | 4, _ => ⟨5, rfl, by decide, by decide⟩
  | 5, _ => ⟨12, rfl, by decide, by decide⟩
  | 6, _ => ⟨100000000000, rfl, by decide, by decide⟩
theorem below_ok : ∀ i, i < 6 → ∃ b c : Nat, ([.int 1, .int 1, .int 1, .int 2, .int 3, .int 7] : List D)[i]? = some (.int (b : Nat)) ∧ b * c = 42 ∧ 0 < b ∧ b ≤ 7 ∧ c ≤ 42 ∧ c ≠ 0
  | 0, _ => ⟨1, 42, rfl, by decide, by decide, by decide, by decide, by decide⟩
  | 1, _ => ⟨1, 42, rfl, by decide, by decide, by decide, by decide, by decide⟩
  | 2, _ => ⟨1, 42, rfl, by decide, by decide, by decide, by decide, by decide⟩
  | 3, _ => ⟨2, 21, rfl, by decide, by decide, by decide, by decide, by decide⟩
  | 4, _ => ⟨3, 14, rfl, by decide, by decide, by decide, by decide, by decide⟩
  | 5, _ => ⟨7, 6, rfl, by decide, by decide, by decide, by decide, by decide⟩
theorem fraction_ok {t : Nat} {S : Sto} (h : CS t S) (ht : t < 2 ^ 49) : ∃ (x : Rat) (S' : Sto), T__law_fraction [.loc 1] S = .ok (frD x) S' ∧ x ≠ 0 ∧ CB 42 bb x ∧ CS (t + 2) S' ∧ Keep S S' := by
  obtain ⟨i, S1, hi, e1, h1, k1⟩ := take_ok h (by omega) 7 (by decide) (by decide)
  obtain ⟨j, S2, hj, e2, h2, k2⟩ := take_ok h1 (by omega) 6 (by decide) (by decide)
  obtain ⟨a, ha, ha0, hab⟩ := above_ok i hi
  obtain ⟨b, c, hb, hbc, hb0, hb7, hc, hc0⟩ := below_ok j hj
  have e3 := T_law_ratio_ok a b S2 hb0 (Nat.lt_of_le_of_lt hb7 (Nat.lt_of_lt_of_le (show 7 < 2 ^ 3 by decide) (Nat.pow_le_pow_right (by decide) (by decide))))
  refine ⟨mkRat a b, S2, ?_, (Rat.mkRat_ne_zero (by omega)).mpr ha0, ⟨a * c, ?_, ?_⟩, h2, k1.trans k2⟩
  · have e1' : T__law_take [.loc 1, .int 7] S = .ok (.int i) S1 := e1
    have e2' : T__law_take [.loc 1, .int 6] S1 = .ok (.int j) S2 := e2
    simp [T__law_fraction, b__law_fraction, e1', ha, e2', hb, e3]
  · rw [← hbc]; exact (Rat.mkRat_mul_right hc0).symm
  · rw [Int.natAbs_mul, Int.natAbs_natCast]
    exact Nat.mul_le_mul hab hc
/-- a drawn key -/
theorem key_draw (n : Nat) (v4 v5 v6 v7 : Option D) : ∀ (is : List D) (t : Nat) (S : Sto) (acc : List D), CS t S → t + 2 * is.length < 2 ^ 49 → acc.length + is.length ≤ LN → ∃ (m : Mon) (S' : Sto),
    compD [6] (gN 6) tYes' (eBin oMul (eCall 2 T__law_take (aCons (eVar 0) (aCons (eBin oAdd (eVar 3) (eC (.int 1))) aNil))) (eCall 2 T__law_take (aCons (eVar 0) (aCons (eC (.int 2)) aNil)))) [some (.loc 1), some (.int n), v4, some (.int 3), v5, v6, v7] is acc S = .ok (acc ++ m.map .int) S' ∧
      m.length = is.length ∧ (∀ e ∈ m, 0 ≤ e ∧ e ≤ 3) ∧ CS (t + 2 * is.length) S' ∧ Keep S S'
  | [], t, S, acc, h, _, _ => ⟨[], S, by simp [compD], rfl, fun _ h => (by cases h), h, Keep.refl S⟩
  | d :: is, t, S, acc, h, hl, hL => by
    rw [List.length_cons] at hl hL
    have hLN : LN = 16777216 := rfl
    obtain ⟨a, S1, ha, e1, h1, k1⟩ := take_ok h (by omega) 4 (by decide) (by decide)
    obtain ⟨b, S2, hb, e2, h2, k2⟩ := take_ok h1 (by omega) 2 (by decide) (by decide)
    have e1' : T__law_take [.loc 1, .int 4] S = .ok (.int a) S1 := e1
    have e2' : T__law_take [.loc 1, .int 2] S1 = .ok (.int b) S2 := e2
    obtain ⟨m, S3, e3, hm, he, h3, k3⟩ := key_draw n v4 v5 v6 v7 is (t + 1 + 1) S2 (acc ++ [.int (a * b)]) h2 (by omega) (by simp; omega)
    have l1 : a.log2 ≤ 2 := lg (by omega)
    have l2 : b.log2 ≤ 1 := lg (by omega)
    have g : a.log2 + b.log2 < 1000000 := by omega
    have hacc : acc.length < 16777216 := by omega
    refine ⟨((a * b : Nat) : Int) :: m, S3, ?_, by simp [hm], ?_, by rw [List.length_cons, show t + 2 * (is.length + 1) = t + 1 + 1 + 2 * is.length by omega]; exact h3, (k1.trans k2).trans k3⟩
    · unfold compD
      simp [wipeA, e1', e2', g, hacc] at e3 ⊢
      rw [e3]
    · intro e hm'
      rcases List.mem_cons.mp hm' with rfl | hm'
      · have : a * b ≤ 3 * 1 := Nat.mul_le_mul (by omega) (by omega)
        omega
      · exact he e hm'
/-- a drawn polynomial -/
structure Drawn (N c : Nat) (L : Tb) : Prop where
  pb : PB N c 42 bb L
  ent : ∀ a ∈ L, ∀ e ∈ a.1, 0 ≤ e ∧ e ≤ 3
structure DT1 (N c : Nat) (T : Tb) : Prop where
  ok : TbOk N T
  cb : ∀ a ∈ T, CB 42 bb a.2
  ent : ∀ a ∈ T, ∀ e ∈ a.1, 0 ≤ e ∧ e ≤ 3
  le : T.length ≤ c
theorem mem_pt {T : Tb} {m : Mon} {x : Rat} {a : Mon × Rat} (h : a ∈ pt T m x) : a ∈ T ∨ a = (m, x) := by
  unfold pt at h
  split at h
  · obtain ⟨b, hb, e⟩ := List.mem_map.mp h
    split at e
    · rename_i hm; rw [hm] at e; exact .inr e.symm
    · rw [← e]; exact .inl hb
  · rcases List.mem_append.mp h with h | h
    · exact .inl h
    · simp at h; exact .inr h
theorem polynomial_ok {t n terms : Nat} {S : Sto} (h : CS t S) (ht : t < 2 ^ 48) (hn : 0 < n) (hn2 : n ≤ 3) (hte : terms ≤ 5) : ∃ (L : Tb) (S' : Sto), T__law_polynomial [.loc 1, .int n, .int terms, .int 3] S = .ok (.fup (polyL L)) S' ∧ Drawn n terms L ∧ CS (t + 100) S' := by
  have hLN : LN = 16777216 := rfl
  have h0 : CS t (S ++ [.dT (encT [])]) := h.app _
  have hS1 : 1 < S.length := by obtain ⟨ns, c1, c2, c3, h⟩ := h; exact h.lt
  obtain ⟨k, S1, hk, e1, h1, k1⟩ := take_ok h0 (by omega) (terms + 1) (by omega) (by omega)
  have hT1 : tabAt S1 S.length [] := by
    unfold tabAt
    rw [k1.2 _ (by omega)]
    exact tab_new S []
  obtain ⟨env', S', g1, i, T, o5, o6, e2, e3, rfl, e5, e6, e7⟩ := forD_rule (g := gN 5) (f := (sPut' dPutD (eVar 4) (eOfL gTup (lComp [6] (iRng1' (aCons (eVar 1) aNil)) (gN 6) tYes' (eBin oMul (eCall 2 T__law_take (aCons (eVar 0) (aCons (eBin oAdd (eVar 3) (eC (.int 1))) aNil))) (eCall 2 T__law_take (aCons (eVar 0) (aCons (eC (.int 2)) aNil)))))) (eCall 1 T__law_fraction (aCons (eVar 0) aNil))))
    (fun ds env S1 => ∃ i T o5 o6, i ≤ k ∧ ds.length = k - i ∧ env = [some (.loc 1), some (.int n), some (.int terms), some (.int 3), some (.loc S.length), o5, o6] ∧ tabAt S1 S.length T ∧ CS (t + 1 + 8 * i) S1 ∧ DT1 n i T)
    (by
      rintro d ds env S1 ⟨i, T, o5, o6, e2, e3, rfl, e5, e6, e7⟩
      simp only [List.length_cons] at e3
      obtain ⟨x, S2, f1, hx0, hcb, h2, k2⟩ := fraction_ok e6 (by omega)
      obtain ⟨m, S3, f2, hm, hent, h3, k3⟩ := key_draw n (some (.int terms)) (some (.loc S.length)) (some d) o6 (rngD 0 n) (t + 1 + 8 * i + 2) S2 [] h2 (by rw [rng_len]; omega) (by rw [rng_len]; simp; omega)
      rw [rng_len] at hm h3
      have hT3 : tabAt S3 S.length T := by
        unfold tabAt
        rw [k3.2 _ (by omega), k2.2 _ (by omega)]; exact e5
      have hput := put_T hT3 (by have := e7.le; omega) m x
      have hr : iRng1K [.int n] S2 = .ok (rngD 0 n) S2 := rng1_nat S2 (by omega)
      refine ⟨([some (.loc 1), some (.int n), some (.int terms), some (.int 3), some (.loc S.length), some d, o6], S1), [some (.loc 1), some (.int n), some (.int terms), some (.int 3), some (.loc S.length), some d, o6], S3.set S.length (.dT (encT (pt T m x))), by simp, ?_, i + 1, pt T m x, some d, o6, by omega, by omega, rfl, hT3.set, ?_, ?_⟩
      · have hmd : D.tup (m.map .int) = mD m := rfl
        rw [List.nil_append] at f2
        simp [f1] at hr ⊢
        simp [hr, f2, hmd, hput]
      · have h4 : CS (t + 1 + 8 * (i + 1)) S3 := h3.mono (by omega)
        obtain ⟨ns, c1, c2, c3, h5⟩ := h4
        refine ⟨ns, c1, c2, c3, ?_, ?_, h5.n1, h5.n2, h5.n3, h5.t3⟩
        · rw [List.getElem?_set_ne (by omega)]; exact h5.s0
        · rw [List.getElem?_set_ne (by omega)]; exact h5.s1
      · refine ⟨e7.ok.pt hm, fun a ha => ?_, fun a ha => ?_, by have := len_pt T m x; have := e7.le; omega⟩
        · rcases mem_pt ha with ha | rfl
          · exact e7.cb a ha
          · exact hcb
        · rcases mem_pt ha with ha | rfl
          · exact e7.ent a ha
          · exact hent)
    (rngD 0 k) [some (.loc 1), some (.int n), some (.int terms), some (.int 3), some (.loc S.length), none, none] S1 ⟨0, [], none, none, Nat.zero_le _, by rw [rng_len]; rfl, rfl, hT1, h1.mono (by omega), ⟨TbOk.nil n, fun _ h => (by cases h), fun _ h => (by cases h), Nat.zero_le _⟩⟩
  have hik : i ≤ terms := by omega
  obtain ⟨L, e, tl⟩ := T_law_told_ok e5 e7.ok.nd (by have := e7.le; omega)
  refine ⟨L, S', ?_, ⟨⟨tl.cn, fun a ha => e7.ok.ln a (tl.sub a ha), Nat.le_trans tl.len (Nat.le_trans e7.le hik), fun a ha => e7.cb a (tl.sub a ha)⟩, fun a ha => e7.ent a (tl.sub a ha)⟩, e6.mono (by omega)⟩
  have hr : iRng1K [.int k] S1 = .ok (rngD 0 k) S1 := rng1_nat S1 (by omega)
  have e1' : T__law_take [.loc 1, .int (terms + 1)] (S ++ [.dT []]) = .ok (.int k) S1 := e1
  simp [T__law_polynomial, b__law_polynomial] at hr g1 ⊢
  simp [e1', hr, g1, e]
end DV
/-! R9: drawn matrices. -/
namespace DV
open PySem L2
theorem gd_tup {ds : List D} (hl : ds.length ≤ 6) (h : ∀ d ∈ ds, gd d = true) : gd (.tup ds) = true := by
  simp only [gd, Bool.and_eq_true, Nat.ble_eq]; exact ⟨hl, gds_of h⟩
theorem gd_i {i : Int} (h : i.natAbs < 2 ^ 20) : gd (.int i) = true := by simp only [gd, Nat.blt_eq]; exact h
theorem set_row {S : Sto} {n k : Nat} {rows : List D} (h : S[n]? = some (.lst rows)) (hk : k < rows.length) (v : D) : setLD (.loc n) (.int k) v S = some (S.set n (.lst (rows.set k v))) := loc_put h hk v
theorem CS.set {t n : Nat} {S : Sto} (h : CS t S) (hn : 2 ≤ n) (o : MO) : CS t (S.set n o) := by
  obtain ⟨ns, c1, c2, c3, h⟩ := h
  refine ⟨ns, c1, c2, c3, ?_, ?_, h.n1, h.n2, h.n3, h.t3⟩
  · rw [List.getElem?_set_ne (by omega)]; exact h.s0
  · rw [List.getElem?_set_ne (by omega)]; exact h.s1
theorem CS.len {t : Nat} {S : Sto} (h : CS t S) : 2 ≤ S.length := by
  obtain ⟨ns, c1, c2, c3, h⟩ := h; exact h.lt
theorem gApp_ok {S : Sto} {n : Nat} {rows : List D} (h : S[n]? = some (.lst rows)) (hl : rows.length < LN) (y : D) : gApp (.loc n) [y] S = some (.non, S.set n (.lst (rows ++ [y]))) := by
  simp only [gApp, mutL, h]
  rw [if_pos hl]
theorem tyD_lst {S : Sto} {n : Nat} {rows : List D} (h : S[n]? = some (.lst rows)) : tyD "list" (.loc n) S = true := by simp [tyD, h]
theorem gTupD_ok {S : Sto} {n : Nat} {rows : List D} (h : S[n]? = some (.lst rows)) : gTupD [.loc n] S = some (.tup rows) := by simp [gTupD, lstOf, h]
/-- what lies below m has not changed, but for the draws' state -/
structure Fr (m : Nat) (S S' : Sto) : Prop where
  le : S.length ≤ S'.length
  at_ : ∀ n, n < m → n ≠ 1 → S'[n]? = S[n]?
theorem Fr.refl (m : Nat) (S : Sto) : Fr m S S := ⟨Nat.le_refl _, fun _ _ _ => rfl⟩
theorem Fr.trans {m : Nat} {S S' S'' : Sto} (h : Fr m S S') (g : Fr m S' S'') : Fr m S S'' := ⟨Nat.le_trans h.le g.le, fun n a b => (g.at_ n a b).trans (h.at_ n a b)⟩
theorem Fr.low {m m' : Nat} {S S' : Sto} (h : Fr m S S') (l : m' ≤ m) : Fr m' S S' := ⟨h.le, fun n a b => h.at_ n (by omega) b⟩
theorem Fr.keep {m : Nat} {S S' : Sto} (h : Keep S S') : Fr m S S' := ⟨by rw [h.1]; exact Nat.le_refl _, fun n _ b => h.2 n b⟩
theorem Fr.app {m : Nat} (S g : Sto) (l : m ≤ S.length) : Fr m S (S ++ g) := ⟨by simp, fun n a _ => by rw [List.getElem?_append_left (by omega)]⟩
theorem Fr.set {m n : Nat} (S : Sto) (o : MO) (l : m ≤ n) : Fr m S (S.set n o) := ⟨by simp, fun k a _ => by rw [List.getElem?_set_ne (by omega)]⟩
theorem Fr.get {m n : Nat} {S S' : Sto} {o : MO} (h : Fr m S S') (l : n < m) (h1 : n ≠ 1) (e : S[n]? = some o) : S'[n]? = some o := by rw [h.at_ n l h1]; exact e
/-- an entry that is drawn -/
def entOk (d : D) : Prop := gd d = true ∧ isR d = true ∧ CB 2 4 (valR d)
theorem isR_frD (x : Rat) : isR (frD x) = true := by
  show (decide (0 < (x.den : Int)) && decide (Int.gcd x.num x.den = 1)) = true
  have h1 : (0 : Int) < x.den := by have := x.den_pos; omega
  have h2 : Int.gcd x.num x.den = 1 := x.reduced
  rw [decide_eq_true h1, decide_eq_true h2]; rfl
theorem valR_frD (x : Rat) : valR (frD x) = x := by
  show mkRat x.num (x.den : Int).toNat = x
  rw [Int.toNat_natCast]; exact Rat.mkRat_self x
theorem entOk_mk {a : Int} {m : Nat} (ha : a.natAbs ≤ 2) (hm : m = 1 ∨ m = 2) : entOk (frD (mkRat a m)) := by
  have hm0 : 0 < m := by omega
  refine ⟨gd_tup (by simp) fun d hd => ?_, isR_frD _, ?_⟩
  · simp only [List.mem_cons, List.mem_nil_iff, or_false] at hd
    have h1 := mk_num a m
    have h2 := mk_den (k := a) hm0
    have p : 10 < 2 ^ 20 := by decide
    rcases hd with rfl | rfl
    · exact gd_i (by omega)
    · exact gd_i (by omega)
  · rw [valR_frD]
    rcases hm with rfl | rfl
    · exact ⟨a * 2, (Rat.mkRat_mul_right (n := a) (d := 1) (a := 2) (by decide)).symm, by omega⟩
    · exact ⟨a, rfl, by omega⟩
theorem entOk_zero : entOk (.tup [.int 0, .int 1]) := entOk_mk (a := 0) (m := 1) (by decide) (.inl rfl)
def rowD (m : Nat) (r : D) : Prop := ∃ es, r = .tup es ∧ es.length = m ∧ ∀ e ∈ es, entOk e
def matD (m : Nat) (d : D) : Prop := ∃ rows, d = .tup rows ∧ rows.length = m ∧ ∀ r ∈ rows, rowD m r
abbrev mxIn : EvS := (sSeq (sSet 7 (eIf (bOr (tBin (oBl cLt) (eVar 2) (eC (.int 2))) (tBin (oBl cGt) (eVar 6) (eVar 4))) (eTup (aCons (eBin oSub (eCall 2 T__law_take (aCons (eVar 0) (aCons (eC (.int 5)) aNil))) (eC (.int 2))) (aCons (eC (.int 1)) aNil))) (eTup (aCons (eCB gInt (aCons (eBin (oBl cEq) (eVar 6) (eVar 4)) aNil)) (aCons (eC (.int 1)) aNil)))))
    (sExpr (eMet "list" gApp (eVar 5) (aCons (eIf (tBin (oBn cEq) (eIx (eVar 7) (eC (.int 0))) (eC (.int 0))) (eCall 2 T__law_ratio (aCons (eIx (eVar 7) (eC (.int 0))) (aCons (eBin oAdd (eC (.int 1)) (eCall 2 T__law_take (aCons (eVar 0) (aCons (eC (.int 2)) aNil)))) aNil))) (eTup (aCons (eC (.int 0)) (aCons (eC (.int 1)) aNil)))) aNil))))
abbrev mxOut : EvS := (sSeq (sSet 5 (eMat (lDisp aNil)))
    (sSeq (sFor (iRng1' (aCons (eVar 1) aNil)) (gN 6) mxIn)
    (sExpr (eMet "list" gApp (eVar 3) (aCons (eCB gTupD (aCons (eVar 5) aNil)) aNil)))))
/-- one entry is drawn -/
theorem mx_step {t m kind i k nf nr : Nat} {S : Sto} {R F : List D} (h : CS t S) (ht : t < 2 ^ 49) (hr : S[nr]? = some (.lst R)) (hf : S[nf]? = some (.lst F)) (hn2 : 2 ≤ nr) (hnf : 2 ≤ nf) (hne : nf ≠ nr) (hR : R.length < 100) (o7 : Option D) :
    ∃ (e : D) (o7' : Option D) (S' : Sto), mxIn [some (.loc 1), some (.int m), some (.int kind), some (.loc nf), some (.int i), some (.loc nr), some (.int k), o7] S = .nx [some (.loc 1), some (.int m), some (.int kind), some (.loc nf), some (.int i), some (.loc nr), some (.int k), o7'] S' ∧ entOk e ∧ CS (t + 2) S' ∧ S'[nr]? = some (.lst (R ++ [e])) ∧ S'[nf]? = some (.lst F) ∧ Fr nr S S' := by
  have hLN : LN = 16777216 := rfl
  -- the first number
  have w : ∃ (a : Int) (S1 : Sto), (sSet 7 (eIf (bOr (tBin (oBl cLt) (eVar 2) (eC (.int 2))) (tBin (oBl cGt) (eVar 6) (eVar 4))) (eTup (aCons (eBin oSub (eCall 2 T__law_take (aCons (eVar 0) (aCons (eC (.int 5)) aNil))) (eC (.int 2))) (aCons (eC (.int 1)) aNil))) (eTup (aCons (eCB gInt (aCons (eBin (oBl cEq) (eVar 6) (eVar 4)) aNil)) (aCons (eC (.int 1)) aNil))))) [some (.loc 1), some (.int m), some (.int kind), some (.loc nf), some (.int i), some (.loc nr), some (.int k), o7] S = .nx [some (.loc 1), some (.int m), some (.int kind), some (.loc nf), some (.int i), some (.loc nr), some (.int k), some (.tup [.int a, .int 1])] S1 ∧ a.natAbs ≤ 2 ∧ CS (t + 1) S1 ∧ Keep S S1 := by
    obtain ⟨x, S1, hx, e1, h1, k1⟩ := take_ok h (by omega) 5 (by decide) (by decide)
    have e1' : T__law_take [.loc 1, .int 5] S = .ok (.int x) S1 := e1
    by_cases c1 : kind < 2
    · have c1' : (kind : Int) < 2 := by omega
      exact ⟨(x : Int) - 2, S1, by simp [c1', e1'], by omega, h1, k1⟩
    · have c1' : ¬ (kind : Int) < 2 := by omega
      by_cases c2 : i < k
      · have c2' : (i : Int) < k := by omega
        exact ⟨(x : Int) - 2, S1, by simp [c1', c2, e1'], by omega, h1, k1⟩
      · have c2' : ¬ (i : Int) < k := by omega
        by_cases c3 : k = i
        · subst c3
          exact ⟨1, S, by simp [c1', gInt], by decide, h.mono (by omega), Keep.refl S⟩
        · have c3' : ¬ (k : Int) = i := by omega
          exact ⟨0, S, by simp [c1', c2, c3, c3', gInt], by decide, h.mono (by omega), Keep.refl S⟩
  obtain ⟨a, S1, e1, ha, h1, k1⟩ := w
  have hr1 : S1[nr]? = some (.lst R) := by rw [k1.2 _ (by omega)]; exact hr
  have hf1 : S1[nf]? = some (.lst F) := by rw [k1.2 _ (by omega)]; exact hf
  have ty := tyD_lst hr1
  by_cases h0 : a = 0
  · subst h0
    have hap := gApp_ok hr1 (by omega) (.tup [.int 0, .int 1])
    refine ⟨.tup [.int 0, .int 1], some (.tup [.int 0, .int 1]), S1.set nr (.lst (R ++ [.tup [.int 0, .int 1]])), seq_nx e1 ?_, entOk_zero, (h1.set hn2 _).mono (by omega), List.getElem?_set_self (List.getElem?_eq_some_iff.mp hr1).1, ?_, (Fr.keep k1).trans (Fr.set _ _ (Nat.le_refl _))⟩
    · simp [ty, hap]
    · rw [List.getElem?_set_ne (by omega)]; exact hf1
  · obtain ⟨y, S2, hy, e2, h2, k2⟩ := take_ok h1 (by omega) 2 (by decide) (by decide)
    have e2' : T__law_take [.loc 1, .int 2] S1 = .ok (.int y) S2 := e2
    have hr2 : S2[nr]? = some (.lst R) := by rw [k2.2 _ (by omega)]; exact hr1
    have hf2 : S2[nf]? = some (.lst F) := by rw [k2.2 _ (by omega)]; exact hf1
    have e3 := T_law_ratio_ok a (y + 1) S2 (by omega) (Nat.lt_of_le_of_lt (show y + 1 ≤ 2 by omega) (Nat.lt_of_lt_of_le (show 2 < 2 ^ 2 by decide) (Nat.pow_le_pow_right (by decide) (by decide))))
    have e4 : (1 + (y : Int)) = ((y + 1 : Nat) : Int) := by omega
    have hap := gApp_ok hr2 (by omega) (frD (mkRat a (y + 1)))
    refine ⟨frD (mkRat a (y + 1)), some (.tup [.int a, .int 1]), S2.set nr (.lst (R ++ [frD (mkRat a (y + 1))])), seq_nx e1 ?_, entOk_mk ha (by omega), h2.set hn2 _, List.getElem?_set_self (List.getElem?_eq_some_iff.mp hr2).1, ?_, ((Fr.keep k1).trans (Fr.keep k2)).trans (Fr.set _ _ (Nat.le_refl _))⟩
    · simp [ty, h0, e2', e4]
      rw [show ((y : Int) + 1) = ((y + 1 : Nat) : Int) by omega, e3]
      simp [hap]
    · rw [List.getElem?_set_ne (by omega)]; exact hf2
theorem mx_row {t m kind i nf : Nat} {S : Sto} {F : List D} (h : CS t S) (ht : t < 2 ^ 48) (hf : S[nf]? = some (.lst F)) (hnf : 2 ≤ nf) (hm : m ≤ 6) (hF : F.length < 100) (o5 o6 o7 : Option D) :
    ∃ (r : D) (o5' o6' o7' : Option D) (S' : Sto), mxOut [some (.loc 1), some (.int m), some (.int kind), some (.loc nf), some (.int i), o5, o6, o7] S = .nx [some (.loc 1), some (.int m), some (.int kind), some (.loc nf), some (.int i), o5', o6', o7'] S' ∧ rowD m r ∧ CS (t + 2 * m) S' ∧ S'[nf]? = some (.lst (F ++ [r])) ∧ Fr nf S S' := by
  have hLN : LN = 16777216 := rfl
  have hnl : nf < S.length := (List.getElem?_eq_some_iff.mp hf).1
  obtain ⟨env', S', h1, R, o6', o7', rfl, hR1, hR2, hR3, hR4, hR5, hR6⟩ := forD_idx (g := gN 6) (f := mxIn) m (ds := rngD 0 m) (rng_len 0 m)
    (fun k env S1 => ∃ R o6 o7, env = [some (.loc 1), some (.int m), some (.int kind), some (.loc nf), some (.int i), some (.loc S.length), o6, o7] ∧ R.length = k ∧ (∀ e ∈ R, entOk e) ∧ CS (t + 2 * k) S1 ∧ S1[S.length]? = some (.lst R) ∧ S1[nf]? = some (.lst F) ∧ Fr nf S S1)
    (by
      rintro k x env S1 hk hx ⟨R, o6, o7, rfl, hR1, hR2, hR3, hR4, hR5, hR6⟩
      have := rng_get hx; subst this
      obtain ⟨e, o7', S2, e1, e2, e3, e4, e5, e6⟩ := mx_step (m := m) (kind := kind) (i := i) (k := k) hR3 (by omega) hR4 hR5 (by omega) hnf (by omega) (by omega) o7
      refine ⟨([some (.loc 1), some (.int m), some (.int kind), some (.loc nf), some (.int i), some (.loc S.length), some (.int k), o7], S1), _, S2, by simp, e1, R ++ [e], _, _, rfl, by simp [hR1], fun d hd => ?_, e3, e4, e5, hR6.trans (e6.low (by omega))⟩
      rcases List.mem_append.mp hd with hd | hd
      · exact hR2 d hd
      · simp at hd; subst hd; exact e2)
    [some (.loc 1), some (.int m), some (.int kind), some (.loc nf), some (.int i), some (.loc S.length), o6, o7] (S ++ [.lst []]) ⟨[], o6, o7, rfl, rfl, fun _ h => (by cases h), h.app _, by simp, by rw [List.getElem?_append_left hnl]; exact hf, Fr.app _ _ (by omega)⟩
  have hlt : nf < S'.length := (List.getElem?_eq_some_iff.mp hR5).1
  have hap := gApp_ok hR5 (by omega) (.tup R)
  have ty := tyD_lst hR5
  have ht := gTupD_ok hR4
  refine ⟨.tup R, some (.loc S.length), o6', o7', S'.set nf (.lst (F ++ [.tup R])), seq_nx (env1 := [some (.loc 1), some (.int m), some (.int kind), some (.loc nf), some (.int i), some (.loc S.length), o6, o7]) (S1 := S ++ [.lst []]) (by simp) (seq_nx (env1 := [some (.loc 1), some (.int m), some (.int kind), some (.loc nf), some (.int i), some (.loc S.length), o6', o7']) (S1 := S') ?_ ?_), ⟨R, rfl, hR1, hR2⟩, hR3.set hnf _, List.getElem?_set_self hlt, hR6.trans (Fr.set _ _ (Nat.le_refl _))⟩
  · have hr : iRng1K [.int m] (S ++ [.lst []]) = .ok (rngD 0 m) (S ++ [.lst []]) := rng1_nat _ (by omega)
    simp at hr
    simp [hr, h1]
  · simp [ty, ht, hap]
theorem law_matrix_ok {t m : Nat} {S : Sto} (h : CS t S) (ht : t < 2 ^ 47) (hm : m ≤ 6) : ∃ (d : D) (S' : Sto), T__law_matrix [.loc 1, .int m] S = .ok d S' ∧ matD m d ∧ CS (t + 100) S' ∧ Fr S.length S S' := by
  have hLN : LN = 16777216 := rfl
  obtain ⟨kind, S0, hk, e0, h0, k0⟩ := take_ok h (by omega) 3 (by decide) (by decide)
  have e0' : T__law_take [.loc 1, .int 3] S = .ok (.int kind) S0 := e0
  obtain ⟨env', S', h1, F, o4, o5, o6, o7, rfl, f1, f2, f3, f4, f5⟩ := forD_idx (g := gN 4) (f := mxOut) m (ds := rngD 0 m) (rng_len 0 m)
    (fun i env S1 => ∃ F o4 o5 o6 o7, env = [some (.loc 1), some (.int m), some (.int kind), some (.loc S0.length), o4, o5, o6, o7] ∧ F.length = i ∧ (∀ r ∈ F, rowD m r) ∧ CS (t + 1 + 2 * m * i) S1 ∧ S1[S0.length]? = some (.lst F) ∧ Fr S0.length S0 S1)
    (by
      rintro i x env S1 hi hx ⟨F, o4, o5, o6, o7, rfl, f1, f2, f3, f4, f5⟩
      have := rng_get hx; subst this
      have hmi : 2 * m * i ≤ 12 * 6 := Nat.mul_le_mul (by omega) (by omega)
      obtain ⟨r, o5', o6', o7', S2, e1, e2, e3, e4, e5⟩ := mx_row (kind := kind) (i := i) f3 (by omega) f4 (by have := h0.len; omega) hm (by omega) o5 o6 o7
      refine ⟨([some (.loc 1), some (.int m), some (.int kind), some (.loc S0.length), some (.int i), o5, o6, o7], S1), _, S2, by simp, e1, F ++ [r], _, _, _, _, rfl, by simp [f1], fun d hd => ?_, by rw [Nat.mul_succ, ← Nat.add_assoc]; exact e3, e4, f5.trans e5⟩
      rcases List.mem_append.mp hd with hd | hd
      · exact f2 d hd
      · simp at hd; subst hd; exact e2)
    [some (.loc 1), some (.int m), some (.int kind), some (.loc S0.length), none, none, none, none] (S0 ++ [.lst []]) ⟨[], none, none, none, none, rfl, rfl, fun _ h => (by cases h), (h0.mono (by omega)).app _, by simp, Fr.app _ _ (Nat.le_refl _)⟩
  have hmm : 2 * m * m ≤ 12 * 6 := Nat.mul_le_mul (by omega) (by omega)
  refine ⟨.tup F, S', ?_, ⟨F, rfl, f1, f2⟩, f3.mono (by omega), by rw [← k0.1]; exact (Fr.keep k0).trans f5⟩
  have hr : iRng1K [.int m] (S0 ++ [.lst []]) = .ok (rngD 0 m) (S0 ++ [.lst []]) := rng1_nat _ (by omega)
  have htup := gTupD_ok f4
  simp [mxOut, mxIn] at h1 hr
  simp [T__law_matrix, b__law_matrix, e0', hr, h1, htup]
end DV
/-! R10: matrices that commute, as they are drawn. -/
namespace DV
open PySem L2
theorem gd_seqI {d : D} {ds : List D} (h : d.seq? = some ds) (hl : ds.length ≤ 6) (k : ∀ x ∈ ds, gd x = true) : gd d = true := by
  cases d <;> simp [D.seq?] at h <;> subst h <;> simp only [gd, Bool.and_eq_true, Nat.ble_eq] <;> exact ⟨hl, gds_of k⟩
theorem gd_fr {d : D} {x : Rat} (h : fr? d x) (b : Bd 20 x) : gd d = true := by
  refine gd_seqI h (by simp) fun y hy => ?_
  simp only [List.mem_cons, List.mem_nil_iff, or_false] at hy
  obtain ⟨b1, b2⟩ := b
  rcases hy with rfl | rfl
  · exact gd_i b1
  · exact gd_i (by simpa using b2)
theorem isR_fr {d : D} {x : Rat} (h : fr? d x) : isR d = true := by
  unfold isR
  rw [h]
  exact isR_frD x
theorem valR_fr {d : D} {x : Rat} (h : fr? d x) : valR d = x := by
  unfold valR
  rw [h]
  exact valR_frD x
/-- a matrix that stands for A, of small entries -/
theorem matR_facts {d : D} {n : Nat} {A : Mx} (h : matR d n A) (hA : Sq n A) (h0 : 0 < n) (hn : n ≤ 6) (b : ∀ i j, i < n → j < n → Bd 20 (en A i j)) : gd d = true ∧ isMx d = true ∧ sz d = n ∧ mxOf d = A := by
  obtain ⟨rows, h1, h2, h3⟩ := h
  have hrow : ∀ r ∈ rows, gd r = true ∧ rowOk n r = true := by
    intro r hr
    obtain ⟨i, hi, e⟩ := List.mem_iff_getElem.mp hr
    obtain ⟨r', a1, es, a2, a3, a4⟩ := h3 i (by omega)
    rw [List.getElem?_eq_getElem hi, e] at a1; cases a1
    have hx : ∀ x ∈ es, gd x = true ∧ isR x = true := by
      intro x hx
      obtain ⟨j, hj, e⟩ := List.mem_iff_getElem.mp hx
      obtain ⟨x', c1, c2⟩ := a4 j (by omega)
      rw [List.getElem?_eq_getElem hj, e] at c1; cases c1
      exact ⟨gd_fr c2 (b i j (by omega) (by omega)), isR_fr c2⟩
    refine ⟨gd_seqI a2 (by omega) fun x z => (hx x z).1, ?_⟩
    unfold rowOk
    rw [a2]
    simp only [a3, decide_true, Bool.true_and, List.all_eq_true]
    exact fun x z => (hx x z).2
  have g : gd d = true := gd_seqI h1 (by omega) fun r hr => (hrow r hr).1
  have hsz : sz d = n := by unfold sz; rw [h1]; exact h2
  have im : isMx d = true := by
    unfold isMx
    rw [h1]
    simp only [Bool.and_eq_true, decide_eq_true_eq, List.all_eq_true]
    exact ⟨by omega, fun r hr => by rw [h2]; exact (hrow r hr).2⟩
  have mk := mx_ok g im
  rw [hsz] at mk
  refine ⟨g, im, hsz, Sq.ext mk.sq hA fun i j hi hj => ?_⟩
  obtain ⟨rows', k1, k2, k3⟩ := mk.r
  rw [h1] at k1; cases k1
  obtain ⟨r, a1, es, a2, a3, a4⟩ := h3 i hi
  obtain ⟨r', b1, es', b2, b3, b4⟩ := k3 i hi
  rw [a1] at b1; cases b1
  rw [a2] at b2; cases b2
  obtain ⟨x, c1, c2⟩ := a4 j hj
  obtain ⟨x', d1, d2⟩ := b4 j hj
  rw [c1] at d1; cases d1
  exact fr_inj d2 c2
theorem CB.num {M B : Nat} {x : Rat} (h : CB M B x) : x.num.natAbs ≤ B := by
  obtain ⟨k, rfl, b⟩ := h
  exact Nat.le_trans (mk_num _ _) b
theorem CB.den {M B : Nat} {x : Rat} (h : CB M B x) (hM : 0 < M) : x.den ≤ M := by
  obtain ⟨k, rfl, b⟩ := h
  exact mk_den hM
theorem CB.bd {M B : Nat} {x : Rat} (h : CB M B x) (hM : 0 < M) (h1 : M < 2 ^ 20) (h2 : B < 2 ^ 20) : Bd 20 x := ⟨Nat.lt_of_le_of_lt h.num h2, Nat.lt_of_le_of_lt (h.den hM) h1⟩
theorem CB.scale {M B : Nat} {x : Rat} (h : CB M B x) (c : Nat) (hc : c ≠ 0) : CB (M * c) (B * c) x := by
  obtain ⟨k, rfl, b⟩ := h
  exact ⟨k * c, (Rat.mkRat_mul_right hc).symm, by rw [Int.natAbs_mul, Int.natAbs_natCast]; exact Nat.mul_le_mul_right _ b⟩
theorem CB.sum {M B : Nat} (hM : M ≠ 0) {f : Nat → Rat} : ∀ {m : Nat}, (∀ k, k < m → CB M B (f k)) → CB M (m * B) (DV.sm m f)
  | 0, _ => CB.zero _ _
  | m + 1, h => by
    have := (CB.sum hM (m := m) fun k hk => h k (by omega)).add hM (h m (by omega))
    exact this.mono (by rw [Nat.succ_mul]; exact Nat.le_refl _)
theorem CB.ofInt (a : Int) (B : Nat) (h : a.natAbs ≤ B) : CB 1 B (a : Rat) := ⟨a, by rw [Rat.mkRat_one], h⟩
/-- all entries -/
def ME (n : Nat) (A : Mx) (M B : Nat) : Prop := ∀ i j, i < n → j < n → CB M B (en A i j)
theorem matD_mx {m : Nat} {d : D} (h : matD m d) (h0 : 0 < m) (hm : m ≤ 6) : MxOk d m (mxOf d) ∧ ME m (mxOf d) 2 4 := by
  obtain ⟨rows, rfl, h1, h2⟩ := h
  have hrow : ∀ r ∈ rows, gd r = true ∧ rowOk m r = true := by
    intro r hr
    obtain ⟨es, rfl, a, b⟩ := h2 r hr
    refine ⟨gd_tup (by omega) fun x hx => (b x hx).1, ?_⟩
    show (decide (es.length = m) && es.all isR) = true
    simp only [a, decide_true, Bool.true_and, List.all_eq_true]
    exact fun x hx => (b x hx).2.1
  have g : gd (.tup rows) = true := gd_tup (by omega) fun r hr => (hrow r hr).1
  have im : isMx (.tup rows) = true := by
    show (decide (0 < rows.length) && rows.all (rowOk rows.length)) = true
    simp only [Bool.and_eq_true, decide_eq_true_eq, List.all_eq_true]
    exact ⟨by omega, fun r hr => by rw [h1]; exact (hrow r hr).2⟩
  have mk := mx_ok g im
  have hsz : sz (.tup rows) = m := h1
  rw [hsz] at mk
  refine ⟨mk, fun i j hi hj => ?_⟩
  obtain ⟨rows', k1, k2, k3⟩ := mk.r
  cases k1
  obtain ⟨r', b1, es', b2, b3, b4⟩ := k3 i hi
  obtain ⟨x', d1, d2⟩ := b4 j hj
  obtain ⟨es, rfl, a, b⟩ := h2 r' (mem_get b1)
  cases b2
  have := (b x' (mem_get d1)).2.2
  rw [valR_fr d2] at this
  exact this
theorem sm400 {n : Nat} (h : n < 2 ^ 250) : n < 2 ^ 400 := Nat.lt_of_lt_of_le h (Nat.pow_le_pow_right (by decide) (by decide))
/-- a sum with a drawn factor -/
theorem with_cb {n : Nat} {A B : Mx} {a b : Nat} (hA : ME n A 4 a) (hB : ME n B 4 b) {c : Int} (hc : c.natAbs ≤ 2) (ha : a < 10000) (hb : b < 10000) : As n A B (c : Rat) ∧ ME n (withM n A B c) 4 (a + b * 2) := by
  have hcb := CB.ofInt c 2 hc
  have s1 : (4 : Nat) < 2 ^ 400 := sm400 (by decide)
  have s2 : (20000 : Nat) < 2 ^ 400 := sm400 (by decide)
  have hp : ∀ i j, i < n → j < n → CB 4 (b * 2) (en B i j * c) := fun i j hi hj => (hB i j hi hj).mul hcb
  exact ⟨⟨fun i j hi hj => (hA i j hi hj).sm s1 (by omega), fun i j hi hj => (hB i j hi hj).sm s1 (by omega), hcb.sm (by omega) (by omega), fun i j hi hj => (hp i j hi hj).sm s1 (by omega)⟩,
    fun i j hi hj => by rw [en_with hi hj]; exact (hA i j hi hj).add (by decide) (hp i j hi hj)⟩
theorem ms_cb {n M N a b : Nat} {A B : Mx} (hM : M ≠ 0) (hN : N ≠ 0) (hA : ME n A M a) (hB : ME n B N b) (h1 : M * N < 2 ^ 400) (h2 : n * (a * b) < 2 ^ 400) (ha : a < 2 ^ 400) (hb : b < 2 ^ 400) (hn : 0 < n) : Ms n A B ∧ ME n (mulM n A B) (M * N) (n * (a * b)) := by
  have p : ∀ i j k, i < n → j < n → k < n → CB (M * N) (a * b) (en A i k * en B k j) := fun i j k hi hj hk => (hA i k hi hk).mul (hB k j hk hj)
  have hMN : M * N ≠ 0 := Nat.mul_ne_zero hM hN
  have l1 : M ≤ M * N := Nat.le_mul_of_pos_right _ (by omega)
  have l2 : N ≤ M * N := Nat.le_mul_of_pos_left _ (by omega)
  have l3 : a * b ≤ n * (a * b) := Nat.le_mul_of_pos_left _ hn
  exact ⟨⟨fun i j hi hj => (hA i j hi hj).sm (by omega) ha, fun i j hi hj => (hB i j hi hj).sm (by omega) hb, fun i j k hi hj hk => (p i j k hi hj hk).sm h1 (by omega),
    fun i j m hi hj hm => ((CB.sum hMN fun k hk => p i j k hi hj (by omega)).mono (Nat.mul_le_mul_right _ hm)).sm h1 h2⟩,
    fun i j hi hj => by rw [en_mul hi hj]; exact CB.sum hMN fun k hk => p i j k hi hj hk⟩
theorem ME.mono {n M a b : Nat} {A : Mx} (h : ME n A M a) (l : a ≤ b) : ME n A M b := fun i j hi hj => (h i j hi hj).mono l
/-- a matrix of a drawn point -/
structure PtM (m : Nat) (M : Mx) (p : D) (A : Mx) : Prop where
  r : matR p m A
  po : Poly2 m M A
  cb : ME m A 4 152
  tu : tupM p
abbrev cmIn : EvS := (sSet 6 (eCall 3 T__law_with (aCons (eVar 6) (aCons (eVar 7) (aCons (eTup (aCons (eBin oSub (eCall 2 T__law_take (aCons (eVar 0) (aCons (eC (.int 4)) aNil))) (eC (.int 1))) (aCons (eC (.int 1)) aNil))) aNil)))))
theorem Fr.appR {m : Nat} {S S' : Sto} (h : Fr m S S') (g : Sto) (l : m ≤ S'.length) : Fr m S (S' ++ g) := h.trans (Fr.app _ _ l)
theorem cm_step {t m a b : Nat} {S : Sto} {A P : Mx} {dn dp : D} (h : CS t S) (ht : t < 2 ^ 47) (hm : m ≤ 6) (hr : matR dn m A) (hp : matR dp m P) (hA : ME m A 4 a) (hP : ME m P 4 b) (ha : a < 10000) (hb : b < 10000) (p0 p1 p2 p3 p4 p5 : Option D) (h0 : p0 = some (.loc 1)) :
    ∃ (r : D) (c : Int) (S' : Sto), cmIn [p0, p1, p2, p3, p4, p5, some dn, some dp] S = .nx [p0, p1, p2, p3, p4, p5, some r, some dp] S' ∧ matR r m (withM m A P c) ∧ tupM r ∧ ME m (withM m A P c) 4 (a + b * 2) ∧ CS (t + 1) S' ∧ Fr S.length S S' := by
  subst h0
  obtain ⟨x, S1, hx, e1, h1, k1⟩ := take_ok h (by omega) 4 (by decide) (by decide)
  have e1' : T__law_take [.loc 1, .int 4] S = .ok (.int x) S1 := e1
  obtain ⟨w1, w2⟩ := with_cb hA hP (c := (x : Int) - 1) (by omega) ha hb
  have hf : fr? (.tup [.int ((x : Int) - 1), .int 1]) (((x : Int) - 1 : Int) : Rat) := by
    show some [D.int ((x : Int) - 1), .int 1] = some [.int (((x : Int) - 1 : Int) : Rat).num, .int ((((x : Int) - 1 : Int) : Rat).den : Int)]
    rw [Rat.num_intCast, Rat.den_intCast]; rfl
  obtain ⟨r, g, e2, e3, e4⟩ := T_law_with_ok hr hp hf w1 (by omega) S1
  refine ⟨r, (x : Int) - 1, S1 ++ g, ?_, e3, e4, w2, h1.app _, (Fr.keep k1).appR g (by rw [k1.1]; exact Nat.le_refl _)⟩
  simp [e1', e2]
theorem unit_cb {m : Nat} : ME m (unitM m) 4 4 := fun i j hi hj => by
  rw [en_unit hi hj]
  split
  · exact ⟨4, by decide, by decide⟩
  · exact CB.zero _ _
theorem zero_cb {m : Nat} : ME m (zeroM m) 4 0 := fun i j hi hj => by rw [en_zero hi hj]; exact CB.zero _ _
abbrev cmOut : EvS := (sSeq (sSet 6 (eCall 1 T__law_zeros (aCons (eVar 2) aNil)))
    (sSeq (sFor (iTup' (eTup (aCons (eCall 1 T__law_unit (aCons (eVar 2) aNil)) (aCons (eVar 3) (aCons (eCall 2 T__law_by (aCons (eVar 3) (aCons (eVar 3) aNil))) aNil))))) (gN 7) cmIn)
    (sExpr (eMet "list" gApp (eVar 4) (aCons (eVar 6) aNil)))))
theorem cm_one {t m n nf : Nat} {S : Sto} {F : List D} {one : D} (h : CS t S) (ht : t < 2 ^ 46) (hm0 : 0 < m) (hm : m ≤ 4) (hone : matD m one) (hf : S[nf]? = some (.lst F)) (hnf : 2 ≤ nf) (hF : F.length < 100) (k o6 o7 : Option D) :
    ∃ (r : D) (A : Mx) (o7' : Option D) (S' : Sto), cmOut [some (.loc 1), some (.int n), some (.int m), some one, some (.loc nf), k, o6, o7] S = .nx [some (.loc 1), some (.int n), some (.int m), some one, some (.loc nf), k, some r, o7'] S' ∧ PtM m (mxOf one) r A ∧ CS (t + 3) S' ∧ S'[nf]? = some (.lst (F ++ [r])) ∧ Fr nf S S' := by
  have hLN : LN = 16777216 := rfl
  have hnl : nf < S.length := (List.getElem?_eq_some_iff.mp hf).1
  obtain ⟨mo, mc⟩ := matD_mx hone hm0 (by omega)
  obtain ⟨z, ez, hz⟩ := T_law_zeros_ok hm0 (by omega) S
  obtain ⟨u, eu, hu⟩ := T_law_unit_ok m (by omega) S
  have lim : m * (4 * 4) < 2 ^ 400 := sm400 (Nat.lt_of_le_of_lt (Nat.mul_le_mul_right (4 * 4) hm) (by decide))
  obtain ⟨m1, m2⟩ := ms_cb (by decide) (by decide) mc mc (sm400 (by decide)) lim (sm400 (by decide)) (sm400 (by decide)) hm0
  obtain ⟨q, g, eq, hq⟩ := T_law_by_ok mo.r mo.r m1 (by omega) S
  have mc4 : ME m (mxOf one) 4 8 := fun i j hi hj => (mc i j hi hj).scale 2 (by decide)
  have mq : ME m (mulM m (mxOf one) (mxOf one)) 4 64 := m2.mono (by omega)
  have hg : CS t (S ++ g) := h.app _
  obtain ⟨r1, c1, S1, e1, a1, u1, b1, h1, f1⟩ := cm_step hg (by omega) (by omega) hz hu zero_cb unit_cb (by decide) (by decide) (some (.loc 1)) (some (.int n)) (some (.int m)) (some one) (some (.loc nf)) k rfl
  obtain ⟨r2, c2, S2, e2, a2, u2, b2, h2, f2⟩ := cm_step h1 (by omega) (by omega) a1 mo.r b1 mc4 (by decide) (by decide) (some (.loc 1)) (some (.int n)) (some (.int m)) (some one) (some (.loc nf)) k rfl
  obtain ⟨r3, c3, S3, e3, a3, u3, b3, h3, f3⟩ := cm_step h2 (by omega) (by omega) a2 hq b2 mq (by decide) (by decide) (some (.loc 1)) (some (.int n)) (some (.int m)) (some one) (some (.loc nf)) k rfl
  have fr : Fr (nf + 1) S S3 := by
    have := f1.le
    have := f2.le
    have l0 : (S ++ g).length = S.length + g.length := by simp
    exact (((Fr.app (m := nf + 1) S g (by omega)).trans (f1.low (by omega))).trans (f2.low (by omega))).trans (f3.low (by omega))
  have hf3 : S3[nf]? = some (.lst F) := fr.get (by omega) (by omega) hf
  have hap := gApp_ok hf3 (by omega) r3
  have ty := tyD_lst hf3
  refine ⟨r3, _, some q, S3.set nf (.lst (F ++ [r3])), seq_nx (env1 := [some (.loc 1), some (.int n), some (.int m), some one, some (.loc nf), k, some z, o7]) (S1 := S) (by simp [ez]) (seq_nx (env1 := [some (.loc 1), some (.int n), some (.int m), some one, some (.loc nf), k, some r3, some q]) (S1 := S3) ?_ ?_), ⟨a3, Poly2.s _ (Poly2.m _ (Poly2.u _ Poly2.z)), b3, u3⟩, h3.set hnf _, List.getElem?_set_self (List.getElem?_eq_some_iff.mp hf3).1, (fr.low (by omega)).trans (Fr.set _ _ (Nat.le_refl _))⟩
  · have hit : (iTup' (eTup (aCons (eCall 1 T__law_unit (aCons (eVar 2) aNil)) (aCons (eVar 3) (aCons (eCall 2 T__law_by (aCons (eVar 3) (aCons (eVar 3) aNil))) aNil))))) [some (.loc 1), some (.int n), some (.int m), some one, some (.loc nf), k, some z, o7] S = .ok [u, one, q] (S ++ g) := by simp [eu, eq]
    show sbind ((iTup' _) _ _) _ _ = _
    rw [hit]
    show forD (gN 7) cmIn [u, one, q] _ _ = _
    have step : ∀ (d : D) (ds : List D) (env env1 env2 : AEnv) (S S1 : Sto), env.set 7 (some d) = env1 → cmIn env1 S = .nx env2 S1 → forD (gN 7) cmIn (d :: ds) env S = forD (gN 7) cmIn ds env2 S1 := by
      intro d ds env env1 env2 S S1 h1 h2
      conv => lhs; unfold forD
      simp only [gN, h1]
      rw [h2]
    rw [step u [one, q] [some (.loc 1), some (.int n), some (.int m), some one, some (.loc nf), k, some z, o7] [some (.loc 1), some (.int n), some (.int m), some one, some (.loc nf), k, some z, some u] [some (.loc 1), some (.int n), some (.int m), some one, some (.loc nf), k, some r1, some u] _ _ rfl e1, step one [q] [some (.loc 1), some (.int n), some (.int m), some one, some (.loc nf), k, some r1, some u] [some (.loc 1), some (.int n), some (.int m), some one, some (.loc nf), k, some r1, some one] [some (.loc 1), some (.int n), some (.int m), some one, some (.loc nf), k, some r2, some one] _ _ rfl e2, step q [] [some (.loc 1), some (.int n), some (.int m), some one, some (.loc nf), k, some r2, some one] [some (.loc 1), some (.int n), some (.int m), some one, some (.loc nf), k, some r2, some q] [some (.loc 1), some (.int n), some (.int m), some one, some (.loc nf), k, some r3, some q] _ _ rfl e3]
    rfl
  · simp [ty, hap]
theorem commuting_ok {t m n : Nat} {S : Sto} (h : CS t S) (ht : t < 2 ^ 45) (hm0 : 0 < m) (hm : m ≤ 4) (hn : n ≤ 6) : ∃ (M : Mx) (ps : List D) (S' : Sto), T__law_commuting [.loc 1, .int n, .int m] S = .ok (.tup ps) S' ∧ Sq m M ∧ ps.length = n ∧ (∀ p ∈ ps, ∃ A, PtM m M p A) ∧ CS (t + 200) S' := by
  have hLN : LN = 16777216 := rfl
  obtain ⟨one, S0, e0, hone, h0, f0⟩ := law_matrix_ok h (by omega) (show m ≤ 6 by omega)
  have hl0 := h0.len
  obtain ⟨env', S', h1, F, o5, o6, o7, rfl, g1, g2, g3, g4⟩ := forD_idx (g := gN 5) (f := cmOut) n (ds := rngD 0 n) (rng_len 0 n)
    (fun i env S1 => ∃ F o5 o6 o7, env = [some (.loc 1), some (.int n), some (.int m), some one, some (.loc S0.length), o5, o6, o7] ∧ F.length = i ∧ (∀ p ∈ F, ∃ A, PtM m (mxOf one) p A) ∧ CS (t + 100 + 3 * i) S1 ∧ S1[S0.length]? = some (.lst F))
    (by
      rintro i x env S1 hi hx ⟨F, o5, o6, o7, rfl, g1, g2, g3, g4⟩
      have := rng_get hx; subst this
      obtain ⟨r, A, o7', S2, e1, e2, e3, e4, _⟩ := cm_one (n := n) g3 (by omega) hm0 hm hone g4 hl0 (by omega) (some (.int i)) o6 o7
      refine ⟨([some (.loc 1), some (.int n), some (.int m), some one, some (.loc S0.length), some (.int i), o6, o7], S1), _, S2, by simp, e1, F ++ [r], _, _, _, rfl, by simp [g1], fun p hp => ?_, e3, e4⟩
      rcases List.mem_append.mp hp with hp | hp
      · exact g2 p hp
      · simp at hp; subst hp; exact ⟨A, e2⟩)
    [some (.loc 1), some (.int n), some (.int m), some one, some (.loc S0.length), none, none, none] (S0 ++ [.lst []]) ⟨[], none, none, none, rfl, rfl, fun _ h => (by cases h), h0.app _, by simp⟩
  refine ⟨mxOf one, F, S', ?_, (matD_mx hone hm0 (by omega)).1.sq, g1, g2, g3.mono (by omega)⟩
  have hr : iRng1K [.int n] (S0 ++ [.lst []]) = .ok (rngD 0 n) (S0 ++ [.lst []]) := rng1_nat _ (by omega)
  have htup := gTupD_ok g4
  simp [cmOut, cmIn] at h1 hr
  simp [T__law_commuting, b__law_commuting, e0, hr, h1, htup]
end DV
/-! R11: a point with something turned. -/
namespace DV
open PySem L2
theorem cut_from {ds : List D} {k : Nat} (hk : k ≤ ds.length) : cutD ds (some (k : Int)) none = ds.drop k := by
  unfold cutD
  rw [HT.sIx_none, show HT.sIx ds.length 0 (some (k : Int)) = min k ds.length from HT.sIx_nat _ _ k, Nat.min_eq_left hk]
  exact List.take_of_length_le (by simp)
theorem cut_last {ds : List D} (h : ds ≠ []) : ∃ es, cutD ds none (some (-1)) = es ∧ es.length ≤ ds.length ∧ ∀ e ∈ es, e ∈ ds := by
  refine ⟨_, rfl, ?_, fun e he => ?_⟩
  · unfold cutD; simp only [List.length_take, List.length_drop]; omega
  · unfold cutD at he; exact List.mem_of_mem_drop (List.mem_of_mem_take he)
theorem nat_get {ds : List D} {i : Nat} (h : i < ds.length) : ∃ d, ds[i]? = some d ∧ d ∈ ds := ⟨ds[i], List.getElem?_eq_getElem h, List.getElem_mem h⟩
/-- data that is a tuple, or none -/
def tOk (d : D) : Prop := gd d = true ∧ ∀ ds, d.seq? = some ds → d = .tup ds
theorem tOk_tup {ds : List D} (hl : ds.length ≤ 6) (h : ∀ d ∈ ds, gd d = true) : tOk (.tup ds) := ⟨gd_tup hl h, fun es e => by cases e; rfl⟩
structure Point (m n : Nat) (M : Mx) (ps : List D) : Prop where
  m0 : 0 < m
  m4 : m ≤ 4
  n0 : 0 < n
  n3 : n ≤ 3
  sq : Sq m M
  len : ps.length = n
  pt : ∀ p ∈ ps, ∃ A, PtM m M p A
theorem PtM.gd {m : Nat} {M A : Mx} {p : D} (h : PtM m M p A) (h0 : 0 < m) (h4 : m ≤ 4) : gd p = true ∧ isMx p = true ∧ sz p = m ∧ mxOf p = A :=
  matR_facts h.r h.po.sq h0 (by omega) fun i j hi hj => (h.cb i j hi hj).bd (by decide) (by decide) (by decide)
theorem gd_matD {m : Nat} {d : D} (h : matD m d) (hm : m ≤ 6) : gd d = true := by
  obtain ⟨rows, rfl, h1, h2⟩ := h
  refine gd_tup (by omega) fun r hr => ?_
  obtain ⟨es, rfl, a, b⟩ := h2 r hr
  exact gd_tup (by omega) fun x hx => (b x hx).1
theorem gd_str (x : Str) : gd (.str x) = true := rfl
theorem gd_bl (b : Bool) : gd (.bl b) = true := rfl
theorem gd2 {a b : D} (ha : gd a = true) (hb : gd b = true) : gd (.tup [a, b]) = true := gd_tup (by simp) fun z hz => by
  simp only [List.mem_cons, List.mem_nil_iff, or_false] at hz
  rcases hz with rfl | rfl
  · exact ha
  · exact hb
theorem gd1 {a : D} (ha : gd a = true) : gd (.tup [a]) = true := gd_tup (by simp) fun z hz => by
  simp only [List.mem_cons, List.mem_nil_iff, or_false] at hz
  subst hz; exact ha
/-- the rows in their list -/
structure Rw (S : Sto) (nr : Nat) (rows : List D) (n : Nat) : Prop where
  at_ : S[nr]? = some (.lst rows)
  len : rows.length = n
  gd : ∀ r ∈ rows, gd r = true
  n2 : 2 ≤ nr
theorem Rw.fr {S S' : Sto} {nr n m : Nat} {rows : List D} (h : Rw S nr rows n) (f : Fr m S S') (l : nr < m) : Rw S' nr rows n := ⟨f.get l (by have := h.n2; omega) h.at_, h.len, h.gd, h.n2⟩
theorem Rw.put {S : Sto} {nr n k : Nat} {rows : List D} (h : Rw S nr rows n) {v : D} (hv : DV.gd v = true) : Rw (S.set nr (.lst (rows.set k v))) nr (rows.set k v) n :=
  ⟨List.getElem?_set_self (List.getElem?_eq_some_iff.mp h.at_).1, by rw [List.length_set]; exact h.len, fun r hr => by
    rcases List.mem_or_eq_of_mem_set hr with hr | rfl
    · exact h.gd r hr
    · exact hv, h.n2⟩
def bt0 : AEnv → Sto → Res (List D) := (lDisp (aCons (eTup aNil) (aCons (eC (.str "")) (aCons (eC (.int 0)) (aCons (eSlT (eVar 1) pNo (pSome (eBin oSub (eC (.int 0)) (eC (.int 1))))) (aCons (eBin oAdd (eVar 1) (eTup (aCons (eIx (eVar 1) (eC (.int 0))) aNil))) (aCons (eTup (aCons (eTup aNil) aNil)) (aCons (eTup (aCons (eTup (aCons (eTup (aCons (eC (.int 0)) (aCons (eC (.int 1)) aNil))) aNil)) aNil)) aNil))))))))
theorem bt0_ok {m n : Nat} {M : Mx} {ps : List D} (P : Point m n M ps) (p0 : Option D) (rest : AEnv) (S : Sto) : ∃ O, bt0 (p0 :: some (.tup ps) :: rest) S = .ok O S ∧ O.length = 7 ∧ ∀ d ∈ O, tOk d := by
  have hn := P.len
  have n0 := P.n0
  have n3 := P.n3
  obtain ⟨x, hx, hxm⟩ := nat_get (ds := ps) (i := 0) (by omega)
  have gp : ∀ p ∈ ps, gd p = true := fun p hp => by
    obtain ⟨A, h⟩ := P.pt p hp
    exact (h.gd P.m0 P.m4).1
  have hne : ps ≠ [] := fun e => by rw [e] at hn; simp at hn; omega
  obtain ⟨es, c1, c2, c3⟩ := cut_last hne
  have hs : slD (.tup ps) none (some (-1)) = some (.tup es) := by simp [slD, c1]
  have hadd : oAdd (.tup ps) (.tup [x]) = some (.tup (ps ++ [x])) := by
    show (if ps.length + [x].length ≤ LN then some (D.tup (ps ++ [x])) else none) = _
    rw [if_pos (by simp; omega)]
  have t0 : tOk (.tup []) := tOk_tup (by simp) fun _ h => by cases h
  have ti : gd (.tup [.int 0, .int 1]) = true := gd2 (gd_i (by decide)) (gd_i (by decide))
  refine ⟨[.tup [], .str "", .int 0, .tup es, .tup (ps ++ [x]), .tup [.tup []], .tup [.tup [.tup [.int 0, .int 1]]]], ?_, rfl, fun d hd => ?_⟩
  · simp [bt0, hs, hx, hadd]
  · simp only [List.mem_cons, List.mem_nil_iff, or_false] at hd
    rcases hd with rfl | rfl | rfl | rfl | rfl | rfl | rfl
    · exact t0
    · exact ⟨rfl, fun ds h => by cases h⟩
    · exact ⟨gd_i (by decide), fun ds h => by cases h⟩
    · exact tOk_tup (by omega) fun d hd => gp d (c3 d hd)
    · refine tOk_tup (by simp; omega) fun d hd => ?_
      rcases List.mem_append.mp hd with hd | hd
      · exact gp d hd
      · simp at hd; subst hd; exact gp _ hxm
    · exact tOk_tup (by simp) fun d hd => by
        simp at hd; subst hd; exact t0.1
    · exact tOk_tup (by simp) fun d hd => by
        simp at hd; subst hd; exact gd1 ti
theorem oAdd_tt {xs ys : List D} (h : xs.length + ys.length ≤ LN) : oAdd (.tup xs) (.tup ys) = some (.tup (xs ++ ys)) := by
  show (if xs.length + ys.length ≤ LN then some (D.tup (xs ++ ys)) else none) = _
  rw [if_pos h]
/-- one thing of a tuple put in anew -/
theorem swap_gd {xs : List D} {j : Nat} {w : D} (hj : j < xs.length) (hl : xs.length ≤ 6) (h : ∀ x ∈ xs, gd x = true) (hw : gd w = true) : gd (.tup (xs.take j ++ [w] ++ xs.drop (j + 1))) = true := by
  refine gd_tup (by simp; omega) fun d hd => ?_
  rcases List.mem_append.mp hd with hd | hd
  · rcases List.mem_append.mp hd with hd | hd
    · exact h d (List.mem_of_mem_take hd)
    · simp at hd; subst hd; exact hw
  · exact h d (List.mem_of_mem_drop hd)
theorem swap_eval {xs : List D} {j : Nat} {w : D} (hj : j < xs.length) (hl : xs.length ≤ 6) : ∃ C1 C2, slD (.tup xs) none (some (j : Int)) = some (.tup C1) ∧ slD (.tup xs) (some ((j : Int) + 1)) none = some (.tup C2) ∧ oAdd (.tup C1) (.tup [w]) = some (.tup (C1 ++ [w])) ∧ oAdd (.tup (C1 ++ [w])) (.tup C2) = some (.tup (xs.take j ++ [w] ++ xs.drop (j + 1))) := by
  have hLN : LN = 16777216 := rfl
  refine ⟨xs.take j, xs.drop (j + 1), ?_, ?_, oAdd_tt (by simp; omega), oAdd_tt (by simp; omega)⟩
  · simp [slD, cut_to (ds := xs) (k := j) (by omega)]
  · rw [show ((j : Int) + 1) = ((j + 1 : Nat) : Int) by omega]
    show some (D.tup (cutD xs (some ((j + 1 : Nat) : Int)) none)) = _
    rw [cut_from (by omega)]
end DV
/-! R12: a point with something turned, whole. -/
namespace DV
open PySem L2
def bk1 : EvS := (sPut' setLD (eVar 2) (eVar 5) (eCall 2 T__law_matrix (aCons (eVar 0) (aCons (eVar 3) aNil))))
def bk2 : EvS := (sPut' setLD (eVar 2) (eVar 5) (eCall 2 T__law_matrix (aCons (eVar 0) (aCons (eBin oAdd (eBin oMod (eVar 3) (eC (.int 4))) (eC (.int 1))) aNil))))
def b0 : EvS := (sSet 8 (eIx (eIx (eIx (eVar 2) (eVar 5)) (eVar 6)) (eVar 7)))
def b1 : EvS := (sSet 9 (eMat (lDisp (aCons (eCall 2 T__law_plus (aCons (eVar 8) (aCons (eTup (aCons (eC (.int 1)) (aCons (eC (.int 1)) aNil))) aNil))) (aCons (eTup (aCons (eBin oMul (eIx (eVar 8) (eC (.int 0))) (eC (.int 2))) (aCons (eBin oMul (eIx (eVar 8) (eC (.int 1))) (eC (.int 2))) aNil))) (aCons (eTup (aCons (eIx (eVar 8) (eC (.int 0))) (aCons (eBin oSub (eC (.int 0)) (eIx (eVar 8) (eC (.int 1)))) aNil))) (aCons (eIx (eVar 8) (eC (.int 0))) (aCons (eTup (aCons (eIx (eVar 8) (eC (.int 0))) aNil)) aNil))))))))
def b2 : EvS := (sSet 9 (eMat (lCat1 (eVar 9) (lDisp (aCons (eTup (aCons (eC (.bl true)) (aCons (eC (.int 1)) aNil))) (aCons (eTup (aCons (eC (.str "1")) (aCons (eC (.int 1)) aNil))) aNil))))))
def b3 : EvS := (sSet 10 (eIx (eIx (eVar 2) (eVar 5)) (eVar 6)))
def b4 : EvS := (sSet 11 (eBin oAdd (eBin oAdd (eSlT (eVar 10) pNo (pSome (eVar 7))) (eTup (aCons (eIx (eVar 9) (eCall 2 T__law_take (aCons (eVar 0) (aCons (eC (.int 7)) aNil)))) aNil))) (eSlT (eVar 10) (pSome (eBin oAdd (eVar 7) (eC (.int 1)))) pNo)))
def b5 : EvS := (sSet 11 (eIf (tBin (oBl cLt) (eVar 4) (eC (.int 6))) (eVar 11) (eBin oAdd (eVar 10) (eTup (aCons (eTup (aCons (eC (.int 0)) (aCons (eC (.int 1)) aNil))) aNil)))))
def b6 : EvS := (sPut' setLD (eVar 2) (eVar 5) (eBin oAdd (eBin oAdd (eSlT (eIx (eVar 2) (eVar 5)) pNo (pSome (eVar 6))) (eTup (aCons (eVar 11) aNil))) (eSlT (eIx (eVar 2) (eVar 5)) (pSome (eBin oAdd (eVar 6) (eC (.int 1)))) pNo)))
def bmid : EvS := (sIf (tBin (oBl cEq) (eVar 4) (eC (.int 1))) bk1 (sIf (tBin (oBl cEq) (eVar 4) (eC (.int 2))) bk2 (sSeq b0 (sSeq b1 (sSeq b2 (sSeq b3 (sSeq b4 (sSeq b5 b6))))))))
theorem bent_body : b__law_bent = (sSeq (sSet 2 (eMat (lCB gLst (aCons (eVar 1) aNil))))
    (sSeq (sSet 3 (eCB gLenD (aCons (eIx (eVar 2) (eC (.int 0))) aNil)))
    (sSeq (sSet 4 (eCall 2 T__law_take (aCons (eVar 0) (aCons (eC (.int 7)) aNil))))
    (sSeq (sPar3 5 6 7 (aCons (eCall 2 T__law_take (aCons (eVar 0) (aCons (eCB gLenD (aCons (eVar 2) aNil)) aNil))) (aCons (eCall 2 T__law_take (aCons (eVar 0) (aCons (eVar 3) aNil))) (aCons (eCall 2 T__law_take (aCons (eVar 0) (aCons (eVar 3) aNil))) aNil))))
    (sSeq (sIf (tBin (oBl cEq) (eVar 4) (eC (.int 0))) (sRet (eIxL bt0 (eCall 2 T__law_take (aCons (eVar 0) (aCons (eC (.int 7)) aNil))))) sNil)
    (sSeq bmid
    (sRet (eCB gTupD (aCons (eVar 2) aNil))))))))) := rfl
section
variable {m n t nr k i j kind : Nat} {M : Mx} {ps : List D} {S : Sto}
theorem bk1_ok (h : CS t S) (ht : t < 2 ^ 44) (hm : m ≤ 4) (R : Rw S nr ps n) (hk : k < n) (p1 o8 o9 o10 o11 p4 p6 p7 : Option D) :
    ∃ S' rows', bk1 [some (.loc 1), p1, some (.loc nr), some (.int m), p4, some (.int k), p6, p7, o8, o9, o10, o11] S = .nx [some (.loc 1), p1, some (.loc nr), some (.int m), p4, some (.int k), p6, p7, o8, o9, o10, o11] S' ∧ Rw S' nr rows' n ∧ CS (t + 100) S' := by
  obtain ⟨d, S1, e1, hd, h1, f1⟩ := law_matrix_ok (m := m) h (by omega) (by omega)
  have hl : nr < S.length := (List.getElem?_eq_some_iff.mp R.at_).1
  have R1 := R.fr f1 hl
  have hput := set_row R1.at_ (show k < ps.length by rw [R.len]; exact hk) d
  exact ⟨_, _, by simp [bk1, e1, hput]; rfl, R1.put (gd_matD hd (by omega)), h1.set R.n2 _⟩
theorem bk2_ok (h : CS t S) (ht : t < 2 ^ 44) (hm : m ≤ 4) (R : Rw S nr ps n) (hk : k < n) (p1 o8 o9 o10 o11 p4 p6 p7 : Option D) :
    ∃ S' rows', bk2 [some (.loc 1), p1, some (.loc nr), some (.int m), p4, some (.int k), p6, p7, o8, o9, o10, o11] S = .nx [some (.loc 1), p1, some (.loc nr), some (.int m), p4, some (.int k), p6, p7, o8, o9, o10, o11] S' ∧ Rw S' nr rows' n ∧ CS (t + 100) S' := by
  obtain ⟨d, S1, e1, hd, h1, f1⟩ := law_matrix_ok (m := m % 4 + 1) h (by omega) (by omega)
  have hl : nr < S.length := (List.getElem?_eq_some_iff.mp R.at_).1
  have R1 := R.fr f1 hl
  have hput := set_row R1.at_ (show k < ps.length by rw [R.len]; exact hk) d
  have e2 : ((m % 4 + 1 : Nat) : Int) = (m : Int) % 4 + 1 := by omega
  rw [e2] at e1
  exact ⟨_, _, by simp [bk2, e1, hput]; rfl, R1.put (gd_matD hd (by omega)), h1.set R.n2 _⟩
theorem odd_gd {v : Rat} (h : CB 4 152 v) : ∀ d ∈ ([frD (v + 1), .tup [.int (v.num * 2), .int ((v.den : Int) * 2)], .tup [.int v.num, .int (0 - (v.den : Int))], .int v.num, .tup [.int v.num], .tup [.bl true, .int 1], .tup [.str "1", .int 1]] : List D), gd d = true := by
  have h1 := h.num
  have h2 := h.den (by decide)
  have p : 1000 < 2 ^ 20 := by decide
  have hc : CB 4 156 (v + 1) := CB.add (B := 152) (C := 4) (by decide) h ⟨4, by decide, by decide⟩
  intro d hd
  simp only [List.mem_cons, List.mem_nil_iff, or_false] at hd
  rcases hd with rfl | rfl | rfl | rfl | rfl | rfl | rfl
  · exact gd_fr (fr_frD _) (hc.bd (by decide) (by decide) (by decide))
  · exact gd2 (gd_i (by omega)) (gd_i (by omega))
  · exact gd2 (gd_i (by omega)) (gd_i (by omega))
  · exact gd_i (by omega)
  · exact gd1 (gd_i (by omega))
  · exact gd2 rfl (gd_i (by decide))
  · exact gd2 rfl (gd_i (by decide))
theorem b1_ok {x : D} {v : Rat} (hx : fr? x v) (hv : CB 4 152 v) (q0 q1 q2 q3 q4 q5 q6 q7 o9 o10 o11 : Option D) :
    b1 [q0, q1, q2, q3, q4, q5, q6, q7, some x, o9, o10, o11] S = .nx [q0, q1, q2, q3, q4, q5, q6, q7, some x, some (.loc S.length), o10, o11] (S ++ [.lst [frD (v + 1), .tup [.int (v.num * 2), .int ((v.den : Int) * 2)], .tup [.int v.num, .int (0 - (v.den : Int))], .int v.num, .tup [.int v.num]]]) := by
  have s1 : Sm v := hv.sm (sm400 (by decide)) (sm400 (by decide))
  have s2 : Sm 1 := ⟨sm400 (by decide), sm400 (by decide)⟩
  have e1 := T_law_plus_ok S hx fr_1T s1 s2
  have h1 := hv.num
  have h2 := hv.den (by decide)
  have l1 : v.num.natAbs.log2 ≤ 10 := lgI (by omega)
  have l2 : v.den.log2 ≤ 10 := lg (by omega)
  have l3 : Nat.log2 2 ≤ 1 := lg (by decide)
  have g1 : v.num.natAbs.log2 + Nat.log2 2 < 1000000 := by omega
  have g2 : v.den.log2 + Nat.log2 2 < 1000000 := by omega
  simp [b1, e1, fr_ix0 hx, fr_ix1 hx, g1, g2]
theorem b2_ok {O : List D} (hO : O.length = 5) (q0 q1 q2 q3 q4 q5 q6 q7 o8 o10 o11 : Option D) :
    b2 [q0, q1, q2, q3, q4, q5, q6, q7, o8, some (.loc S.length), o10, o11] (S ++ [.lst O]) = .nx [q0, q1, q2, q3, q4, q5, q6, q7, o8, some (.loc (S.length + 1)), o10, o11] (S ++ [.lst O] ++ [.lst (O ++ [.tup [.bl true, .int 1], .tup [.str "1", .int 1]])]) := by
  have hm : mutL (.loc S.length) (S ++ [.lst O]) = some (S.length, O) := by simp [mutL]
  have hl : O.length + 2 ≤ 16777216 := by omega
  simp [b2, hm, hl]
theorem b4_ok {x : D} {es O : List D} {nO : Nat} (h : CS t S) (ht : t < 2 ^ 44) (hO : S[nO]? = some (.lst O)) (hO7 : O.length = 7) (hOg : ∀ d ∈ O, gd d = true) (hn : 2 ≤ nO) (hj : j < es.length) (hl : es.length ≤ 6) (he : ∀ e ∈ es, gd e = true) (q1 q2 q3 q4 q5 q6 o8 o11 : Option D) :
    ∃ w S', b4 [some (.loc 1), q1, q2, q3, q4, q5, q6, some (.int j), o8, some (.loc nO), some (.tup es), o11] S = .nx [some (.loc 1), q1, q2, q3, q4, q5, q6, some (.int j), o8, some (.loc nO), some (.tup es), some w] S' ∧ gd w = true ∧ CS (t + 1) S' ∧ Keep S S' := by
  obtain ⟨y, S1, hy, e1, h1, k1⟩ := take_ok h (by omega) 7 (by decide) (by decide)
  have e1' : T__law_take [.loc 1, .int 7] S = .ok (.int y) S1 := e1
  obtain ⟨w, hw, hwm⟩ := nat_get (show y < O.length by omega)
  have hO1 : S1[nO]? = some (.lst O) := by rw [k1.2 _ (by omega)]; exact hO
  have hix : ixD (.loc nO) (.int y) S1 = some w := by rw [ix_loc hO1, atI_n, hw]
  obtain ⟨C1, C2, a1, a2, a3, a4⟩ := swap_eval (w := w) hj hl
  refine ⟨.tup (es.take j ++ [w] ++ es.drop (j + 1)), S1, ?_, swap_gd hj hl he (hOg w hwm), h1, k1⟩
  simp at a4
  simp [b4, a1, e1', hix, a3, a2, a4]
theorem b5_ok {w : D} {es : List D} (hl : es.length ≤ 4) (he : ∀ e ∈ es, gd e = true) (hw : gd w = true) (q0 q1 q2 q3 q5 q6 q7 q8 q9 : Option D) :
    ∃ w', b5 [q0, q1, q2, q3, some (.int kind), q5, q6, q7, q8, q9, some (.tup es), some w] S = .nx [q0, q1, q2, q3, some (.int kind), q5, q6, q7, q8, q9, some (.tup es), some w'] S ∧ gd w' = true := by
  by_cases hk : (kind : Int) < 6
  · exact ⟨w, by simp [b5, hk], hw⟩
  · have hLN : LN = 16777216 := rfl
    have e1 : oAdd (.tup es) (.tup [.tup [.int 0, .int 1]]) = some (.tup (es ++ [.tup [.int 0, .int 1]])) := oAdd_tt (by simp; omega)
    refine ⟨.tup (es ++ [.tup [.int 0, .int 1]]), by simp [b5, hk, e1], gd_tup (by simp; omega) fun d hd => ?_⟩
    rcases List.mem_append.mp hd with hd | hd
    · exact he d hd
    · simp at hd; subst hd; exact gd2 (gd_i (by decide)) (gd_i (by decide))
theorem b6_ok {w : D} {rws : List D} (R : Rw S nr ps n) (hp : ps[k]? = some (.tup rws)) (hi : i < rws.length) (hl : rws.length ≤ 6) (hg : ∀ r ∈ rws, gd r = true) (hw : gd w = true) (q0 q1 q3 q4 q7 q8 q9 q10 : Option D) :
    ∃ rows', b6 [q0, q1, some (.loc nr), q3, q4, some (.int k), some (.int i), q7, q8, q9, q10, some w] S = .nx [q0, q1, some (.loc nr), q3, q4, some (.int k), some (.int i), q7, q8, q9, q10, some w] (S.set nr (.lst rows')) ∧ Rw (S.set nr (.lst rows')) nr rows' n := by
  have hk : k < ps.length := (List.getElem?_eq_some_iff.mp hp).1
  have hix : ixD (.loc nr) (.int k) S = some (.tup rws) := by rw [ix_loc R.at_, atI_n, hp]
  obtain ⟨C1, C2, a1, a2, a3, a4⟩ := swap_eval (w := w) hi hl
  have hput := set_row R.at_ hk (.tup (rws.take i ++ [w] ++ rws.drop (i + 1)))
  refine ⟨ps.set k (.tup (rws.take i ++ [w] ++ rws.drop (i + 1))), ?_, R.put (swap_gd hi hl hg hw)⟩
  simp at a4 hput
  simp [b6, hix, a1, a3, a2, a4, hput]
theorem bmid_ok (P : Point m n M ps) (h : CS t S) (ht : t < 2 ^ 43) (R : Rw S nr ps n) (hk : k < n) (hi : i < m) (hj : j < m) :
    ∃ env' S' rows', bmid [some (.loc 1), some (.tup ps), some (.loc nr), some (.int m), some (.int kind), some (.int k), some (.int i), some (.int j), none, none, none, none] S = .nx env' S' ∧ env'[2]? = some (some (.loc nr)) ∧ Rw S' nr rows' n ∧ CS (t + 100) S' := by
  have m4 := P.m4
  have hl0 : nr < S.length := (List.getElem?_eq_some_iff.mp R.at_).1
  by_cases k1 : kind = 1
  · subst k1
    obtain ⟨S', rows', e, r, c⟩ := bk1_ok (k := k) h (by omega) m4 R hk (some (.tup ps)) none none none none (some (.int (1 : Nat))) (some (.int i)) (some (.int j))
    refine ⟨[some (.loc 1), some (.tup ps), some (.loc nr), some (.int m), some (.int (1 : Nat)), some (.int k), some (.int i), some (.int j), none, none, none, none], S', rows', ?_, rfl, r, c⟩
    have t1 : tBin (oBl cEq) (eVar 4) (eC (.int 1)) [some (.loc 1), some (.tup ps), some (.loc nr), some (.int m), some (.int (1 : Nat)), some (.int k), some (.int i), some (.int j), none, none, none, none] S = .ok true S := by simp
    simp only [bmid, sIf]
    rw [t1]
    simp only [sbind, if_pos]
    exact e
  by_cases k2 : kind = 2
  · subst k2
    obtain ⟨S', rows', e, r, c⟩ := bk2_ok (k := k) h (by omega) m4 R hk (some (.tup ps)) none none none none (some (.int (2 : Nat))) (some (.int i)) (some (.int j))
    refine ⟨[some (.loc 1), some (.tup ps), some (.loc nr), some (.int m), some (.int (2 : Nat)), some (.int k), some (.int i), some (.int j), none, none, none, none], S', rows', ?_, rfl, r, c⟩
    have t1 : tBin (oBl cEq) (eVar 4) (eC (.int 1)) [some (.loc 1), some (.tup ps), some (.loc nr), some (.int m), some (.int (2 : Nat)), some (.int k), some (.int i), some (.int j), none, none, none, none] S = .ok false S := by simp
    have t2 : tBin (oBl cEq) (eVar 4) (eC (.int 2)) [some (.loc 1), some (.tup ps), some (.loc nr), some (.int m), some (.int (2 : Nat)), some (.int k), some (.int i), some (.int j), none, none, none, none] S = .ok true S := by simp
    simp only [bmid, sIf]
    rw [t1]
    simp only [sbind, if_neg Bool.false_ne_true]
    rw [t2]
    simp only [sbind, if_pos]
    exact e
  obtain ⟨p, hp⟩ : ∃ p, ps[k]? = some p := ⟨ps[k]'(by rw [P.len]; exact hk), List.getElem?_eq_getElem _⟩
  obtain ⟨A, hA⟩ := P.pt p (mem_get hp)
  obtain ⟨rws, rfl, hrt⟩ := hA.tu
  obtain ⟨rws', r1, r2, r3⟩ := hA.r
  cases r1
  obtain ⟨row, w1, es, w2, w3, w4⟩ := r3 i hi
  obtain ⟨es0, rfl⟩ := hrt row (mem_get w1)
  cases w2
  obtain ⟨x, x1, x2⟩ := w4 j hj
  have hv := hA.cb i j hi hj
  obtain ⟨gp, _, _, _⟩ := hA.gd P.m0 m4
  obtain ⟨_, grw⟩ := gd_seq gp (show (D.tup rws).seq? = some rws from rfl)
  obtain ⟨_, ges⟩ := gd_seq (grw _ (mem_get w1)) (show (D.tup es).seq? = some es from rfl)
  have i1 : ∀ S1 : Sto, S1[nr]? = some (.lst ps) → ixD (.loc nr) (.int k) S1 = some (.tup rws) := fun S1 hS => by rw [ix_loc hS, atI_n, hp]
  have f0 : b0 [some (.loc 1), some (.tup ps), some (.loc nr), some (.int m), some (.int kind), some (.int k), some (.int i), some (.int j), none, none, none, none] S = .nx [some (.loc 1), some (.tup ps), some (.loc nr), some (.int m), some (.int kind), some (.int k), some (.int i), some (.int j), some x, none, none, none] S := by
    simp [b0, i1 S R.at_, w1, x1]
  have f1 := b1_ok (S := S) x2 hv (some (.loc 1)) (some (.tup ps)) (some (.loc nr)) (some (.int m)) (some (.int kind)) (some (.int k)) (some (.int i)) (some (.int j)) none none none
  have hodd := odd_gd hv
  generalize hO : ([frD (en A i j + 1), .tup [.int ((en A i j).num * 2), .int (((en A i j).den : Int) * 2)], .tup [.int (en A i j).num, .int (0 - ((en A i j).den : Int))], .int (en A i j).num, .tup [.int (en A i j).num]] : List D) = O at f1
  have hO5 : O.length = 5 := by rw [← hO]; rfl
  have f2 := b2_ok (S := S) hO5 (some (.loc 1)) (some (.tup ps)) (some (.loc nr)) (some (.int m)) (some (.int kind)) (some (.int k)) (some (.int i)) (some (.int j)) (some x) none none
  have hodd' : ∀ d ∈ O ++ [.tup [.bl true, .int 1], .tup [.str "1", .int 1]], gd d = true := by rw [← hO]; exact hodd
  generalize hO2 : O ++ [.tup [.bl true, .int 1], .tup [.str "1", .int 1]] = O2 at f2 hodd'
  have hO7 : O2.length = 7 := by rw [← hO2]; simp [hO5]
  generalize hS2 : S ++ [MO.lst O] ++ [MO.lst O2] = S2 at f2
  have c2 : CS t S2 := by rw [← hS2]; exact (h.app _).app _
  have fr2 : Fr S.length S S2 := by rw [← hS2]; exact (Fr.app S [MO.lst O] (Nat.le_refl _)).trans (Fr.app _ _ (by simp))
  have R2 := R.fr fr2 hl0
  have hat : S2[S.length + 1]? = some (.lst O2) := by rw [← hS2]; simp
  have f3 : b3 [some (.loc 1), some (.tup ps), some (.loc nr), some (.int m), some (.int kind), some (.int k), some (.int i), some (.int j), some x, some (.loc (S.length + 1)), none, none] S2 = .nx [some (.loc 1), some (.tup ps), some (.loc nr), some (.int m), some (.int kind), some (.int k), some (.int i), some (.int j), some x, some (.loc (S.length + 1)), some (.tup es), none] S2 := by
    simp [b3, i1 S2 R2.at_, w1]
  have hl2 := h.len
  obtain ⟨w, S4, f4, gw, c4, kp4⟩ := b4_ok (x := x) c2 (by omega) hat hO7 hodd' (by omega) (show j < es.length by omega) (by omega) ges (some (.tup ps)) (some (.loc nr)) (some (.int m)) (some (.int kind)) (some (.int k)) (some (.int i)) (some x) none
  obtain ⟨w', f5, gw'⟩ := b5_ok (S := S4) (kind := kind) (es := es) (by omega) ges gw (some (.loc 1)) (some (.tup ps)) (some (.loc nr)) (some (.int m)) (some (.int k)) (some (.int i)) (some (.int j)) (some x) (some (.loc (S.length + 1)))
  have R4 := R2.fr (Fr.keep (m := S.length) kp4) hl0
  obtain ⟨rows', f6, R6⟩ := b6_ok R4 hp (show i < rws.length by omega) (by omega) grw gw' (some (.loc 1)) (some (.tup ps)) (some (.int m)) (some (.int kind)) (some (.int j)) (some x) (some (.loc (S.length + 1))) (some (.tup es))
  refine ⟨[some (.loc 1), some (.tup ps), some (.loc nr), some (.int m), some (.int kind), some (.int k), some (.int i), some (.int j), some x, some (.loc (S.length + 1)), some (.tup es), some w'], S4.set nr (.lst rows'), rows', ?_, rfl, R6, (c4.mono (by omega)).set R.n2 _⟩
  have n1 : ¬ (kind : Int) = 1 := by omega
  have n2 : ¬ (kind : Int) = 2 := by omega
  have hs := seq_nx f0 (seq_nx f1 (seq_nx f2 (seq_nx f3 (seq_nx f4 (seq_nx f5 f6)))))
  show sIf _ _ _ _ S = _
  have t1 : tBin (oBl cEq) (eVar 4) (eC (.int 1)) [some (.loc 1), some (.tup ps), some (.loc nr), some (.int m), some (.int kind), some (.int k), some (.int i), some (.int j), none, none, none, none] S = .ok false S := by simp [n1]
  have t2 : tBin (oBl cEq) (eVar 4) (eC (.int 2)) [some (.loc 1), some (.tup ps), some (.loc nr), some (.int m), some (.int kind), some (.int k), some (.int i), some (.int j), none, none, none, none] S = .ok false S := by simp [n2]
  simp only [sIf]
  rw [t1]
  simp only [sbind, if_neg Bool.false_ne_true]
  rw [t2]
  simp only [sbind, if_neg Bool.false_ne_true]
  exact hs
theorem bent_ok (P : Point m n M ps) (h : CS t S) (ht : t < 2 ^ 42) : ∃ d S', T__law_bent [.loc 1, .tup ps] S = .ok d S' ∧ tOk d ∧ CS (t + 200) S' := by
  have hLN : LN = 16777216 := rfl
  have hlen := P.len
  have n0 := P.n0
  have n3 := P.n3
  have m0 := P.m0
  have m4 := P.m4
  have gp : ∀ p ∈ ps, gd p = true := fun p hp => by
    obtain ⟨A, h⟩ := P.pt p hp
    exact (h.gd P.m0 P.m4).1
  have hl2 := h.len
  have hlst : gLst [.tup ps] S = some ps := rfl
  have h0 : CS t (S ++ [.lst ps]) := h.app _
  have R0 : Rw (S ++ [.lst ps]) S.length ps n := ⟨by simp, hlen, gp, hl2⟩
  obtain ⟨p, hp, hpm⟩ := nat_get (ds := ps) (i := 0) (by omega)
  obtain ⟨A, hA⟩ := P.pt p hpm
  have hpl := hA.r.len (S ++ [.lst ps])
  have hx0 : ixD (.loc S.length) (.int 0) (S ++ [.lst ps]) = some p := by rw [ix_loc R0.at_]; simpa using hp
  obtain ⟨kind, S1, hk, e1, h1, k1⟩ := take_ok h0 (by omega) 7 (by decide) (by decide)
  have e1' : T__law_take [.loc 1, .int 7] (S ++ [.lst ps]) = .ok (.int kind) S1 := e1
  have R1 : Rw S1 S.length ps n := R0.fr (Fr.keep (m := S.length + 1) k1) (by omega)
  have hnl : gLenD [.loc S.length] S1 = some (.int n) := by simp [gLenD, lenD, R1.at_, hlen]
  obtain ⟨k, S2, hk2, e2, h2, k2⟩ := take_ok h1 (by omega) n n0 (by omega)
  obtain ⟨i, S3, hi, e3, h3, k3⟩ := take_ok h2 (by omega) m m0 (by omega)
  obtain ⟨j, S4, hj, e4, h4, k4⟩ := take_ok h3 (by omega) m m0 (by omega)
  have R4 : Rw S4 S.length ps n := ((R1.fr (Fr.keep (m := S.length + 1) k2) (by omega)).fr (Fr.keep (m := S.length + 1) k3) (by omega)).fr (Fr.keep (m := S.length + 1) k4) (by omega)
  by_cases hk0 : kind = 0
  · subst hk0
    obtain ⟨O, o1, o2, o3⟩ := bt0_ok P (some (.loc 1)) [some (.loc S.length), some (.int m), some (.int (0 : Nat)), some (.int k), some (.int i), some (.int j), none, none, none, none] S4
    obtain ⟨y, S5, hy, e5, h5, k5⟩ := take_ok h4 (by omega) 7 (by decide) (by decide)
    have e5' : T__law_take [.loc 1, .int 7] S4 = .ok (.int y) S5 := e5
    obtain ⟨d, hd, hdm⟩ := nat_get (show y < O.length by omega)
    refine ⟨d, S5, ?_, o3 d hdm, h5.mono (by omega)⟩
    simp at e1' o1
    simp [T__law_bent, bent_body, hlst, hx0, hpl, e1', hnl, e2, e3, e4, o1, e5', hd]
  · have hk0' : ¬ (kind : Int) = 0 := by omega
    obtain ⟨env', S5, rows', e5, hv, R5, h5⟩ := bmid_ok (kind := kind) P h4 (by omega) R4 hk2 hi hj
    have htup := gTupD_ok R5.at_
    refine ⟨.tup rows', S5, ?_, tOk_tup (by rw [R5.len]; omega) R5.gd, h5.mono (by omega)⟩
    simp [T__law_bent, bent_body, hlst, hx0, hpl, e1', hnl, e2, e3, e4, hk0, e5, hv, htup]
end
end DV
/-! R13: the powers of a point's matrices. -/
namespace DV
open PySem L2
theorem compW_inv {ws : Wt} {vs : List Nat} {g : GvT} {te : EvE} {env : AEnv} : ∀ (n : Nat) {ds : List D} (hl : ds.length = n) (I : Nat → List D → Sto → Prop) (hw : ∀ i acc S, i ≤ n → I i acc S → Cw ws S)
    (step : ∀ i d acc S, i < n → ds[i]? = some d → I i acc S → ∃ env1 y S1, g d (wipeA env vs) S = some (env1, S) ∧ te env1 S = .ok y S1 ∧ acc.length < LN ∧ I (i + 1) (acc ++ [y]) S1) (acc : List D) (S : Sto) (h : I 0 acc S),
    ∃ acc' S', compW ws vs g tYes' te env ds acc S = .ok acc' S' ∧ I n acc' S'
  | 0, [], _, I, hw, step, acc, S, h => ⟨acc, S, by unfold compW; rw [if_pos (hw 0 acc S (Nat.le_refl _) h)], h⟩
  | 0, d :: ds, hl, I, hw, step, acc, S, h => by simp at hl
  | n + 1, [], hl, I, hw, step, acc, S, h => by simp at hl
  | n + 1, d :: ds, hl, I, hw, step, acc, S, h => by
    obtain ⟨env1, y, S1, a, b, c, k⟩ := step 0 d acc S (by omega) rfl h
    obtain ⟨acc2, S2, h1, h2⟩ := compW_inv (ws := ws) (vs := vs) (g := g) (te := te) (env := env) n (ds := ds) (by simpa using hl) (fun i => I (i + 1)) (fun i acc S hi => hw (i + 1) acc S (by omega)) (fun i d' acc S hi hd => step (i + 1) d' acc S (by omega) (by simpa using hd)) (acc ++ [y]) S1 k
    refine ⟨acc2, S2, ?_, h2⟩
    have hc : acc.length < 16777216 := c
    unfold compW
    rw [if_pos (hw 0 acc S (by omega) h), a]
    simp [b, hc]
    exact h1
theorem compD_inv {vs : List Nat} {g : GvT} {te : EvE} {env : AEnv} : ∀ (n : Nat) {ds : List D} (hl : ds.length = n) (I : Nat → List D → Sto → Prop)
    (step : ∀ i d acc S, i < n → ds[i]? = some d → I i acc S → ∃ env1 y S1, g d (wipeA env vs) S = some (env1, S) ∧ te env1 S = .ok y S1 ∧ acc.length < LN ∧ I (i + 1) (acc ++ [y]) S1) (acc : List D) (S : Sto) (h : I 0 acc S),
    ∃ acc' S', compD vs g tYes' te env ds acc S = .ok acc' S' ∧ I n acc' S'
  | 0, [], _, I, step, acc, S, h => ⟨acc, S, by unfold compD; rfl, h⟩
  | 0, d :: ds, hl, I, step, acc, S, h => by simp at hl
  | n + 1, [], hl, I, step, acc, S, h => by simp at hl
  | n + 1, d :: ds, hl, I, step, acc, S, h => by
    obtain ⟨env1, y, S1, a, b, c, k⟩ := step 0 d acc S (by omega) rfl h
    obtain ⟨acc2, S2, h1, h2⟩ := compD_inv (vs := vs) (g := g) (te := te) (env := env) n (ds := ds) (by simpa using hl) (fun i => I (i + 1)) (fun i d' acc S hi hd => step (i + 1) d' acc S (by omega) (by simpa using hd)) (acc ++ [y]) S1 k
    refine ⟨acc2, S2, ?_, h2⟩
    have hc : acc.length < 16777216 := c
    unfold compD
    rw [a]
    simp [b, hc]
    exact h1
/-! ### sizes -/
abbrev KB : Nat := 224755712
theorem kb_eq : KB = 608 * 608 * 608 := by decide
theorem ME.scale {n M a c : Nat} {A : Mx} (h : ME n A M a) (hc : c ≠ 0) : ME n A (M * c) (a * c) := fun i j hi hj => (h i j hi hj).scale c hc
theorem unit1 {m : Nat} : ME m (unitM m) 1 1 := fun i j hi hj => by
  rw [en_unit hi hj]
  split
  · exact ⟨1, by decide, by decide⟩
  · exact CB.zero _ _
theorem lt250 {n : Nat} (h : n < 2 ^ 250) : n < 2 ^ 400 := sm400 h
/-- a power of a drawn matrix -/
theorem pow_me {m : Nat} {A : Mx} (m0 : 0 < m) (m4 : m ≤ 4) (h : ME m A 4 152) : ∀ e, e ≤ 3 → ME m (powM m A e) (4 ^ e) (608 ^ e) ∧ Ms m (powM m A e) A
  | 0, _ => by
    have h1 : m * (1 * 152) < 2 ^ 400 := lt250 (Nat.lt_of_le_of_lt (Nat.mul_le_mul_right (1 * 152) m4) (by decide))
    exact ⟨unit1, (ms_cb (by decide) (by decide) unit1 h (lt250 (by decide)) h1 (lt250 (by decide)) (lt250 (by decide)) m0).1⟩
  | e + 1, he => by
    obtain ⟨ih, _⟩ := pow_me m0 m4 h e (by omega)
    have hp : ∀ e, e ≤ 3 → 4 ^ e ≤ 64 ∧ 608 ^ e ≤ 224755712 ∧ 4 ^ e ≠ 0 := by
      intro e he
      match e, he with
      | 0, _ => decide
      | 1, _ => decide
      | 2, _ => decide
      | 3, _ => decide
    obtain ⟨p1, p2, p3⟩ := hp e (by omega)
    obtain ⟨q1, q2, q3⟩ := hp (e + 1) he
    have l1 : 4 ^ e * 4 < 2 ^ 400 := lt250 (Nat.lt_of_le_of_lt (Nat.mul_le_mul_right 4 p1) (by decide))
    have l2 : m * (608 ^ e * 152) < 2 ^ 400 := lt250 (Nat.lt_of_le_of_lt (Nat.mul_le_mul m4 (Nat.mul_le_mul_right 152 p2)) (by decide))
    have l3 : 608 ^ e < 2 ^ 400 := lt250 (Nat.lt_of_le_of_lt p2 (by decide))
    obtain ⟨_, w⟩ := ms_cb p3 (by decide) ih h l1 l2 l3 (lt250 (by decide)) m0
    have w' : ME m (powM m A (e + 1)) (4 ^ (e + 1)) (608 ^ (e + 1)) := by
      have : m * (608 ^ e * 152) ≤ 608 ^ (e + 1) := by
        rw [Nat.pow_succ]
        have := Nat.mul_le_mul_right (608 ^ e * 152) m4
        omega
      exact ME.mono w this
    have l4 : 4 ^ (e + 1) * 4 < 2 ^ 400 := lt250 (Nat.lt_of_le_of_lt (Nat.mul_le_mul_right 4 q1) (by decide))
    have l5 : m * (608 ^ (e + 1) * 152) < 2 ^ 400 := lt250 (Nat.lt_of_le_of_lt (Nat.mul_le_mul m4 (Nat.mul_le_mul_right 152 q2)) (by decide))
    have l6 : 608 ^ (e + 1) < 2 ^ 400 := lt250 (Nat.lt_of_le_of_lt q2 (by decide))
    exact ⟨w', (ms_cb q3 (by decide) w' h l4 l5 l6 (lt250 (by decide)) m0).1⟩
theorem pow_kb {m : Nat} {A : Mx} (m0 : 0 < m) (m4 : m ≤ 4) (h : ME m A 4 152) {e : Nat} (he : e ≤ 3) : ME m (powM m A e) 64 KB := by
  have w := (pow_me m0 m4 h e he).1
  match e, he with
  | 0, _ => exact (w.scale (c := 64) (by decide)).mono (by decide)
  | 1, _ => exact (w.scale (c := 16) (by decide)).mono (by decide)
  | 2, _ => exact (w.scale (c := 4) (by decide)).mono (by decide)
  | 3, _ => exact w
/-! ### the object -/
/-- the powers that have been made: o the object, b the first list -/
structure PwOk (C : Addr) (m n : Nat) (A : Nat → Mx) (ps : List D) (o b : Nat) (S : Sto) : Prop where
  ob : S[o]? = some (.ins C [("made", .loc (b + n)), ("point", .tup ps)])
  ls : S[b + n]? = some (.lst ((List.range n).map fun j => D.loc (b + j)))
  rw_ : ∀ j, j < n → ∃ rows, S[b + j]? = some (.lst rows) ∧ 1 ≤ rows.length ∧ rows.length ≤ 4 ∧ ∀ e, e < rows.length → ∃ d, rows[e]? = some d ∧ matR d m (powM m (A j) e)
  lt : o < b
  ps_ : ∀ j, j < n → ∃ p, ps[j]? = some p ∧ matR p m (A j)
  o2 : 2 ≤ o
/-- all but the lists of powers stays -/
structure Fq (b n : Nat) (S S' : Sto) : Prop where
  le : S.length ≤ S'.length
  at_ : ∀ k, k < S.length → ¬ (b ≤ k ∧ k < b + n) → S'[k]? = S[k]?
theorem Fq.refl (b n : Nat) (S : Sto) : Fq b n S S := ⟨Nat.le_refl _, fun _ _ _ => rfl⟩
theorem Fq.trans {b n : Nat} {S S' S'' : Sto} (h : Fq b n S S') (g : Fq b n S' S'') : Fq b n S S'' := ⟨Nat.le_trans h.le g.le, fun k a c => (g.at_ k (by have := h.le; omega) c).trans (h.at_ k a c)⟩
theorem Fq.app (b n : Nat) (S g : Sto) : Fq b n S (S ++ g) := ⟨by simp, fun k a _ => by rw [List.getElem?_append_left a]⟩
theorem Fq.set {b n j : Nat} (S : Sto) (o : MO) (hj : j < n) : Fq b n S (S.set (b + j) o) := ⟨by simp, fun k a c => by rw [List.getElem?_set_ne (by omega)]⟩
theorem Fq.get {b n k : Nat} {S S' : Sto} {o : MO} (h : Fq b n S S') (hn : ¬ (b ≤ k ∧ k < b + n)) (e : S[k]? = some o) : S'[k]? = some o := by
  rw [h.at_ k (List.getElem?_eq_some_iff.mp e).1 hn]; exact e
theorem PwOk.app {C : Addr} {m n o b : Nat} {A : Nat → Mx} {ps : List D} {S : Sto} (h : PwOk C m n A ps o b S) (g : Sto) : PwOk C m n A ps o b (S ++ g) := by
  have gt : ∀ {k : Nat} {o : MO}, S[k]? = some o → (S ++ g)[k]? = some o := fun {k o} e => by rw [List.getElem?_append_left (List.getElem?_eq_some_iff.mp e).1]; exact e
  exact ⟨gt h.ob, gt h.ls, fun j hj => let ⟨rows, a, r⟩ := h.rw_ j hj; ⟨rows, gt a, r⟩, h.lt, h.ps_, h.o2⟩
theorem PwOk.put {C : Addr} {m n o b j : Nat} {A : Nat → Mx} {ps rows : List D} {S : Sto} (h : PwOk C m n A ps o b S) (hj : j < n) (h1 : 1 ≤ rows.length) (h4 : rows.length ≤ 4) (hr : ∀ e, e < rows.length → ∃ d, rows[e]? = some d ∧ matR d m (powM m (A j) e)) : PwOk C m n A ps o b (S.set (b + j) (.lst rows)) := by
  have hlt := h.lt
  refine ⟨by rw [List.getElem?_set_ne (by omega)]; exact h.ob, by rw [List.getElem?_set_ne (by omega)]; exact h.ls, fun k hk => ?_, h.lt, h.ps_, h.o2⟩
  by_cases e : k = j
  · subst e
    obtain ⟨rows', a, _⟩ := h.rw_ k hk
    exact ⟨rows, List.getElem?_set_self (List.getElem?_eq_some_iff.mp a).1, h1, h4, hr⟩
  · obtain ⟨rows', a, r⟩ := h.rw_ k hk
    exact ⟨rows', by rw [List.getElem?_set_ne (by omega)]; exact a, r⟩
theorem str_mp : (("made" : Str) == ("point" : Str)) = false := by decide
theorem str_pm : (("point" : Str) == ("made" : Str)) = false := by decide
theorem fld_made {C : Addr} {m n o b : Nat} {A : Nat → Mx} {ps : List D} {S : Sto} (h : PwOk C m n A ps o b S) : fldD C "made" (.loc o) S = some (.loc (b + n)) := by
  simp [fldD, insD, h.ob, List.lookup]
theorem fld_point {C : Addr} {m n o b : Nat} {A : Nat → Mx} {ps : List D} {S : Sto} (h : PwOk C m n A ps o b S) : fldD C "point" (.loc o) S = some (.tup ps) := by
  simp [fldD, insD, h.ob, List.lookup, str_pm]
noncomputable abbrev pwBody (C : Addr) : EvS := (sExpr (eMet "list" gApp (eVar 3) (aCons (eCall 2 T_multiplied_matrices (aCons (eIx (eVar 3) (eUn oNeg (eC (.int 1)))) (aCons (eIx (eFld C "point" (eVar 0)) (eVar 1)) aNil))) aNil)))
section
variable {C : Addr} {m n o b : Nat} {A : Nat → Mx} {ps : List D}
theorem pw_loop (m0 : 0 < m) (m4 : m ≤ 4) (hc : ∀ j, j < n → ME m (A j) 4 152) {j e : Nat} (hj : j < n) (he : e ≤ 3) : ∀ (k : Nat) (S : Sto) (rows : List D), PwOk C m n A ps o b S → S[b + j]? = some (.lst rows) → k + rows.length > e →
    ∃ S' rows', whileD (tBin (oBl cLe) (eCB gLenD (aCons (eVar 3) aNil)) (eVar 2)) (pwBody C) (k + 1) [some (.loc o), some (.int j), some (.int e), some (.loc (b + j))] S = .nx [some (.loc o), some (.int j), some (.int e), some (.loc (b + j))] S' ∧ PwOk C m n A ps o b S' ∧ Fq b n S S' ∧ S'[b + j]? = some (.lst rows') ∧ e < rows'.length
  | 0, S, rows, h, hr, hk => by
    have hl : gLenD [.loc (b + j)] S = some (.int rows.length) := by simp [gLenD, lenD, hr]
    have hne : ¬ ((rows.length : Int) ≤ e) := by omega
    have hne' : ¬ (rows.length ≤ e) := by omega
    exact ⟨S, rows, by unfold whileD; simp [hl, hne, hne'], h, Fq.refl _ _ _, hr, by omega⟩
  | k + 1, S, rows, h, hr, hk => by
    have hl : gLenD [.loc (b + j)] S = some (.int rows.length) := by simp [gLenD, lenD, hr]
    by_cases hle : rows.length ≤ e
    · obtain ⟨rows0, r1, r2, r3, r4⟩ := h.rw_ j hj
      rw [hr] at r1; cases r1
      obtain ⟨p, p1, p2⟩ := h.ps_ j hj
      obtain ⟨d, d1, d2⟩ := r4 (rows.length - 1) (by omega)
      have hix : ixD (.loc (b + j)) (.int (-1)) S = some d := by
        rw [ix_loc hr]
        have e1 : ixN rows.length (-1) = some (rows.length - 1) := by
          unfold ixN
          rw [if_neg (by decide), if_pos (by omega)]
          congr 1; omega
        unfold atI
        rw [e1, Option.bind_some, d1]
      have hpt := fld_point h
      obtain ⟨_, ms⟩ := pow_me m0 m4 (hc j hj) (rows.length - 1) (by omega)
      obtain ⟨r, g, e1, e2⟩ := T_mul_ok d2 p2 ms (by omega) S
      have hr2 : (S ++ g)[b + j]? = some (.lst rows) := by rw [List.getElem?_append_left (List.getElem?_eq_some_iff.mp hr).1]; exact hr
      have hap := gApp_ok hr2 (Nat.lt_of_le_of_lt r3 (by decide)) r
      have ty := tyD_lst hr
      have hnew : ∀ e', e' < (rows ++ [r]).length → ∃ d, (rows ++ [r])[e']? = some d ∧ matR d m (powM m (A j) e') := by
        intro e' he'
        by_cases q : e' < rows.length
        · obtain ⟨d, a, c⟩ := r4 e' q
          exact ⟨d, by rw [List.getElem?_append_left q]; exact a, c⟩
        · have : e' = (rows.length - 1) + 1 := by simp at he'; omega
          subst this
          exact ⟨r, by rw [List.getElem?_append_right (by omega)]; simp [show rows.length - 1 + 1 - rows.length = 0 by omega], e2⟩
      have h2 := (h.app g).put hj (rows := rows ++ [r]) (by simp) (by simp; omega) hnew
      obtain ⟨S', rows', w1, w2, w3, w4, w5⟩ := pw_loop m0 m4 hc hj he k ((S ++ g).set (b + j) (.lst (rows ++ [r]))) (rows ++ [r]) h2 (List.getElem?_set_self (List.getElem?_eq_some_iff.mp hr2).1) (by simp; omega)
      refine ⟨S', rows', ?_, w2, ((Fq.app b n S g).trans (Fq.set _ _ hj)).trans w3, w4, w5⟩
      have hle' : (rows.length : Int) ≤ e := by omega
      unfold whileD
      simp [hl, hle, hix, hpt, p1, e1, ty, hap]
      exact w1
    · have hne : ¬ ((rows.length : Int) ≤ e) := by omega
      exact ⟨S, rows, by unfold whileD; simp [hl, hle], h, Fq.refl _ _ _, hr, by omega⟩
theorem T_power_ok (m0 : 0 < m) (m4 : m ≤ 4) (hc : ∀ j, j < n → ME m (A j) 4 152) {j e : Nat} (hj : j < n) (he : e ≤ 3) {S : Sto} (h : PwOk C m n A ps o b S) :
    ∃ d S', T_Powers_power C [.loc o, .int j, .int e] S = .ok d S' ∧ matR d m (powM m (A j) e) ∧ PwOk C m n A ps o b S' ∧ Fq b n S S' := by
  obtain ⟨rows, r1, r2, r3, r4⟩ := h.rw_ j hj
  obtain ⟨S', rows', w1, w2, w3, w4, w5⟩ := pw_loop m0 m4 hc hj he (e + 1) S rows h r1 (by omega)
  obtain ⟨rows2, a1, a2, a3, a4⟩ := w2.rw_ j hj
  rw [w4] at a1; cases a1
  obtain ⟨d, d1, d2⟩ := a4 e w5
  have hix : ixD (.loc (b + j)) (.int e) S' = some d := by rw [ix_loc w4, atI_n, d1]
  have hm := fld_made h
  have hix2 : ixD (.loc (b + n)) (.int j) S = some (.loc (b + j)) := by
    rw [ix_loc h.ls, atI_n, List.getElem?_map, List.getElem?_range hj]; rfl
  refine ⟨d, S', ?_, d2, w2, w3⟩
  have hf : fuI 2 [some (.loc o), some (.int j), some (.int e), some (.loc (b + j))] S = e + 1 + 1 := by simp [fuI]
  simp [pwBody] at w1
  simp [T_Powers_power, b_Powers_power, hm, hix2, hf, w1, hix]
end
end DV
/-! R14: monomials at a point; the object made. -/
namespace DV
open PySem L2
/-- the product of the first powers -/
def monP (m : Nat) (A : Nat → Mx) (es : Mon) : Nat → Mx
  | 0 => unitM m
  | j + 1 => mulM m (monP m A es j) (powM m (A j) (es.getD j 0).toNat)
theorem sq_monP {m : Nat} {A : Nat → Mx} {es : Mon} : ∀ j, Sq m (monP m A es j)
  | 0 => sq_unit
  | _ + 1 => sq_mul
/-- exponents of at most 3 -/
def Exs (n : Nat) (es : Mon) : Prop := es.length = n ∧ ∀ e ∈ es, 0 ≤ e ∧ e ≤ 3
theorem Exs.get {n j : Nat} {es : Mon} (h : Exs n es) (hj : j < n) : ∃ e : Nat, es[j]? = some (e : Int) ∧ e ≤ 3 ∧ (es.getD j 0).toNat = e := by
  have hl : j < es.length := by rw [h.1]; exact hj
  obtain ⟨h1, h2⟩ := h.2 _ (List.getElem_mem hl)
  refine ⟨es[j].toNat, ?_, by omega, ?_⟩
  · rw [List.getElem?_eq_getElem hl]; congr 1; omega
  · rw [List.getD_eq_getElem?_getD, List.getElem?_eq_getElem hl]; rfl
abbrev K4 : Nat := 899022848
theorem mon_bound : ∀ j, j ≤ 3 → 64 ^ j * 64 < 2 ^ 250 ∧ 4 * (K4 ^ j * KB) < 2 ^ 250 ∧ 64 ^ j ≠ 0 ∧ K4 ^ j < 2 ^ 250 := by
  intro j hj
  match j, hj with
  | 0, _ => decide
  | 1, _ => decide
  | 2, _ => decide
  | 3, _ => decide
theorem mon_me {m n : Nat} {A : Nat → Mx} {es : Mon} (m0 : 0 < m) (m4 : m ≤ 4) (n3 : n ≤ 3) (hc : ∀ j, j < n → ME m (A j) 4 152) (hx : Exs n es) : ∀ j, j ≤ n → ME m (monP m A es j) (64 ^ j) (K4 ^ j)
  | 0, _ => unit1
  | j + 1, hj => by
    obtain ⟨e, _, he, e2⟩ := hx.get (show j < n by omega)
    have ih := mon_me m0 m4 n3 hc hx j (by omega)
    obtain ⟨q1, q2, q3, q4⟩ := mon_bound j (by omega)
    have w := (ms_cb q3 (by decide) ih (pow_kb m0 m4 (hc j (by omega)) he) (lt250 q1) (lt250 (Nat.lt_of_le_of_lt (Nat.mul_le_mul_right _ m4) q2)) (lt250 q4) (lt250 (by decide)) m0).2
    unfold monP
    rw [e2]
    refine ME.mono w ?_
    have : m * (K4 ^ j * KB) ≤ 4 * (K4 ^ j * KB) := Nat.mul_le_mul_right _ m4
    have e3 : 4 * (K4 ^ j * KB) = K4 ^ (j + 1) := by
      rw [Nat.pow_succ, ← Nat.mul_assoc, Nat.mul_comm 4, Nat.mul_assoc, show 4 * KB = K4 by decide]
    omega
theorem mon_ms {m n : Nat} {A : Nat → Mx} {es : Mon} (m0 : 0 < m) (m4 : m ≤ 4) (n3 : n ≤ 3) (hc : ∀ j, j < n → ME m (A j) 4 152) (hx : Exs n es) {j e : Nat} (hj : j < n) (he : e ≤ 3) : Ms m (monP m A es j) (powM m (A j) e) := by
  obtain ⟨q1, q2, q3, q4⟩ := mon_bound j (by omega)
  exact (ms_cb q3 (by decide) (mon_me m0 m4 n3 hc hx j (by omega)) (pow_kb m0 m4 (hc j hj) he) (lt250 q1) (lt250 (Nat.lt_of_le_of_lt (Nat.mul_le_mul_right _ m4) q2)) (lt250 q4) (lt250 (by decide)) m0).1
noncomputable abbrev mnBody (C : Addr) : EvS := (sIf (tBin (oBl cGt) (eVar 4) (eC (.int 0))) (sSeq (sSet 5 (eMth C "power" 3 (T_Powers_power C) (eVar 0) (aCons (eVar 3) (aCons (eVar 4) aNil))))
    (sSet 2 (eIf (tBin (oBl cIsN) (eVar 2) (eC .non)) (eVar 5) (eCall 2 T_multiplied_matrices (aCons (eVar 2) (aCons (eVar 5) aNil)))))) sNil)
theorem str_wm : (("power" : Str) == ("made" : Str)) = false := by decide
theorem str_wp : (("power" : Str) == ("point" : Str)) = false := by decide
theorem isN_seq {d : D} {ds : List D} (h : d.seq? = some ds) : cIsN d .non = some false := by cases d <;> simp [D.seq?] at h <;> rfl
theorem isN_mat {d : D} {m : Nat} {A : Mx} (h : matR d m A) : cIsN d .non = some false := by obtain ⟨ds, h, _⟩ := h; exact isN_seq h
theorem ins_pw {C : Addr} {m n o b : Nat} {A : Nat → Mx} {ps : List D} {S : Sto} (h : PwOk C m n A ps o b S) : insD C (.loc o) S = some (o, ([(("made" : Str), D.loc (b + n)), (("point" : Str), D.tup ps)] : List (Str × D))) := by simp [insD, h.ob]
section
variable {C : Addr} {m n o b : Nat} {A : Nat → Mx} {ps : List D}
theorem T_monomial_ok (m0 : 0 < m) (m4 : m ≤ 4) (n0 : 0 < n) (n3 : n ≤ 3) (hc : ∀ j, j < n → ME m (A j) 4 152) {es : Mon} (hx : Exs n es) {mo : D} (hmo : mo.seq? = some (es.map .int)) {S : Sto} (h : PwOk C m n A ps o b S) :
    ∃ d S', T_Powers_monomial C [.loc o, mo] S = .ok d S' ∧ matR d m (monP m A es n) ∧ PwOk C m n A ps o b S' ∧ Fq b n S S' := by
  obtain ⟨env', S', h1, found, o3, o4, o5, rfl, p1, p2, p3⟩ := forW_idx (g := gTup' 2 (gCons' (gN 3) (gCons' (gN 4) gNil'))) (f := mnBody C) (ws := []) n (ds := enumD (es.map .int)) (by rw [enum_len, List.length_map, hx.1])
    (fun i env S1 => ∃ found o3 o4 o5, env = [some (.loc o), some mo, some found, o3, o4, o5] ∧ PwOk C m n A ps o b S1 ∧ Fq b n S S1 ∧ ((found = .non ∧ monP m A es i = unitM m) ∨ matR found m (monP m A es i))) (fun i env S _ _ => cw_nil S)
    (by
      rintro i q env S1 hi hq ⟨found, o3, o4, o5, rfl, p1, p2, p3⟩
      obtain ⟨y, hy, rfl⟩ := enumD_get hq
      obtain ⟨e, e1, e2, e3⟩ := hx.get hi
      rw [List.getElem?_map, e1] at hy
      cases hy
      refine ⟨([some (.loc o), some mo, some found, some (.int i), some (.int e), o5], S1), ?_⟩
      by_cases h0 : e = 0
      · have hP : monP m A es (i + 1) = monP m A es i := by
          show mulM m (monP m A es i) (powM m (A i) (es.getD i 0).toNat) = _
          rw [e3, h0]
          exact mul_unit (sq_monP i)
        refine ⟨[some (.loc o), some mo, some found, some (.int i), some (.int e), o5], S1, by simp, by simp [h0], found, _, _, _, rfl, p1, p2, ?_⟩
        rw [hP]; exact p3
      · obtain ⟨d, S2, w1, w2, w3, w4⟩ := T_power_ok m0 m4 hc hi e2 p1
        have hpos : 0 < e := by omega
        have hins := ins_pw p1
        have hP : monP m A es (i + 1) = mulM m (monP m A es i) (powM m (A i) e) := by
          show mulM m (monP m A es i) (powM m (A i) (es.getD i 0).toNat) = _
          rw [e3]
        rcases p3 with ⟨rfl, hU⟩ | hM
        · refine ⟨[some (.loc o), some mo, some d, some (.int i), some (.int e), some d], S2, by simp, ?_, d, _, _, _, rfl, w3, p2.trans w4, .inr ?_⟩
          · simp [hpos, hins, w1, cIsN, List.lookup, str_wm, str_wp]
          · rw [hP, hU, unit_mul (sq_pow e)]; exact w2
        · obtain ⟨r, g, u1, u2⟩ := T_mul_ok hM w2 (mon_ms m0 m4 n3 hc hx hi e2) (by omega) S2
          have hn := isN_mat hM
          refine ⟨[some (.loc o), some mo, some r, some (.int i), some (.int e), some d], S2 ++ g, by simp, ?_, r, _, _, _, rfl, w3.app g, (p2.trans w4).trans (Fq.app _ _ _ _), .inr (by rw [hP]; exact u2)⟩
          simp [hpos, hins, w1, hn, u1, List.lookup, str_wm, str_wp])
    [some (.loc o), some mo, some .non, none, none, none] S ⟨.non, none, none, none, rfl, h, Fq.refl _ _ _, .inl ⟨rfl, rfl⟩⟩
  simp [mnBody] at h1
  rcases p3 with ⟨rfl, hU⟩ | hM
  · obtain ⟨p, q1, q2⟩ := p1.ps_ 0 n0
    obtain ⟨u, u1, u2⟩ := T_unit_matrix_ok m (by omega) S'
    refine ⟨u, S', ?_, by rw [hU]; exact u2, p1, p2⟩
    simp [T_Powers_monomial, b_Powers_monomial, hmo, h1, cIsN, fld_point p1, q1, q2.len, u1]
  · have hn := isN_mat hM
    exact ⟨found, S', by simp [T_Powers_monomial, b_Powers_monomial, hmo, h1, hn], hM, p1, p2⟩
theorem make_ok (S : Sto) (S2 : 2 ≤ S.length) (hp : ps.length = n) (n3 : n ≤ 6) (m4 : m ≤ 6) (hps : ∀ j, j < n → ∃ p, ps[j]? = some p ∧ matR p m (A j)) :
    ∃ S', T_Powers___init__ C [.loc S.length, .tup ps] (S ++ [.ins C []]) = .ok .non S' ∧ PwOk C m n A ps S.length (S.length + 1) S' ∧ (∀ k, k < S.length → S'[k]? = S[k]?) ∧ S'.length = S.length + 1 + n + 1 := by
  have hLN : LN = 16777216 := rfl
  obtain ⟨acc, S1, h1, rfl, U, rfl, hU1, hU2⟩ := compD_inv (vs := [2]) (g := gN 2) (te := (eMat (lDisp (aCons (eCall 1 T_unit_matrix (aCons (eCB gLenD (aCons (eVar 2) aNil)) aNil)) aNil)))) (env := [some (.loc S.length), some (.tup ps), none]) n (ds := ps) hp
    (fun i acc S1 => acc = (List.range i).map (fun j => D.loc (S.length + 1 + j)) ∧ ∃ U, S1 = S ++ [.ins C []] ++ U ∧ U.length = i ∧ ∀ j, j < i → ∃ u, U[j]? = some (.lst [u]) ∧ matR u m (unitM m))
    (by
      rintro i p acc S1 hi hpi ⟨rfl, U, rfl, hU1, hU2⟩
      obtain ⟨p', q1, q2⟩ := hps i hi
      rw [q1] at hpi; cases hpi
      obtain ⟨u, u1, u2⟩ := T_unit_matrix_ok m (by omega) (S ++ [.ins C []] ++ U)
      refine ⟨[some (.loc S.length), some (.tup ps), some p], .loc (S.length + 1 + i), S ++ [.ins C []] ++ (U ++ [.lst [u]]), by simp [wipeA], ?_, by simp; omega, ?_, U ++ [.lst [u]], rfl, by simp [hU1], fun j hj => ?_⟩
      · have hl := q2.len (S ++ [.ins C []] ++ U)
        simp at hl u1
        simp [hl, u1, hU1]; omega
      · rw [List.range_succ, List.map_append]; rfl
      · by_cases e : j < i
        · obtain ⟨v, a, c⟩ := hU2 j e
          exact ⟨v, by rw [List.getElem?_append_left (by omega)]; exact a, c⟩
        · have : j = i := by omega
          subst this
          exact ⟨u, by rw [List.getElem?_append_right (by omega), hU1]; simp, u2⟩) [] (S ++ [.ins C []]) ⟨rfl, [], by simp, rfl, fun j hj => by omega⟩
  generalize hLs : (List.range n).map (fun j => D.loc (S.length + 1 + j)) = Ls at h1
  have hat : (S ++ [MO.ins C []] ++ U ++ [.lst Ls])[S.length]? = some (.ins C []) := by simp
  refine ⟨S ++ [.ins C [("made", .loc (S.length + 1 + n)), ("point", .tup ps)]] ++ U ++ [.lst Ls], ?_, ⟨by simp, ?_, fun j hj => ?_, by omega, hps, S2⟩, fun k hk => ?_, by simp [hU1]; omega⟩
  · have s1 : setF C "made" (.loc S.length) (.loc (S.length + 1 + n)) (S ++ [MO.ins C []] ++ U ++ [.lst Ls]) = some (S ++ [.ins C [("made", .loc (S.length + 1 + n))]] ++ U ++ [.lst Ls]) := by
      simp [setF, insD, putFD]
    have s2 : setF C "point" (.loc S.length) (.tup ps) (S ++ [.ins C [("made", .loc (S.length + 1 + n))]] ++ U ++ [.lst Ls]) = some (S ++ [.ins C [("made", .loc (S.length + 1 + n)), ("point", .tup ps)]] ++ U ++ [.lst Ls]) := by
      have : ¬ (("made" : Str) = "point") := by decide
      simp [setF, insD, putFD, this]
    have hl : (S ++ [MO.ins C []] ++ U).length = S.length + 1 + n := by simp [hU1]; omega
    simp at h1 s1 s2 hl
    simp [T_Powers___init__, b_Powers___init__, h1, hl, s1, s2]
  · rw [List.getElem?_append_right (by simp [hU1]; omega)]
    simp [hU1, ← hLs]
    rw [show S.length + 1 + n - (S.length + (n + 1)) = 0 by omega]; rfl
  · obtain ⟨u, a, c⟩ := hU2 j hj
    refine ⟨[u], ?_, by simp, by simp, fun e he => ?_⟩
    · rw [List.getElem?_append_left (by simp [hU1]; omega), List.getElem?_append_right (by simp)]
      simp
      (try rw [show S.length + 1 + j - (S.length + 1) = j by omega])
      exact a
    · have : e = 0 := by simp at he; omega
      subst this
      exact ⟨u, rfl, c⟩
  · rw [List.append_assoc, List.append_assoc, List.getElem?_append_left hk]
end
end DV
/-! R15: at_point. -/
namespace DV
open PySem L2
noncomputable abbrev ap3 : EvS := (sIf (tBin (oBn cEq) (eIx (eVar 10) (eC (.int 0))) (eC (.int 0))) (sPut' setLD (eVar 8) (eVar 7) (eCall 2 T_plus (aCons (eIx (eVar 8) (eVar 7)) (aCons (eCall 2 T_times (aCons (eVar 6) (aCons (eVar 10) aNil))) aNil)))) sNil)
noncomputable abbrev ap2 : EvS := (sForW (iEn' (aCons (eVar 9) aNil)) (gTup' 2 (gCons' (gN 7) (gCons' (gN 10) gNil'))) ap3)
/-- one row -/
theorem ap_in {m r : Nat} {S : Sto} {os L : List D} {c : Rat} {s b : Nat → Rat} {fac other : D} (ho : os.length = m) (hob : ∀ j, j < m → ∃ e, os[j]? = some e ∧ fr? e (b j)) (hf : fr? fac c) (hr : S[r]? = some (.lst L)) (hL : frs m L s)
    (hs : ∀ j, j < m → Sm (s j)) (hc : Sm c) (hb : ∀ j, j < m → Sm (b j)) (hp : ∀ j, j < m → Sm (b j * c)) (p0 p1 p2 p3 p4 p5 o7 o10 : Option D) :
    ∃ L' o7' o10', forW [] (gTup' 2 (gCons' (gN 7) (gCons' (gN 10) gNil'))) ap3 (enumD os) [p0, p1, p2, p3, p4, p5, some fac, o7, some (.loc r), some other, o10] S = .nx [p0, p1, p2, p3, p4, p5, some fac, o7', some (.loc r), some other, o10'] (S.set r (.lst L')) ∧ frs m L' (fun j => s j + b j * c) := by
  have hrl : r < S.length := (List.getElem?_eq_some_iff.mp hr).1
  obtain ⟨env', S', h1, L', o7', o10', rfl, rfl, h2⟩ := forW_idx (g := gTup' 2 (gCons' (gN 7) (gCons' (gN 10) gNil'))) (f := ap3) (ws := []) m (ds := enumD os) (by rw [enum_len, ho])
    (fun i env S1 => ∃ L' o7 o10, env = [p0, p1, p2, p3, p4, p5, some fac, o7, some (.loc r), some other, o10] ∧ S1 = S.set r (.lst L') ∧ frs m L' (fun j => if j < i then s j + b j * c else s j)) (fun i env S _ _ => cw_nil S)
    (by
      rintro i q env S1 hi hq ⟨L', o7, o10, rfl, rfl, hL'⟩
      obtain ⟨y, hy, rfl⟩ := enumD_get hq
      obtain ⟨e, he, hfe⟩ := hob i hi
      rw [he] at hy; cases hy
      obtain ⟨z, hz, hfz⟩ := hL'.2 i hi
      simp only [Nat.lt_irrefl, if_false] at hfz
      have hat : (S.set r (.lst L'))[r]? = some (.lst L') := List.getElem?_set_self hrl
      refine ⟨([p0, p1, p2, p3, p4, p5, some fac, some (.int i), some (.loc r), some other, some y], S.set r (.lst L')), ?_⟩
      have ix10 : ixD y (.int 0) (S.set r (.lst L')) = some (.int (b i).num) := fr_ix0 hfe
      by_cases h0 : b i = 0
      · refine ⟨[p0, p1, p2, p3, p4, p5, some fac, some (.int i), some (.loc r), some other, some y], S.set r (.lst L'), by simp, ?_, L', _, _, rfl, rfl, ?_⟩
        · have : (b i).num = 0 := by rw [h0]; rfl
          simp [ix10, this]
        · refine hL'.congr fun j hj => ?_
          by_cases e1 : j < i
          · simp [e1, Nat.lt_succ_of_lt e1]
          · by_cases e2 : j = i
            · subst e2; simp [h0, Rat.add_zero]
            · have e3 : ¬ j < i + 1 := by omega
              simp [e1, e3]
      · have h0' : ¬ (b i).num = 0 := by rwa [Rat.num_eq_zero]
        have e1 := T_times_ok (S.set r (.lst L')) hf hfe hc (hb i hi)
        rw [Rat.mul_comm] at e1
        have e2 := T_plus_ok (S.set r (.lst L')) hfz (fr_frD (b i * c)) (hs i hi) (hp i hi)
        have hix : ixD (.loc r) (.int i) (S.set r (.lst L')) = some z := by rw [ix_loc hat, atI_n, hz]
        have hput := loc_put hat (k := i) (by rw [hL'.1]; exact hi) (frD (s i + b i * c))
        rw [List.set_set] at hput
        refine ⟨[p0, p1, p2, p3, p4, p5, some fac, some (.int i), some (.loc r), some other, some y], S.set r (.lst (L'.set i (frD (s i + b i * c)))), by simp, ?_, _, _, _, rfl, rfl, hL'.set hi (by simp; exact fr_frD _) fun j hj hji => ?_⟩
        · simp [ix10, h0', hix, e1, e2, hput]
        · by_cases e3 : j < i
          · simp [e3, Nat.lt_succ_of_lt e3]
          · have e4 : ¬ j < i + 1 := by omega
            simp [e3, e4])
    [p0, p1, p2, p3, p4, p5, some fac, o7, some (.loc r), some other, o10] S ⟨L, o7, o10, rfl, (set_same hr).symm, hL.congr fun j _ => by simp⟩
  exact ⟨L', o7', o10', h1, h2.congr fun j hj => by simp [hj]⟩
/-- the rows that are found -/
structure FdOk (m c : Nat) (A : Mx) (S : Sto) : Prop where
  ls : S[c + m]? = some (.lst ((List.range m).map fun i => D.loc (c + i)))
  rw_ : ∀ i, i < m → ∃ L, S[c + i]? = some (.lst L) ∧ frs m L (en A i)
/-- the matrix times the factor, added -/
theorem ap_rows {m c : Nat} {S : Sto} {A M : Mx} {f : Rat} {fac : D} {ms : List D} (hfd : FdOk m c A S) (hms : ms.length = m) (hmr : ∀ i, i < m → ∃ e, ms[i]? = some e ∧ rowR e m (en M i)) (hf : fr? fac f) (as : As m A M f) (p0 p1 p2 p3 p4 p5 o7 o8 o9 o10 : Option D) :
    ∃ o7' o8' o9' o10' S', forW [(c + m, .lst ((List.range m).map fun i => D.loc (c + i)))] (gTup' 2 (gCons' (gN 8) (gCons' (gN 9) gNil'))) ap2 (zipD ((List.range m).map fun i => D.loc (c + i)) ms) [p0, p1, p2, p3, p4, p5, some fac, o7, o8, o9, o10] S = .nx [p0, p1, p2, p3, p4, p5, some fac, o7', o8', o9', o10'] S' ∧ FdOk m c (withM m A M f) S' ∧ (∀ k, k < c → S'[k]? = S[k]?) ∧ S'.length = S.length := by
  obtain ⟨env', S', h1, o7', o8', o9', o10', rfl, h2, h3, h4, h5⟩ := forW_idx (g := gTup' 2 (gCons' (gN 8) (gCons' (gN 9) gNil'))) (f := ap2) (ws := [(c + m, .lst ((List.range m).map fun i => D.loc (c + i)))]) m (ds := zipD ((List.range m).map fun i => D.loc (c + i)) ms) (by rw [zip_len]; simp [hms])
    (fun i env S1 => ∃ o7 o8 o9 o10, env = [p0, p1, p2, p3, p4, p5, some fac, o7, o8, o9, o10] ∧ S1[c + m]? = some (.lst ((List.range m).map fun i => D.loc (c + i))) ∧ (∀ i', i' < m → ∃ L, S1[c + i']? = some (.lst L) ∧ frs m L (en (if i' < i then withM m A M f else A) i')) ∧ (∀ k, k < c → S1[k]? = S[k]?) ∧ S1.length = S.length)
    (fun i env S1 _ ⟨_, _, _, _, _, h, _⟩ => Cw.one.mpr h)
    (by
      rintro i q env S1 hi hq ⟨o7, o8, o9, o10, rfl, g1, g2, g3, g4⟩
      obtain ⟨x, y, hx, hy, rfl⟩ := zip_get hq
      rw [List.getElem?_map, List.getElem?_range hi] at hx
      cases hx
      obtain ⟨y', a1, os, a2, a3, a4⟩ := hmr i hi
      rw [a1] at hy; cases hy
      obtain ⟨L, l1, l2⟩ := g2 i hi
      rw [if_neg (Nat.lt_irrefl i)] at l2
      obtain ⟨L', o7', o10', e1, e2⟩ := ap_in (other := y) a3 a4 hf l1 l2 (fun j hj => as.a i j hi hj) as.cc (fun j hj => as.b i j hi hj) (fun j hj => as.p i j hi hj) p0 p1 p2 p3 p4 p5 o7 o10
      refine ⟨([p0, p1, p2, p3, p4, p5, some fac, o7, some (.loc (c + i)), some y, o10], S1), [p0, p1, p2, p3, p4, p5, some fac, o7', some (.loc (c + i)), some y, o10'], S1.set (c + i) (.lst L'), by simp, ?_, _, _, _, _, rfl, ?_, fun i' hi' => ?_, fun k hk => ?_, by rw [List.length_set, g4]⟩
      · simp [a2]
        exact e1
      · rw [List.getElem?_set_ne (by omega)]; exact g1
      · by_cases e : i' = i
        · subst e
          exact ⟨L', List.getElem?_set_self (List.getElem?_eq_some_iff.mp l1).1, by rw [if_pos (by omega)]; exact e2.congr fun j hj => en_with hi hj⟩
        · obtain ⟨L2, b1, b2⟩ := g2 i' hi'
          refine ⟨L2, by rw [List.getElem?_set_ne (by omega)]; exact b1, ?_⟩
          by_cases e3 : i' < i
          · rw [if_pos (by omega)]; rw [if_pos e3] at b2; exact b2
          · rw [if_neg (by omega)]; rw [if_neg e3] at b2; exact b2
      · rw [List.getElem?_set_ne (by omega)]; exact g3 k hk)
    [p0, p1, p2, p3, p4, p5, some fac, o7, o8, o9, o10] S ⟨o7, o8, o9, o10, rfl, hfd.ls, fun i hi => (by
      obtain ⟨L, a, b⟩ := hfd.rw_ i hi
      exact ⟨L, a, by rw [if_neg (by omega)]; exact b⟩), fun _ _ => rfl, rfl⟩
  exact ⟨o7', o8', o9', o10', S', h1, ⟨h2, fun i hi => by
    obtain ⟨L, a, b⟩ := h3 i hi
    exact ⟨L, a, by rw [if_pos hi] at b; exact b⟩⟩, h4, h5⟩
/-- the sum of the first terms -/
def atP (m n : Nat) (A : Nat → Mx) : Tb → Mx → Mx
  | [], B => B
  | a :: P, B => atP m n A P (withM m B (monP m A a.1 n) a.2)
noncomputable abbrev ap1 (C : Addr) : EvS := (sForW (iZm' (aCons (eVar 4) (aCons (eMth C "monomial" 2 (T_Powers_monomial C) (eVar 2) (aCons (eVar 5) aNil)) aNil))) (gTup' 2 (gCons' (gN 8) (gCons' (gN 9) gNil'))) ap2)
theorem str_mm : (("monomial" : Str) == ("made" : Str)) = false := by decide
theorem str_mq : (("monomial" : Str) == ("point" : Str)) = false := by decide
section
variable {C : Addr} {m n o b c : Nat} {A : Nat → Mx} {ps : List D}
/-- sums that stay small -/
def Small3 (m n : Nat) (A : Nat → Mx) : Tb → Mx → Prop
  | [], _ => True
  | a :: P, B => As m B (monP m A a.1 n) a.2 ∧ Small3 m n A P (withM m B (monP m A a.1 n) a.2)
theorem ap_terms (m0 : 0 < m) (m4 : m ≤ 4) (n0 : 0 < n) (n3 : n ≤ 3) (hc : ∀ j, j < n → ME m (A j) 4 152) (hbc : b + n < c) : ∀ (P : Tb) (B : Mx) (S : Sto) (p0 p1 p3 o5 o6 o7 o8 o9 o10 : Option D), (∀ a ∈ P, Exs n a.1) → Small3 m n A P B → PwOk C m n A ps o b S → FdOk m c B S →
    ∃ o5' o6' o7' o8' o9' o10' S', forD (gTup' 2 (gCons' (gN 5) (gCons' (gN 6) gNil'))) (ap1 C) (polyL P) [p0, p1, some (.loc o), p3, some (.loc (c + m)), o5, o6, o7, o8, o9, o10] S = .nx [p0, p1, some (.loc o), p3, some (.loc (c + m)), o5', o6', o7', o8', o9', o10'] S' ∧ FdOk m c (atP m n A P B) S' ∧ (∀ k, k < o → S'[k]? = S[k]?)
  | [], B, S, p0, p1, p3, o5, o6, o7, o8, o9, o10, _, _, _, hfd => ⟨o5, o6, o7, o8, o9, o10, S, rfl, hfd, fun _ _ => rfl⟩
  | a :: P, B, S, p0, p1, p3, o5, o6, o7, o8, o9, o10, hx, hs, hpw, hfd => by
    obtain ⟨s1, s2⟩ := hs
    obtain ⟨d, S1, w1, w2, w3, w4⟩ := T_monomial_ok m0 m4 n0 n3 hc (hx a List.mem_cons_self) (mo := mD a.1) rfl hpw
    have hfd1 : FdOk m c B S1 := ⟨w4.get (by omega) hfd.ls, fun i hi => by
      obtain ⟨L, q1, q2⟩ := hfd.rw_ i hi
      exact ⟨L, w4.get (by omega) q1, q2⟩⟩
    obtain ⟨ms, m1, m2, m3⟩ := w2
    obtain ⟨o7', o8', o9', o10', S2, e1, e2, e3, e4⟩ := ap_rows hfd1 m2 m3 (fr_frD a.2) s1 p0 p1 (some (.loc o)) p3 (some (.loc (c + m))) (some (mD a.1)) o7 o8 o9 o10
    have hlt := hpw.lt
    have hpw2 : PwOk C m n A ps o b S2 := by
      have g : ∀ {k : Nat} {x : MO}, k < c → S1[k]? = some x → S2[k]? = some x := fun {k x} hk h => by rw [e3 k hk]; exact h
      exact ⟨g (by omega) w3.ob, g (by omega) w3.ls, fun j hj => let ⟨rows, a, r⟩ := w3.rw_ j hj; ⟨rows, g (by omega) a, r⟩, w3.lt, w3.ps_, w3.o2⟩
    obtain ⟨o5'', o6'', o7'', o8'', o9'', o10'', S3, f1, f2, f3⟩ := ap_terms m0 m4 n0 n3 hc hbc P _ S2 p0 p1 p3 (some (mD a.1)) (some (frD a.2)) o7' o8' o9' o10' (fun x h => hx x (List.mem_cons_of_mem _ h)) s2 hpw2 e2
    refine ⟨o5'', o6'', o7'', o8'', o9'', o10'', S3, ?_, f2, fun k hk => ?_⟩
    · have hins := ins_pw hpw
      have step : ap1 C [p0, p1, some (.loc o), p3, some (.loc (c + m)), some (mD a.1), some (frD a.2), o7, o8, o9, o10] S = .nx [p0, p1, some (.loc o), p3, some (.loc (c + m)), some (mD a.1), some (frD a.2), o7', o8', o9', o10'] S2 := by
        have hit : iZm' (aCons (eVar 4) (aCons (eMth C "monomial" 2 (T_Powers_monomial C) (eVar 2) (aCons (eVar 5) aNil)) aNil)) [p0, p1, some (.loc o), p3, some (.loc (c + m)), some (mD a.1), some (frD a.2), o7, o8, o9, o10] S = .ok (zipD ((List.range m).map fun i => D.loc (c + i)) ms, [(c + m, .lst ((List.range m).map fun i => D.loc (c + i)))]) S1 := by
          simp [hins, List.lookup, str_mm, str_mq, w1, hfd1.ls, m1]
        show sbind (iZm' _ _ _) _ _ = _
        rw [hit]
        exact e1
      show forD _ _ (tmD a :: polyL P) _ S = _
      unfold forD
      have hg : gTup' 2 (gCons' (gN 5) (gCons' (gN 6) gNil')) (tmD a) [p0, p1, some (.loc o), p3, some (.loc (c + m)), o5, o6, o7, o8, o9, o10] S = some ([p0, p1, some (.loc o), p3, some (.loc (c + m)), some (mD a.1), some (frD a.2), o7, o8, o9, o10], S) := by simp [tmD]
      rw [hg]
      simp only
      rw [step]
      exact f1
    · rw [f3 k hk, e3 k (by omega), w4.at_ k (by have := (List.getElem?_eq_some_iff.mp hpw.ob).1; omega) (by omega)]
theorem T_at_point_ok (m0 : 0 < m) (m4 : m ≤ 4) (n0 : 0 < n) (n3 : n ≤ 3) (hc : ∀ j, j < n → ME m (A j) 4 152) (hp : ps.length = n) (hps : ∀ j, j < n → ∃ p, ps[j]? = some p ∧ matR p m (A j)) {P : Tb} {p : D} (hP : p.seq? = some (polyL P)) (hx : ∀ a ∈ P, Exs n a.1) (hs : Small3 m n A P (zeroM m)) (S : Sto) (S2 : 2 ≤ S.length) :
    ∃ d S', T_at_point C [p, .tup ps] S = .ok d S' ∧ matR d m (atP m n A P (zeroM m)) ∧ (∀ k, k < S.length → S'[k]? = S[k]?) := by
  have hLN : LN = 16777216 := rfl
  obtain ⟨S1, i1, i2, i3, i4⟩ := make_ok (C := C) (A := A) S S2 hp (by omega) (by omega) hps
  obtain ⟨q, q1, q2⟩ := hps 0 n0
  -- the rows of zeros
  obtain ⟨acc, S3, h1, rfl, U, rfl, hU1, hU2⟩ := compW_inv (ws := []) (vs := [7]) (g := gN 7) (te := (eMat (lMul (lDisp (aCons (eC (.cst (List.map D.int [0, 1]))) aNil)) (eVar 3)))) (env := [some p, some (.tup ps), some (.loc S.length), some (.int m), none, none, none, none, none, none, none]) m (ds := rngD 0 m) (rng_len 0 m)
    (fun i acc S2 => acc = (List.range i).map (fun j => D.loc (S1.length + j)) ∧ ∃ U, S2 = S1 ++ U ∧ U.length = i ∧ ∀ j, j < i → U[j]? = some (.lst (List.replicate m (.cst (List.map D.int [0, 1]))))) (fun i acc S _ _ => cw_nil S)
    (by
      rintro i x acc S2 hi hx ⟨rfl, U, rfl, hU1, hU2⟩
      have := rng_get hx; subst this
      refine ⟨[some p, some (.tup ps), some (.loc S.length), some (.int m), none, none, none, some (.int i), none, none, none], .loc (S1.length + i), S1 ++ (U ++ [.lst (List.replicate m (.cst (List.map D.int [0, 1])))]), by simp [wipeA], ?_, by simp; omega, ?_, _, rfl, by simp [hU1], fun j hj => ?_⟩
      · have hb := rngB_nat (show m < 1000000 by omega)
        have hq : m ≤ 16777216 := by omega
        have ef := flat_rep1 (D.cst [.int 0, .int 1]) m
        simp [hb, hq, ef, hU1]
      · rw [List.range_succ, List.map_append]; rfl
      · by_cases e : j < i
        · rw [List.getElem?_append_left (by omega)]; exact hU2 j e
        · have : j = i := by omega
          subst this
          rw [List.getElem?_append_right (by omega), hU1]; simp) [] S1 ⟨rfl, [], by simp, rfl, fun j hj => by omega⟩
  generalize hLs : (List.range m).map (fun j => D.loc (S1.length + j)) = Ls at h1
  have hfd : FdOk m S1.length (zeroM m) (S1 ++ U ++ [.lst Ls]) := by
    refine ⟨?_, fun i hi => ?_⟩
    · rw [← hLs, List.getElem?_append_right (by simp [hU1])]; simp [hU1]
    · refine ⟨List.replicate m (.cst (List.map D.int [0, 1])), ?_, (frs.zeros m).congr fun j hj => en_zero hi hj⟩
      rw [List.getElem?_append_left (by simp [hU1]; omega), List.getElem?_append_right (by omega)]
      rw [show S1.length + i - S1.length = i by omega]; exact hU2 i hi
  have hpw : PwOk C m n A ps S.length (S.length + 1) (S1 ++ U ++ [.lst Ls]) := (i2.app U).app _
  obtain ⟨o5', o6', o7', o8', o9', o10', S4, f1, f2, f3⟩ := ap_terms m0 m4 n0 n3 hc (c := S1.length) (by omega) P (zeroM m) (S1 ++ U ++ [.lst Ls]) (some p) (some (.tup ps)) (some (.int m)) none none none none none none hx hs hpw hfd
  -- the answer
  obtain ⟨ys, S5, g1, rfl, g2, g3⟩ := compW_inv (ws := [(S1.length + m, .lst ((List.range m).map fun i => D.loc (S1.length + i)))]) (vs := [8]) (g := gN 8) (te := (eCB gTupD (aCons (eVar 8) aNil))) (env := [some p, some (.tup ps), some (.loc S.length), some (.int m), some (.loc (S1.length + m)), o5', o6', o7', o8', o9', o10']) m (ds := (List.range m).map fun i => D.loc (S1.length + i)) (by simp)
    (fun i acc S2 => S4 = S2 ∧ acc.length = i ∧ ∀ j, j < i → ∃ e, acc[j]? = some e ∧ rowR e m (en (atP m n A P (zeroM m)) j)) (fun i acc S _ h => Cw.one.mpr (by rw [← h.1]; exact f2.ls))
    (by
      rintro i x acc S2 hi hx ⟨rfl, k1, k2⟩
      rw [List.getElem?_map, List.getElem?_range hi] at hx
      cases hx
      obtain ⟨L, l1, l2⟩ := f2.rw_ i hi
      have ht := gTupD_ok l1
      refine ⟨[some p, some (.tup ps), some (.loc S.length), some (.int m), some (.loc (S1.length + m)), o5', o6', o7', some (.loc (S1.length + i)), o9', o10'], .tup L, S4, by simp [wipeA], by simp [ht], by omega, rfl, by simp [k1], fun j hj => ?_⟩
      by_cases e : j < i
      · obtain ⟨y, a, d⟩ := k2 j e
        exact ⟨y, by rw [List.getElem?_append_left (by omega)]; exact a, d⟩
      · have : j = i := by omega
        subst this
        exact ⟨.tup L, by rw [List.getElem?_append_right (by omega), k1]; simp, l2.row⟩) [] S4 ⟨rfl, rfl, fun j hj => by omega⟩
  refine ⟨.tup ys, S4, ?_, ⟨ys, rfl, g2, g3⟩, fun k hk => ?_⟩
  · have hl : (S1 ++ U).length = S1.length + m := by simp [hU1]
    have hr : iRng1K [.int m] S1 = .ok (rngD 0 m) S1 := rng1_nat _ (by omega)
    have hql := q2.len S1
    have hls := f2.ls
    have step1 : sSet 2 (eMake C 2 (T_Powers___init__ C) (aCons (eVar 1) aNil)) [some p, some (.tup ps), none, none, none, none, none, none, none, none, none] S = .nx [some p, some (.tup ps), some (.loc S.length), none, none, none, none, none, none, none, none] S1 := by
      simp [i1]
    have step2 : sSet 3 (eCB gLenD (aCons (eIx (eVar 1) (eC (.int 0))) aNil)) [some p, some (.tup ps), some (.loc S.length), none, none, none, none, none, none, none, none] S1 = .nx [some p, some (.tup ps), some (.loc S.length), some (.int m), none, none, none, none, none, none, none] S1 := by
      simp [q1, hql]
    have step3 : sSet 4 (eMat (lCompW [7] (fun env S => ((iRng1' (aCons (eVar 3) aNil)) env S).bind fun ds S1 => .ok (ds, []) S1) (gN 7) tYes' (eMat (lMul (lDisp (aCons (eC (.cst (List.map D.int [0, 1]))) aNil)) (eVar 3))))) [some p, some (.tup ps), some (.loc S.length), some (.int m), none, none, none, none, none, none, none] S1 = .nx [some p, some (.tup ps), some (.loc S.length), some (.int m), some (.loc (S1.length + m)), none, none, none, none, none, none] (S1 ++ U ++ [.lst Ls]) := by
      simp at h1 hr hl
      simp [hr, h1, hl]
    have step4 : sFor (iTup' (eVar 0)) (gTup' 2 (gCons' (gN 5) (gCons' (gN 6) gNil'))) (ap1 C) [some p, some (.tup ps), some (.loc S.length), some (.int m), some (.loc (S1.length + m)), none, none, none, none, none, none] (S1 ++ U ++ [.lst Ls]) = .nx [some p, some (.tup ps), some (.loc S.length), some (.int m), some (.loc (S1.length + m)), o5', o6', o7', o8', o9', o10'] S4 := by
      have hit : iTup' (eVar 0) [some p, some (.tup ps), some (.loc S.length), some (.int m), some (.loc (S1.length + m)), none, none, none, none, none, none] (S1 ++ U ++ [.lst Ls]) = .ok (polyL P) (S1 ++ U ++ [.lst Ls]) := by simp [hP]
      show sbind (iTup' _ _ _) _ _ = _
      rw [hit]
      exact f1
    have step5 : sRet (eOfL gTup (lCompW [8] (iLoc' (eVar 4)) (gN 8) tYes' (eCB gTupD (aCons (eVar 8) aNil)))) [some p, some (.tup ps), some (.loc S.length), some (.int m), some (.loc (S1.length + m)), o5', o6', o7', o8', o9', o10'] S4 = .ret (.tup ys) S4 := by
      (try simp at g1)
      simp [hls, g1]
    have hb := seq_nx step1 (seq_nx step2 (seq_nx step3 (seq_nx step4 step5)))
    simp only [T_at_point, run_def, start_def]
    show (match b_at_point C [some p, some (.tup ps), none, none, none, none, none, none, none, none, none] S with | .nx _ S' => _ | .ret d S' => _ | .exc c _ S' => _ | _ => _) = _
    rw [show b_at_point C [some p, some (.tup ps), none, none, none, none, none, none, none, none, none] S = .ret (.tup ys) S4 from hb]
  · rw [f3 k hk, List.append_assoc, List.getElem?_append_left (by omega)]; exact i3 k hk
end
end DV
/-! R16: repr; sizes. -/
namespace DV
open PySem L2
theorem sb_append (a b : Str) : (a ++ b).length = a.length + b.length := PySem.strLen_append ..
/-- all ints below 2 ^ 400 -/
def Small (i : Int) : Prop := i.natAbs < 2 ^ 400
theorem shown_int {i : Int} (h : Small i) : (PyData.shown (.int i)).length ≤ 401 := by
  have h1 : i.natAbs.log2 < 400 := Nat.lt_of_le_of_lt (lgI (k := 399) h) (by decide)
  have h2 := int_text_length_le (k := 400) (by decide) h1
  show (Str.ofString (toString i)).length ≤ 401
  rw [ofString_length]; exact h2
theorem showable_int {i : Int} (h : Small i) : PyData.showable (.int i) = true := by
  have h1 : i.natAbs.log2 < 1920 := Nat.lt_of_le_of_lt (lgI (k := 399) h) (by decide)
  simpa [PyData.showable] using h1
theorem tupleText_len (ts : List Str) : (tupleText ts).length ≤ piled ts + 3 := by
  unfold tupleText
  rw [sb_append, sb_append]
  have e1 : ((("(" : String) : Str)).length = 1 := rfl
  have e3 : (((if ts.length == 1 then ",)" else ")" : String) : Str)).length ≤ 2 := by split <;> decide
  rw [e1]
  by_cases h : ts = []
  · subst h
    have : (Str.join ", " ([] : List Str)).length = 0 := rfl
    omega
  · have := join_length_add ts h
    omega
theorem shown_tuple (xs : List PyData) : (PyData.shown (.tuple xs)).length ≤ piled (PyData.shownAll xs) + 3 := by
  rw [PyData.shown]; exact tupleText_len _
/-- data whose parts are shown in k signs each -/
theorem piled_le {k : Nat} : ∀ {xs : List PyData}, (∀ x ∈ xs, (PyData.shown x).length ≤ k) → piled (PyData.shownAll xs) ≤ xs.length * (k + 2)
  | [], _ => by simp [PyData.shownAll, piled]
  | x :: xs, h => by
    have ih := piled_le fun y hy => h y (List.mem_cons_of_mem _ hy)
    have h1 := h x List.mem_cons_self
    rw [PyData.shownAll, piled_cons, List.length_cons, Nat.add_mul]
    omega
theorem showable_tuple {xs : List PyData} (h : ∀ x ∈ xs, PyData.showable x = true) : PyData.showable (.tuple xs) = true := by
  rw [PyData.showable]
  induction xs with
  | nil => rfl
  | cons x xs ih => rw [PyData.showableAll, h x List.mem_cons_self, ih fun y hy => h y (List.mem_cons_of_mem _ hy)]; rfl
theorem hasDict_tuple {xs : List PyData} (h : ∀ x ∈ xs, PyData.hasDict x = false) : PyData.hasDict (.tuple xs) = false := by
  rw [PyData.hasDict]
  induction xs with
  | nil => rfl
  | cons x xs ih => rw [PyData.hasDictAll, h x List.mem_cons_self, ih fun y hy => h y (List.mem_cons_of_mem _ hy)]; rfl
theorem depth_tuple {k : Nat} {xs : List PyData} (h : ∀ x ∈ xs, PyData.depth x ≤ k) : PyData.depth (.tuple xs) ≤ k + 1 := by
  rw [PyData.depth]
  have : PyData.depthAll xs ≤ k := by
    induction xs with
    | nil => simp [PyData.depthAll]
    | cons x xs ih =>
      rw [PyData.depthAll]
      have h1 := h x List.mem_cons_self
      have h2 := ih fun y hy => h y (List.mem_cons_of_mem _ hy)
      omega
  omega
/-- shown in at most k signs, at depth j -/
structure Sh (k j : Nat) (q : PyData) : Prop where
  s : q.showable = true
  d : q.hasDict = false
  l : q.shown.length ≤ k
  p : q.depth ≤ j
theorem Sh.int {i : Int} (h : Small i) : Sh 401 0 (.int i) := ⟨showable_int h, by simp [PyData.hasDict], shown_int h, by simp [PyData.depth]⟩
theorem Sh.tup {k j : Nat} {xs : List PyData} (h : ∀ x ∈ xs, Sh k j x) : Sh (xs.length * (k + 2) + 3) (j + 1) (.tuple xs) :=
  ⟨showable_tuple fun x hx => (h x hx).s, hasDict_tuple fun x hx => (h x hx).d, Nat.le_trans (shown_tuple xs) (Nat.add_le_add_right (piled_le fun x hx => (h x hx).l) 3), depth_tuple fun x hx => (h x hx).p⟩
theorem Sh.mono {k k' j j' : Nat} {q : PyData} (h : Sh k j q) (hk : k ≤ k') (hj : j ≤ j') : Sh k' j' q := ⟨h.s, h.d, Nat.le_trans h.l hk, Nat.le_trans h.p hj⟩
theorem repr_ok {d : D} {q : PyData} {k j : Nat} (S : Sto) (hq : d.py = some q) (h : Sh k j q) (hk : k ≤ 16777216) (hj : j ≤ 20) : gRepr [d] S = some (.str q.shown) := by
  have : ShowOk q := ⟨h.s, h.d, Nat.le_trans h.l hk, Nat.le_trans h.p hj⟩
  simp only [gRepr, hq, Option.bind_some]
  rw [if_pos this]
theorem repr_bl (b : Bool) (S : Sto) : gRepr [.bl b] S = some (.str (if b then "True" else "False")) := by
  have : Sh 10 0 (.bool b) := ⟨by simp [PyData.showable], by simp [PyData.hasDict], by cases b <;> decide, by simp [PyData.depth]⟩
  rw [repr_ok (d := .bl b) S rfl this (by decide) (by decide)]
  simp only [PyData.shown]
theorem small_sm {x : Rat} (h : Sm x) : Small x.num ∧ Small (x.den : Int) := ⟨h.1, by have := h.2; unfold Small; omega⟩
theorem sh_mat {n : Nat} {A : Mx} (hn : n ≤ 4) (h : ∀ i j, i < n → j < n → Sm (en A i j)) : Sh 16777216 20 (matP n A) := by
  have h1 : ∀ i j, i < n → j < n → Sh 809 1 (.tuple [.int (en A i j).num, .int (en A i j).den]) := by
    intro i j hi hj
    obtain ⟨a, b⟩ := small_sm (h i j hi hj)
    have := Sh.tup (k := 401) (j := 0) (xs := [.int (en A i j).num, .int (en A i j).den]) fun y hy => by
      simp only [List.mem_cons, List.mem_nil_iff, or_false] at hy
      rcases hy with rfl | rfl
      · exact Sh.int a
      · exact Sh.int b
    exact this.mono (show 2 * (401 + 2) + 3 ≤ 809 by decide) (by decide)
  have h2 : ∀ i, i < n → Sh 3247 2 (rowP n (en A i)) := by
    intro i hi
    have := Sh.tup (k := 809) (j := 1) (xs := (List.range n).map fun j => PyData.tuple [.int (en A i j).num, .int (en A i j).den]) fun y hy => by
      obtain ⟨j, hj, rfl⟩ := List.mem_map.mp hy
      exact h1 i j hi (by simpa using hj)
    refine this.mono ?_ (by decide)
    rw [List.length_map, List.length_range]; omega
  have := Sh.tup (k := 3247) (j := 2) (xs := (List.range n).map fun i => rowP n (en A i)) fun y hy => by
    obtain ⟨i, hi, rfl⟩ := List.mem_map.mp hy
    exact h2 i (by simpa using hi)
  refine this.mono ?_ (by decide)
  rw [List.length_map, List.length_range]; omega
theorem repr_mat {d : D} {n : Nat} {A : Mx} (h : matR d n A) (hn : n ≤ 4) (s : ∀ i j, i < n → j < n → Sm (en A i j)) (S : Sto) : gRepr [d] S = some (.str (matP n A).shown) := repr_ok S h.py (sh_mat hn s) (Nat.le_refl _) (by decide)
/-! ### sizes of what is summed -/
@[irreducible] def WW : Nat := K4 ^ 3 * bb
@[irreducible] def M0 : Nat := 64 ^ 3 * 42
theorem ww5 : 5 * WW < 2 ^ 250 := by unfold WW; decide
theorem m0_lt : M0 < 2 ^ 250 := by unfold M0; decide
theorem m0_ne : M0 ≠ 0 := by unfold M0; decide
theorem ww_le : WW ≤ 5 * WW := by omega
theorem cb_ww {x y : Rat} (h : CB (64 ^ 3) (K4 ^ 3) x) (g : CB 42 bb y) : CB M0 WW (x * y) := by unfold M0 WW; exact h.mul g
theorem mon_big {m n : Nat} {A : Nat → Mx} {es : Mon} (m0 : 0 < m) (m4 : m ≤ 4) (n0 : 0 < n) (n3 : n ≤ 3) (hc : ∀ j, j < n → ME m (A j) 4 152) (hx : Exs n es) : ME m (monP m A es n) (64 ^ 3) (K4 ^ 3) := by
  have w := mon_me m0 m4 n3 hc hx n (Nat.le_refl _)
  match n, n0, n3 with
  | 1, _, _ => exact (w.scale (c := 4096) (by decide)).mono (by decide)
  | 2, _, _ => exact (w.scale (c := 64) (by decide)).mono (by decide)
  | 3, _, _ => exact w
theorem term_cb {m n : Nat} {A : Nat → Mx} {es : Mon} {c : Rat} (m0 : 0 < m) (m4 : m ≤ 4) (n0 : 0 < n) (n3 : n ≤ 3) (hc : ∀ j, j < n → ME m (A j) 4 152) (hx : Exs n es) (hcb : CB 42 bb c) {t : Nat} (ht : t ≤ 4) {B : Mx} (hB : ME m B M0 (t * WW)) :
    As m B (monP m A es n) c ∧ ME m (withM m B (monP m A es n) c) M0 ((t + 1) * WW) := by
  have w := mon_big m0 m4 n0 n3 hc hx
  have hp : ∀ i j, i < m → j < m → CB M0 WW (en (monP m A es n) i j * c) := fun i j hi hj => cb_ww (w i j hi hj) hcb
  have l1 : M0 < 2 ^ 400 := lt250 m0_lt
  have l2 : 5 * WW < 2 ^ 400 := lt250 ww5
  have l3 : t * WW ≤ 5 * WW := Nat.mul_le_mul (by omega) (Nat.le_refl _)
  have l4 : WW < 2 ^ 400 := Nat.lt_of_le_of_lt ww_le l2
  have l5 : t * WW < 2 ^ 400 := Nat.lt_of_le_of_lt l3 l2
  exact ⟨⟨fun i j hi hj => (hB i j hi hj).sm l1 l5, fun i j hi hj => (w i j hi hj).sm (lt250 (by decide)) (lt250 (by decide)), hcb.sm (lt250 (by decide)) (lt250 (by decide)), fun i j hi hj => (hp i j hi hj).sm l1 l4⟩,
    fun i j hi hj => by rw [en_with hi hj, Nat.succ_mul]; exact (hB i j hi hj).add m0_ne (hp i j hi hj)⟩
theorem small3_of {m n : Nat} {A : Nat → Mx} (m0 : 0 < m) (m4 : m ≤ 4) (n0 : 0 < n) (n3 : n ≤ 3) (hc : ∀ j, j < n → ME m (A j) 4 152) : ∀ (P : Tb) (B : Mx) (t : Nat), (∀ a ∈ P, Exs n a.1 ∧ CB 42 bb a.2) → t + P.length ≤ 4 → ME m B M0 (t * WW) → Small3 m n A P B ∧ ME m (atP m n A P B) M0 (4 * WW)
  | [], B, t, _, ht, hB => ⟨trivial, hB.mono (Nat.mul_le_mul (by simp at ht; omega) (Nat.le_refl _))⟩
  | a :: P, B, t, hx, ht, hB => by
    simp only [List.length_cons] at ht
    obtain ⟨h1, h2⟩ := hx a List.mem_cons_self
    obtain ⟨a1, a2⟩ := term_cb m0 m4 n0 n3 hc h1 h2 (show t ≤ 4 by omega) hB
    obtain ⟨b1, b2⟩ := small3_of m0 m4 n0 n3 hc P _ (t + 1) (fun x h => hx x (List.mem_cons_of_mem _ h)) (by omega) a2
    exact ⟨⟨a1, b1⟩, b2⟩
theorem mon_bound2 : ∀ j, j ≤ 3 → 64 ^ j * 64 * 4 < 2 ^ 250 ∧ 4 * (4 * (K4 ^ j * KB) * 152) < 2 ^ 250 ∧ 64 ^ j * 64 ≠ 0 ∧ 4 * (K4 ^ j * KB) < 2 ^ 250 := by
  intro j hj
  match j, hj with
  | 0, _ => decide
  | 1, _ => decide
  | 2, _ => decide
  | 3, _ => decide
theorem mon_step_ms {m n : Nat} {A : Nat → Mx} {es : Mon} (m0 : 0 < m) (m4 : m ≤ 4) (n3 : n ≤ 3) (hc : ∀ j, j < n → ME m (A j) 4 152) (hx : Exs n es) {j e : Nat} (hj : j < n) (he : e ≤ 3) : Ms m (mulM m (monP m A es j) (powM m (A j) e)) (A j) := by
  obtain ⟨q1, q2, q3, q4⟩ := mon_bound j (by omega)
  obtain ⟨r1, r2, r3, r4⟩ := mon_bound2 j (by omega)
  have w := (ms_cb q3 (by decide) (mon_me m0 m4 n3 hc hx j (by omega)) (pow_kb m0 m4 (hc j hj) he) (lt250 q1) (lt250 (Nat.lt_of_le_of_lt (Nat.mul_le_mul_right _ m4) q2)) (lt250 q4) (lt250 (by decide)) m0).2
  have l1 : m * (K4 ^ j * KB) ≤ 4 * (K4 ^ j * KB) := Nat.mul_le_mul_right _ m4
  have l2 : m * (m * (K4 ^ j * KB) * 152) ≤ 4 * (4 * (K4 ^ j * KB) * 152) := Nat.mul_le_mul m4 (Nat.mul_le_mul_right _ l1)
  exact (ms_cb r3 (by decide) w (hc j hj) (lt250 r1) (lt250 (Nat.lt_of_le_of_lt l2 r2)) (lt250 (Nat.lt_of_le_of_lt l1 r4)) (lt250 (by decide)) m0).1
end DV
/-! R17: the law. -/
namespace DV
open PySem L2
abbrev lenv (n m : Nat) (ps : List D) (o3 o6 o7 o8 o9 o10 o11 o12 o13 : Option D) : AEnv := [none, some (.loc 1), some (.tup ps), o3, some (.int n), some (.int m), o6, o7, o8, o9, o10, o11, o12, o13]
section
variable {C : Addr} {t m n : Nat} {S : Sto} {M : Mx} {ps : List D} {A : Nat → Mx}
/-- a point, its matrices named -/
structure Pt (m n : Nat) (M : Mx) (ps : List D) (A : Nat → Mx) : Prop where
  p : Point m n M ps
  a : ∀ j, j < n → ∃ p, ps[j]? = some p ∧ PtM m M p (A j)
theorem Pt.cb (P : Pt m n M ps A) : ∀ j, j < n → ME m (A j) 4 152 := fun j hj => let ⟨_, _, h⟩ := P.a j hj; h.cb
theorem Pt.r (P : Pt m n M ps A) : ∀ j, j < n → ∃ p, ps[j]? = some p ∧ matR p m (A j) := fun j hj => let ⟨p, a, h⟩ := P.a j hj; ⟨p, a, h.r⟩
theorem pt_of (P : Point m n M ps) : ∃ A, Pt m n M ps A := by
  have h : ∀ j, ∃ B : Mx, j < n → ∃ p, ps[j]? = some p ∧ PtM m M p B := fun j => by
    by_cases hj : j < n
    · have hl : j < ps.length := by rw [P.len]; exact hj
      obtain ⟨B, hB⟩ := P.pt _ (List.getElem_mem hl)
      exact ⟨B, fun _ => ⟨_, List.getElem?_eq_getElem hl, hB⟩⟩
    · exact ⟨[], fun h => absurd h hj⟩
  exact ⟨fun j => Classical.choose (h j), P, fun j hj => Classical.choose_spec (h j) hj⟩
theorem isPt_point (P : Point m n M ps) : IsPt n (.tup ps) := by
  refine ⟨ps, rfl, P.len, ?_, fun i j x y hx hy => ?_⟩
  · rw [List.all_eq_true]
    intro p hp
    obtain ⟨B, hB⟩ := P.pt p hp
    exact (hB.gd P.m0 P.m4).2.1
  · obtain ⟨B, hB⟩ := P.pt x (mem_get hx)
    obtain ⟨B', hB'⟩ := P.pt y (mem_get hy)
    obtain ⟨_, _, a1, a2⟩ := hB.gd P.m0 P.m4
    obtain ⟨_, _, b1, b2⟩ := hB'.gd P.m0 P.m4
    refine ⟨by rw [a1, b1], ?_⟩
    rw [a1, a2, b2]
    exact Poly2.comm P.sq hB.po hB'.po
theorem tOk_point (P : Point m n M ps) : tOk (.tup ps) := by
  have := P.len
  have := P.n3
  refine tOk_tup (by omega) fun p hp => ?_
  obtain ⟨B, hB⟩ := P.pt p hp
  exact (hB.gd P.m0 P.m4).1
theorem law0 (h : CS t S) (ht : t < 2 ^ 40) : ∃ (n m : Nat) (S' : Sto), 0 < n ∧ n ≤ 3 ∧ 0 < m ∧ m ≤ 4 ∧ CS (t + 2) S' ∧ b_law_0 C [none, some (.loc 1), none, none, none, none, none, none, none, none, none, none, none, none] S = .nx [none, some (.loc 1), none, none, some (.int n), some (.int m), none, none, none, none, none, none, none, none] S' := by
  obtain ⟨d, S1, hd, e, h1, k⟩ := take_ok h (by omega) 3 (by decide) (by decide)
  obtain ⟨d2, S2, hd2, e2, h2, k2⟩ := take_ok h1 (by omega) 4 (by decide) (by decide)
  have e' : T__law_take [.loc 1, .int 3] S = .ok (.int d) S1 := e
  have e2' : T__law_take [.loc 1, .int 4] S1 = .ok (.int d2) S2 := e2
  refine ⟨d + 1, d2 + 1, S2, by omega, by omega, by omega, by omega, h2, ?_⟩
  have w1 : (1 + (d : Int)) = ((d + 1 : Nat) : Int) := by omega
  have w2 : (1 + (d2 : Int)) = ((d2 + 1 : Nat) : Int) := by omega
  simp [b_law_0, e', e2', w1, w2]
theorem law1 (h : CS t S) (ht : t < 2 ^ 40) (n0 : 0 < n) (n3 : n ≤ 3) (m0 : 0 < m) (m4 : m ≤ 4) : ∃ (M : Mx) (ps : List D) (S' : Sto), Point m n M ps ∧ CS (t + 200) S' ∧ b_law_1 C [none, some (.loc 1), none, none, some (.int n), some (.int m), none, none, none, none, none, none, none, none] S = .nx (lenv n m ps none none none none none none none none none) S' := by
  obtain ⟨M, ps, S', e, sq, hl, hp, hc⟩ := commuting_ok h (by omega) m0 m4 (show n ≤ 6 by omega)
  exact ⟨M, ps, S', ⟨m0, m4, n0, n3, sq, hl, hp⟩, hc, by simp [b_law_1, e]⟩
variable {o3 o6 o7 o8 o9 o10 o11 o12 o13 : Option D}
theorem law2 (P : Point m n M ps) (h : CS t S) : ∃ S', CS t S' ∧ b_law_2 C (lenv n m ps o3 o6 o7 o8 o9 o10 o11 o12 o13) S = .nx (lenv n m ps o3 o6 o7 o8 o9 o10 o11 o12 o13) S' := by
  obtain ⟨g1, g2⟩ := tOk_point P
  obtain ⟨b, g, e, hb⟩ := T_is_point_ok (n := n) g1 g2 S
  have hbt : b = true := hb.mpr (isPt_point P)
  subst hbt
  have rb := repr_bl true (S ++ g)
  simp at rb
  refine ⟨S ++ g, h.app _, ?_⟩
  simp [b_law_2, e, rb]
theorem law30 (P : Point m n M ps) (h : CS t S) (ht : t < 2 ^ 40) : ∃ d S', tOk d ∧ CS (t + 200) S' ∧ b_law_3b_0 C (lenv n m ps o3 o6 o7 o8 o9 o10 o11 o12 o13) S = .nx (lenv n m ps o3 (some d) o7 o8 o9 o10 o11 o12 o13) S' := by
  obtain ⟨d, S', e, hd, hc⟩ := bent_ok P h (by omega)
  exact ⟨d, S', hd, hc, by simp [b_law_3b_0, e]⟩
theorem same_step {fa fb : EvE} {env : AEnv} {S S1 S2 : Sto} {a b : D} {x : Str} (h1 : fa env S = .ok a S1) (r1 : gRepr [a] S1 = some (.str x)) (h2 : fb env S1 = .ok b S2) (r2 : gRepr [b] S2 = some (.str x)) :
    tBin (oBn cEq) (eCB gRepr (aCons fa aNil)) (eCB gRepr (aCons fb aNil)) env S = .ok false S2 := by
  simp [h1, r1, h2, r2]
theorem law31 {d : D} (hd : tOk d) (h : CS t S) : ∃ S', CS t S' ∧ b_law_3b_1 C (lenv n m ps o3 (some d) o7 o8 o9 o10 o11 o12 o13) S = .nx (lenv n m ps o3 (some d) o7 o8 o9 o10 o11 o12 o13) S' := by
  obtain ⟨b1, g1, e1, hb1⟩ := T_is_point_ok (n := n) hd.1 hd.2 S
  obtain ⟨b2, g2, e2, hb2⟩ := T_law_is_point_ok (n := n) hd.1 (S ++ g1)
  have hb : b1 = b2 := by
    cases b1 <;> cases b2 <;> simp_all
  subst hb
  refine ⟨S ++ g1 ++ g2, (h.app _).app _, ?_⟩
  have t1 : tBin (oBn cEq) (eCB gRepr (aCons (eCall 2 T_is_point (aCons (eVar 6) (aCons (eVar 4) aNil))) aNil)) (eCB gRepr (aCons (eCall 2 T__law_is_point (aCons (eVar 6) (aCons (eVar 4) aNil))) aNil)) (lenv n m ps o3 (some d) o7 o8 o9 o10 o11 o12 o13) S = .ok false (S ++ g1 ++ g2) :=
    same_step (a := .bl b1) (b := .bl b1) (S1 := S ++ g1) (by simp [e1]) (repr_bl _ _) (by simp only [eCall, aCons, eVar, aNil]; simp [e2]) (repr_bl _ _)
  show sbind (tBin _ _ _ (lenv n m ps o3 (some d) o7 o8 o9 o10 o11 o12 o13) S) _ _ = _
  rw [t1]
  simp
theorem law32 (P : Point m n M ps) (h : CS t S) (ht : t < 2 ^ 40) : ∃ (L : Tb) (S' : Sto), Drawn n 4 L ∧ CS (t + 100) S' ∧ b_law_3b_2 C (lenv n m ps o3 o6 o7 o8 o9 o10 o11 o12 o13) S = .nx (lenv n m ps o3 o6 (some (.fup (polyL L))) o8 o9 o10 o11 o12 o13) S' := by
  obtain ⟨L, S', e, hd, hc⟩ := polynomial_ok (terms := 4) h (by omega) P.n0 P.n3 (by decide)
  have e' : T__law_polynomial [.loc 1, .int n, .int 4, .int 3] S = .ok (.fup (polyL L)) S' := e
  exact ⟨L, S', hd, hc, by simp [b_law_3b_2, e']⟩
theorem law33 (P : Point m n M ps) : ∃ d, matR d m (zeroM m) ∧ b_law_3b_3 C (lenv n m ps o3 o6 o7 o8 o9 o10 o11 o12 o13) S = .nx (lenv n m ps o3 o6 o7 (some d) o9 o10 o11 o12 o13) S := by
  obtain ⟨r, e, hr⟩ := T_law_zeros_ok P.m0 (show m ≤ 1000 by have := P.m4; omega) S
  exact ⟨r, hr, by simp [b_law_3b_3, e]⟩
/-- one unknown's power -/
theorem pow_steps (P : Pt m n M ps A) {es : Mon} (hx : Exs n es) {j e : Nat} (hj : j < n) (he : es[j]? = some (e : Int)) (he3 : e ≤ 3) {made : D} (hm : matR made m (monP m A es j)) (S : Sto) (o13 : Option D) :
    ∃ made' g o13', sFor (iRng1' (aCons (eIx (eVar 9) (eVar 12)) aNil)) (gN 13) (b_law_3b_4b_1b_0b C) (lenv n m ps o3 o6 o7 o8 (some (mD es)) o10 (some made) (some (.int j)) o13) S = .nx (lenv n m ps o3 o6 o7 o8 (some (mD es)) o10 (some made') (some (.int j)) o13') (S ++ g) ∧ matR made' m (mulM m (monP m A es j) (powM m (A j) e)) := by
  obtain ⟨p, p1, p2⟩ := P.r j hj
  obtain ⟨env', S', h1, made', g, o13', rfl, rfl, h2⟩ := forD_idx (g := gN 13) (f := b_law_3b_4b_1b_0b C) e (ds := rngD 0 e) (rng_len 0 e)
    (fun i env S1 => ∃ made g o13, env = lenv n m ps o3 o6 o7 o8 (some (mD es)) o10 (some made) (some (.int j)) o13 ∧ S1 = S ++ g ∧ matR made m (mulM m (monP m A es j) (powM m (A j) i)))
    (by
      rintro i x env S1 hi hx' ⟨made, g, o13, rfl, rfl, hm⟩
      have := rng_get hx'; subst this
      obtain ⟨r, g2, e1, e2⟩ := T_law_by_ok hm p2 (mon_step_ms P.p.m0 P.p.m4 P.p.n3 P.cb hx hj (by omega)) (by have := P.p.m4; omega) (S ++ g)
      refine ⟨(lenv n m ps o3 o6 o7 o8 (some (mD es)) o10 (some made) (some (.int j)) (some (.int i)), S ++ g), lenv n m ps o3 o6 o7 o8 (some (mD es)) o10 (some r) (some (.int j)) (some (.int i)), S ++ (g ++ g2), by simp, ?_, r, g ++ g2, _, rfl, rfl, ?_⟩
      · simp at e1
        simp [b_law_3b_4b_1b_0b, b_law_3b_4b_1b_0b_0, p1, e1]
      · show matR r m (mulM m (monP m A es j) (mulM m (powM m (A j) i) (A j)))
        rw [← mul_assocM]; exact e2)
    (lenv n m ps o3 o6 o7 o8 (some (mD es)) o10 (some made) (some (.int j)) o13) S ⟨made, [], o13, rfl, by simp, by
      show matR made m (mulM m (monP m A es j) (unitM m))
      rw [mul_unit (sq_monP j)]; exact hm⟩
  refine ⟨made', g, o13', ?_, h2⟩
  have hr : iRng1K [.int e] S = .ok (rngD 0 e) S := rng1_nat _ (by omega)
  have hix : (es.map D.int)[j]? = some (.int e) := by rw [List.getElem?_map, he]; rfl
  simp at hr h1
  simp [mD, he, hr]
  simp [mD] at h1
  exact h1
/-- the product of the powers, by the law -/
theorem mon_steps (P : Pt m n M ps A) {es : Mon} (hx : Exs n es) (S : Sto) (o11 o12 o13 : Option D) :
    ∃ made g o12' o13', sSeq (b_law_3b_4b_0 C) (b_law_3b_4b_1 C) (lenv n m ps o3 o6 o7 o8 (some (mD es)) o10 o11 o12 o13) S = .nx (lenv n m ps o3 o6 o7 o8 (some (mD es)) o10 (some made) o12' o13') (S ++ g) ∧ matR made m (monP m A es n) := by
  have hm4 := P.p.m4
  obtain ⟨u, u1, u2⟩ := T_law_unit_ok m (by omega) S
  obtain ⟨env', S', h1, made', g, o12', o13', rfl, rfl, h2⟩ := forD_idx (g := gN 12) (f := b_law_3b_4b_1b C) n (ds := rngD 0 n) (rng_len 0 n)
    (fun j env S1 => ∃ made g o12 o13, env = lenv n m ps o3 o6 o7 o8 (some (mD es)) o10 (some made) o12 o13 ∧ S1 = S ++ g ∧ matR made m (monP m A es j))
    (by
      rintro j x env S1 hj hx' ⟨made, g, o12, o13, rfl, rfl, hm⟩
      have := rng_get hx'; subst this
      obtain ⟨e, e1, e2, e3⟩ := hx.get hj
      obtain ⟨made', g2, o13', s1, s2⟩ := pow_steps (C := C) (o3 := o3) (o6 := o6) (o7 := o7) (o8 := o8) (o10 := o10) P hx hj e1 e2 hm (S ++ g) o13
      refine ⟨(lenv n m ps o3 o6 o7 o8 (some (mD es)) o10 (some made) (some (.int j)) o13, S ++ g), lenv n m ps o3 o6 o7 o8 (some (mD es)) o10 (some made') (some (.int j)) o13', S ++ (g ++ g2), by simp, ?_, made', g ++ g2, _, _, rfl, rfl, ?_⟩
      · rw [List.append_assoc] at s1; exact s1
      · show matR made' m (mulM m (monP m A es j) (powM m (A j) (es.getD j 0).toNat))
        rw [e3]; exact s2)
    (lenv n m ps o3 o6 o7 o8 (some (mD es)) o10 (some u) o12 o13) S ⟨u, [], o12, o13, rfl, by simp, u2⟩
  have hn3 := P.p.n3
  have hr : iRng1K [.int n] S = .ok (rngD 0 n) S := rng1_nat _ (by omega)
  refine ⟨made', g, o12', o13', seq_nx (env1 := lenv n m ps o3 o6 o7 o8 (some (mD es)) o10 (some u) o12 o13) (S1 := S) (by simp [b_law_3b_4b_0, u1]) ?_, h2⟩
  simp at hr h1
  simp [b_law_3b_4b_1, hr, h1]
/-- all terms, by the law -/
theorem due_terms (P : Pt m n M ps A) : ∀ (L : Tb) (B : Mx) (due : D) (S : Sto) (o9 o10 o11 o12 o13 : Option D), (∀ a ∈ L, Exs n a.1) → Small3 m n A L B → matR due m B →
    ∃ due' g o9' o10' o11' o12' o13', forD (gTup' 2 (gCons' (gN 9) (gCons' (gN 10) gNil'))) (b_law_3b_4b C) (polyL L) (lenv n m ps o3 o6 o7 (some due) o9 o10 o11 o12 o13) S = .nx (lenv n m ps o3 o6 o7 (some due') o9' o10' o11' o12' o13') (S ++ g) ∧ matR due' m (atP m n A L B)
  | [], B, due, S, o9, o10, o11, o12, o13, _, _, hd => ⟨due, [], o9, o10, o11, o12, o13, by simp [polyL, forD], hd⟩
  | a :: L, B, due, S, o9, o10, o11, o12, o13, hx, hs, hd => by
    obtain ⟨s1, s2⟩ := hs
    obtain ⟨made, g1, o12', o13', e1, e2⟩ := mon_steps (C := C) (o3 := o3) (o6 := o6) (o7 := o7) (o8 := some due) (o10 := some (frD a.2)) P (hx a List.mem_cons_self) S o11 o12 o13
    obtain ⟨r, g2, f1, f2, _⟩ := T_law_with_ok hd e2 (fr_frD a.2) s1 (by have := P.p.m4; omega) (S ++ g1)
    obtain ⟨due', g3, p9, p10, p11, p12, p13, k1, k2⟩ := due_terms P L _ r (S ++ (g1 ++ g2)) (some (mD a.1)) (some (frD a.2)) (some made) o12' o13' (fun x h => hx x (List.mem_cons_of_mem _ h)) s2 f2
    refine ⟨due', g1 ++ g2 ++ g3, p9, p10, p11, p12, p13, ?_, k2⟩
    show forD _ _ (tmD a :: polyL L) _ S = _
    unfold forD
    have hg : gTup' 2 (gCons' (gN 9) (gCons' (gN 10) gNil')) (tmD a) (lenv n m ps o3 o6 o7 (some due) o9 o10 o11 o12 o13) S = some (lenv n m ps o3 o6 o7 (some due) (some (mD a.1)) (some (frD a.2)) o11 o12 o13, S) := by simp [tmD]
    rw [hg]
    simp only
    have hb : b_law_3b_4b C (lenv n m ps o3 o6 o7 (some due) (some (mD a.1)) (some (frD a.2)) o11 o12 o13) S = .nx (lenv n m ps o3 o6 o7 (some r) (some (mD a.1)) (some (frD a.2)) (some made) o12' o13') (S ++ (g1 ++ g2)) := by
      have e3 : b_law_3b_4b_2 C (lenv n m ps o3 o6 o7 (some due) (some (mD a.1)) (some (frD a.2)) (some made) o12' o13') (S ++ g1) = .nx (lenv n m ps o3 o6 o7 (some r) (some (mD a.1)) (some (frD a.2)) (some made) o12' o13') (S ++ (g1 ++ g2)) := by
        simp at f1
        simp [b_law_3b_4b_2, f1]
      have e4 : sSeq (b_law_3b_4b_0 C) (b_law_3b_4b_1 C) (lenv n m ps o3 o6 o7 (some due) (some (mD a.1)) (some (frD a.2)) o11 o12 o13) S = _ := e1
      show sThen (b_law_3b_4b_0 C _ S) _ = _
      have e5 : sThen (b_law_3b_4b_0 C (lenv n m ps o3 o6 o7 (some due) (some (mD a.1)) (some (frD a.2)) o11 o12 o13) S) (b_law_3b_4b_1 C) = _ := e4
      cases hz : b_law_3b_4b_0 C (lenv n m ps o3 o6 o7 (some due) (some (mD a.1)) (some (frD a.2)) o11 o12 o13) S with
      | nx env2 S2 =>
        rw [hz] at e5
        show sThen (b_law_3b_4b_1 C env2 S2) _ = _
        have e6 : b_law_3b_4b_1 C env2 S2 = _ := e5
        rw [e6]; exact e3
      | _ => rw [hz] at e5; cases e5
    rw [hb]
    simp only
    rw [k1]
    simp
theorem law34 (P : Pt m n M ps A) {L : Tb} {due : D} (hx : ∀ a ∈ L, Exs n a.1) (hs : Small3 m n A L (zeroM m)) (hd : matR due m (zeroM m)) (h : CS t S) :
    ∃ due' S' o9' o10' o11' o12' o13', b_law_3b_4 C (lenv n m ps o3 o6 (some (.fup (polyL L))) (some due) o9 o10 o11 o12 o13) S = .nx (lenv n m ps o3 o6 (some (.fup (polyL L))) (some due') o9' o10' o11' o12' o13') S' ∧ matR due' m (atP m n A L (zeroM m)) ∧ CS t S' := by
  obtain ⟨due', g, p9, p10, p11, p12, p13, k1, k2⟩ := due_terms (C := C) (o3 := o3) (o6 := o6) (o7 := some (.fup (polyL L))) P L (zeroM m) due S o9 o10 o11 o12 o13 hx hs hd
  refine ⟨due', S ++ g, p9, p10, p11, p12, p13, ?_, k2, h.app _⟩
  (try simp at k1)
  simp [b_law_3b_4, k1]
theorem law35 (P : Pt m n M ps A) {L : Tb} {due : D} (hx : ∀ a ∈ L, Exs n a.1) (hs : Small3 m n A L (zeroM m)) (hme : ME m (atP m n A L (zeroM m)) M0 (4 * WW)) (hd : matR due m (atP m n A L (zeroM m))) (h : CS t S) :
    ∃ S', b_law_3b_5 C (lenv n m ps o3 o6 (some (.fup (polyL L))) (some due) o9 o10 o11 o12 o13) S = .nx (lenv n m ps o3 o6 (some (.fup (polyL L))) (some due) o9 o10 o11 o12 o13) S' ∧ CS t S' := by
  obtain ⟨d, S1, e1, e2, e3⟩ := T_at_point_ok (C := C) P.p.m0 P.p.m4 P.p.n0 P.p.n3 P.cb P.p.len P.r (p := .fup (polyL L)) rfl hx hs S h.len
  have hsm : ∀ i j, i < m → j < m → Sm (en (atP m n A L (zeroM m)) i j) := fun i j hi hj => (hme i j hi hj).sm (lt250 m0_lt) (lt250 (Nat.lt_of_le_of_lt (Nat.mul_le_mul (by decide) (Nat.le_refl _)) ww5))
  have r1 := repr_mat e2 P.p.m4 hsm S1
  have r2 := repr_mat hd P.p.m4 hsm S1
  refine ⟨S1, ?_, ?_⟩
  · have t1 : tBin (oBn cEq) (eCB gRepr (aCons (eCall 2 (T_at_point C) (aCons (eVar 7) (aCons (eVar 2) aNil))) aNil)) (eCB gRepr (aCons (eVar 8) aNil)) (lenv n m ps o3 o6 (some (.fup (polyL L))) (some due) o9 o10 o11 o12 o13) S = .ok false S1 :=
      same_step (a := d) (b := due) (S1 := S1) (by simp [e1]) r1 (by simp) r2
    show sbind (tBin _ _ _ (lenv n m ps o3 o6 (some (.fup (polyL L))) (some due) o9 o10 o11 o12 o13) S) _ _ = _
    rw [t1]
    simp
  · obtain ⟨ns, c1, c2, c3, q⟩ := h
    have hl := q.lt
    exact ⟨ns, c1, c2, c3, by rw [e3 0 (by omega)]; exact q.s0, by rw [e3 1 (by omega)]; exact q.s1, q.n1, q.n2, q.n3, q.t3⟩
theorem law3b (P : Pt m n M ps A) (h : CS t S) (ht : t < 2 ^ 39) : ∃ S' p6 p7 p8 p9 p10 p11 p12 p13, b_law_3b C (lenv n m ps o3 o6 o7 o8 o9 o10 o11 o12 o13) S = .nx (lenv n m ps o3 p6 p7 p8 p9 p10 p11 p12 p13) S' ∧ CS (t + 300) S' := by
  obtain ⟨d, S1, hd, h1, r0⟩ := law30 (C := C) (o3 := o3) (o6 := o6) (o7 := o7) (o8 := o8) (o9 := o9) (o10 := o10) (o11 := o11) (o12 := o12) (o13 := o13) P.p h (by omega)
  obtain ⟨S2, h2, r1⟩ := law31 (C := C) (n := n) (m := m) (ps := ps) (o3 := o3) (o7 := o7) (o8 := o8) (o9 := o9) (o10 := o10) (o11 := o11) (o12 := o12) (o13 := o13) hd h1
  obtain ⟨L, S3, hL, h3, r2⟩ := law32 (C := C) (o3 := o3) (o6 := some d) (o7 := o7) (o8 := o8) (o9 := o9) (o10 := o10) (o11 := o11) (o12 := o12) (o13 := o13) P.p h2 (by omega)
  obtain ⟨z, hz, r3⟩ := law33 (C := C) (S := S3) (o3 := o3) (o6 := some d) (o7 := some (.fup (polyL L))) (o8 := o8) (o9 := o9) (o10 := o10) (o11 := o11) (o12 := o12) (o13 := o13) P.p
  have hx : ∀ a ∈ L, Exs n a.1 ∧ CB 42 bb a.2 := fun a ha => ⟨⟨hL.pb.ln a ha, hL.ent a ha⟩, hL.pb.cb a ha⟩
  have hz0 : ME m (zeroM m) M0 (0 * WW) := fun i j hi hj => by rw [en_zero hi hj]; exact CB.zero _ _
  obtain ⟨s1, s2⟩ := small3_of P.p.m0 P.p.m4 P.p.n0 P.p.n3 P.cb L (zeroM m) 0 hx (by have := hL.pb.le; omega) hz0
  obtain ⟨due, S4, p9, p10, p11, p12, p13, r4, hdue, h4⟩ := law34 (C := C) (o3 := o3) (o6 := some d) (o9 := o9) (o10 := o10) (o11 := o11) (o12 := o12) (o13 := o13) P (fun a ha => (hx a ha).1) s1 hz h3
  obtain ⟨S5, r5, h5⟩ := law35 (C := C) (o3 := o3) (o6 := some d) (o9 := p9) (o10 := p10) (o11 := p11) (o12 := p12) (o13 := p13) P (fun a ha => (hx a ha).1) s1 s2 hdue h4
  exact ⟨S5, _, _, _, _, _, _, _, _, seq_nx r0 (seq_nx r1 (seq_nx r2 (seq_nx r3 (seq_nx r4 r5)))), h5.mono (by omega)⟩
theorem law3 (P : Pt m n M ps A) (h : CS t S) (ht : t < 2 ^ 38) : ∃ S' p3 p6 p7 p8 p9 p10 p11 p12 p13, b_law_3 C (lenv n m ps o3 o6 o7 o8 o9 o10 o11 o12 o13) S = .nx (lenv n m ps p3 p6 p7 p8 p9 p10 p11 p12 p13) S' := by
  obtain ⟨env', S', h1, p3, p6, p7, p8, p9, p10, p11, p12, p13, rfl, h2⟩ := forD_idx (g := gN 3) (f := b_law_3b C) 3 (ds := rngD 0 3) (rng_len 0 3)
    (fun i env S1 => ∃ p3 p6 p7 p8 p9 p10 p11 p12 p13, env = lenv n m ps p3 p6 p7 p8 p9 p10 p11 p12 p13 ∧ CS (t + 300 * i) S1)
    (by
      rintro i x env S1 hi hx ⟨p3, p6, p7, p8, p9, p10, p11, p12, p13, rfl, hc⟩
      obtain ⟨S2, q6, q7, q8, q9, q10, q11, q12, q13, e1, e2⟩ := law3b (C := C) (o3 := some x) (o6 := p6) (o7 := p7) (o8 := p8) (o9 := p9) (o10 := p10) (o11 := p11) (o12 := p12) (o13 := p13) P hc (by omega)
      exact ⟨(lenv n m ps (some x) p6 p7 p8 p9 p10 p11 p12 p13, S1), _, S2, by simp, e1, _, _, _, _, _, _, _, _, _, rfl, by rw [Nat.mul_succ, ← Nat.add_assoc]; exact e2⟩)
    (lenv n m ps o3 o6 o7 o8 o9 o10 o11 o12 o13) S ⟨_, _, _, _, _, _, _, _, _, rfl, h⟩
  refine ⟨S', p3, p6, p7, p8, p9, p10, p11, p12, p13, ?_⟩
  have hr : iRng1K [.int 3] S = .ok (rngD 0 3) S := rng1_nat (j := 3) _ (by decide)
  simp at hr h1
  simp [b_law_3, hr, h1]
end
theorem plain (C : Addr) : ∀ ns : List Int, ns.length ≤ 63 → ∃ S, (b_law C) [none, some (.loc 1), none, none, none, none, none, none, none, none, none, none, none, none] [.lst (ns.map .int), .lst [.loc 0, .int 0, .int 0, .int 0, .int 20]] = .ret (.bl true) S := by
  intro ns _
  have h0 : CS 0 [.lst (ns.map .int), .lst [.loc 0, .int 0, .int 0, .int 0, .int 20]] := ⟨ns, 0, 0, 0, rfl, rfl, Int.le_refl _, Int.le_refl _, Int.le_refl _, Int.le_refl _⟩
  obtain ⟨n, m, S1, n0, n3, m0, m4, h1, r0⟩ := law0 (C := C) h0 (by decide)
  obtain ⟨M, ps, S2, P, h2, r1⟩ := law1 (C := C) h1 (by decide) n0 n3 m0 m4
  obtain ⟨A, PA⟩ := pt_of P
  obtain ⟨S3, h3, r2⟩ := law2 (C := C) (o3 := none) (o6 := none) (o7 := none) (o8 := none) (o9 := none) (o10 := none) (o11 := none) (o12 := none) (o13 := none) P h2
  obtain ⟨S4, p3, p6, p7, p8, p9, p10, p11, p12, p13, r3⟩ := law3 (C := C) (o3 := none) (o6 := none) (o7 := none) (o8 := none) (o9 := none) (o10 := none) (o11 := none) (o12 := none) (o13 := none) PA h3 (by decide)
  exact ⟨S4, seq_nx r0 (seq_nx r1 (seq_nx r2 (seq_nx r3 (by simp [b_law_4]))))⟩
end DV
namespace DV
open PySem PySem.Spec PyProof.Rows L2
def LawC (P : Program) (w : World) (K : PySem.W.Frag) (mg : Str → Option Value) (fa : Addr) : Prop :=
    ∃ fd, Fun K "law" "law" s_law fa fd ∧ (∀ (s : Shared) (u : Value), BindsTo s fd ⟨[u], []⟩ [("script", u)]) ∧ ∀ base : Heap, K.In base → base.Ns mainGlobals mg → ∀ (s₁ : Shared) (H : Hp) (cdv : Value) (a : Addr) (ns : List Int), ns.length ≤ 63 → SqL K H a (ns.map V.int) →
      ∃ t, PSs (cxOf (L2.CX P w) P w K mg base ["script", "c", "point", "turn", "n", "many", "bent", "p", "due", "key", "factor", "made", "k", "again"] "law" (defScope s_law) fa cdv callerA [] s₁ H fun _ _ _ => False) (defBody s_law) t ∧ t { nx := fun _ _ => V.non = .bl true, rt := fun v _ => v = .bl true } (L2.start ["script", "c", "point", "turn", "n", "many", "bent", "p", "due", "key", "factor", "made", "k", "again"] [.ref a]) H
theorem law_code {P : Program} {w : World} {K : PySem.W.Frag} {mg mb : Str → Option Value} {fa a : Addr} {s₁ : Shared} {vs : List Value} {ns : List Int} (C : LawC P w K mg fa)
    (inK : K.In s₁.heap) (gl : s₁.heap.Ns mainGlobals mg) (bn : s₁.heap.Ns builtinsNs mb) (bb : ∀ x : Str, x ≠ "__name__" → mb x = bootBuiltins x) (noL : s₁.heap.NoLimit) (gn : s₁.gens = #[])
    (ga : s₁.heap.get? a = some { cls := .type "list", data := .seq vs.toArray }) (ia : IntsAre vs ns) (hl : ns.length ≤ 63) :
    codeAny (model P w) callerA (.call (.ref fa) ⟨[.ref a], []⟩) (fun r s' => r = .ok (.ret (.bool true)) ∧ OldK s₁.heap s'.heap ∧ s'.os = s₁.os ∧ AllBare s'.gens) s₁ := by
  obtain ⟨fd, F, hb, body⟩ := C
  exact law_here inK gl bn bb noL gn ga ia (Nat.le_trans hl (by decide)) F sc_law hb fun base kb gb H cdv _ sq => body base kb gb s₁ H cdv a ns hl sq
theorem all_mk {P : Program} {w : World} {K : PySem.W.Frag} {h : Heap} {mg : Str → Option Value} (X : K.In h) (G : h.Ns mainGlobals mg)
    {C : Addr} (aC : PySem.W.nsIn K mainGlobals "Powers" = some (some (.ref C))) (pg : PySem.W.plainGet K C Str.empty = true) (hd : PySem.W.hasDictIn K C = true) (po : PySem.W.plainOver K C = true) (sa : PySem.W.findIn K (.ref C) "__setattr__" = some (some (.builtin "object.__setattr__"))) (mk : PySem.W.makesIn K C = true) (kc : PySem.W.keepIn K (.ref C) = true)
    (nA_made : PySem.W.findIn K (.ref C) "made" = some none)
    (nA_point : PySem.W.findIn K (.ref C) "point" = some none)
    {f0 : Addr} {od0 an0 : Option Addr} {sl0 : Array (Option Value)} {oc0 kV0 dc0 pm0 cd0 ct0 : Value} (a0 : PySem.W.nsIn K mainGlobals "_law_start" = some (some (.ref f0))) (l0 : K.lookup f0 = some ⟨oc0, od0, .func (PySem.W.fnOf "_law_start" "_law_start" (defArgs s_start) (defBody s_start) (defScope s_start) .none kV0 dc0 pm0 an0 cd0 ct0), sl0⟩) (c0 : PySem.W.codeIn K cd0 "_law_start" = true) (k0 : PySem.W.keepIn K (.ref f0) = true)
    {f1 : Addr} {od1 an1 : Option Addr} {sl1 : Array (Option Value)} {oc1 kV1 dc1 pm1 cd1 ct1 : Value} (a1 : PySem.W.nsIn K mainGlobals "common_divisor" = some (some (.ref f1))) (l1 : K.lookup f1 = some ⟨oc1, od1, .func (PySem.W.fnOf "common_divisor" "common_divisor" (defArgs s_common_divisor) (defBody s_common_divisor) (defScope s_common_divisor) .none kV1 dc1 pm1 an1 cd1 ct1), sl1⟩) (c1 : PySem.W.codeIn K cd1 "common_divisor" = true) (k1 : PySem.W.keepIn K (.ref f1) = true)
    {f2 : Addr} {od2 an2 : Option Addr} {sl2 : Array (Option Value)} {oc2 kV2 dc2 pm2 cd2 ct2 : Value} (a2 : PySem.W.nsIn K mainGlobals "ratio" = some (some (.ref f2))) (l2 : K.lookup f2 = some ⟨oc2, od2, .func (PySem.W.fnOf "ratio" "ratio" (defArgs s_ratio) (defBody s_ratio) (defScope s_ratio) .none kV2 dc2 pm2 an2 cd2 ct2), sl2⟩) (c2 : PySem.W.codeIn K cd2 "ratio" = true) (k2 : PySem.W.keepIn K (.ref f2) = true)
    {f3 : Addr} {od3 an3 : Option Addr} {sl3 : Array (Option Value)} {oc3 kV3 dc3 pm3 cd3 ct3 : Value} (a3 : PySem.W.nsIn K mainGlobals "plus" = some (some (.ref f3))) (l3 : K.lookup f3 = some ⟨oc3, od3, .func (PySem.W.fnOf "plus" "plus" (defArgs s_plus) (defBody s_plus) (defScope s_plus) .none kV3 dc3 pm3 an3 cd3 ct3), sl3⟩) (c3 : PySem.W.codeIn K cd3 "plus" = true) (k3 : PySem.W.keepIn K (.ref f3) = true)
    {f4 : Addr} {od4 an4 : Option Addr} {sl4 : Array (Option Value)} {oc4 kV4 dc4 pm4 cd4 ct4 : Value} (a4 : PySem.W.nsIn K mainGlobals "times" = some (some (.ref f4))) (l4 : K.lookup f4 = some ⟨oc4, od4, .func (PySem.W.fnOf "times" "times" (defArgs s_times) (defBody s_times) (defScope s_times) .none kV4 dc4 pm4 an4 cd4 ct4), sl4⟩) (c4 : PySem.W.codeIn K cd4 "times" = true) (k4 : PySem.W.keepIn K (.ref f4) = true)
    {f5 : Addr} {od5 an5 : Option Addr} {sl5 : Array (Option Value)} {oc5 kV5 dc5 pm5 cd5 ct5 : Value} (a5 : PySem.W.nsIn K mainGlobals "is_integer" = some (some (.ref f5))) (l5 : K.lookup f5 = some ⟨oc5, od5, .func (PySem.W.fnOf "is_integer" "is_integer" (defArgs s_is_integer) (defBody s_is_integer) (defScope s_is_integer) .none kV5 dc5 pm5 an5 cd5 ct5), sl5⟩) (c5 : PySem.W.codeIn K cd5 "is_integer" = true) (k5 : PySem.W.keepIn K (.ref f5) = true)
    {f6 : Addr} {od6 an6 : Option Addr} {sl6 : Array (Option Value)} {oc6 kV6 dc6 pm6 cd6 ct6 : Value} (a6 : PySem.W.nsIn K mainGlobals "is_ratio" = some (some (.ref f6))) (l6 : K.lookup f6 = some ⟨oc6, od6, .func (PySem.W.fnOf "is_ratio" "is_ratio" (defArgs s_is_ratio) (defBody s_is_ratio) (defScope s_is_ratio) .none kV6 dc6 pm6 an6 cd6 ct6), sl6⟩) (c6 : PySem.W.codeIn K cd6 "is_ratio" = true) (k6 : PySem.W.keepIn K (.ref f6) = true)
    {f7 : Addr} {od7 an7 : Option Addr} {sl7 : Array (Option Value)} {oc7 kV7 dc7 pm7 cd7 ct7 : Value} (a7 : PySem.W.nsIn K mainGlobals "has_digits" = some (some (.ref f7))) (l7 : K.lookup f7 = some ⟨oc7, od7, .func (PySem.W.fnOf "has_digits" "has_digits" (defArgs s_has_digits) (defBody s_has_digits) (defScope s_has_digits) .none kV7 dc7 pm7 an7 cd7 ct7), sl7⟩) (c7 : PySem.W.codeIn K cd7 "has_digits" = true) (k7 : PySem.W.keepIn K (.ref f7) = true)
    {f8 : Addr} {od8 an8 : Option Addr} {sl8 : Array (Option Value)} {oc8 kV8 dc8 pm8 cd8 ct8 : Value} (a8 : PySem.W.nsIn K mainGlobals "is_matrix" = some (some (.ref f8))) (l8 : K.lookup f8 = some ⟨oc8, od8, .func (PySem.W.fnOf "is_matrix" "is_matrix" (defArgs s_is_matrix) (defBody s_is_matrix) (defScope s_is_matrix) .none kV8 dc8 pm8 an8 cd8 ct8), sl8⟩) (c8 : PySem.W.codeIn K cd8 "is_matrix" = true) (k8 : PySem.W.keepIn K (.ref f8) = true)
    {f9 : Addr} {od9 an9 : Option Addr} {sl9 : Array (Option Value)} {oc9 kV9 dc9 pm9 cd9 ct9 : Value} (a9 : PySem.W.nsIn K mainGlobals "unit_matrix" = some (some (.ref f9))) (l9 : K.lookup f9 = some ⟨oc9, od9, .func (PySem.W.fnOf "unit_matrix" "unit_matrix" (defArgs s_unit_matrix) (defBody s_unit_matrix) (defScope s_unit_matrix) .none kV9 dc9 pm9 an9 cd9 ct9), sl9⟩) (c9 : PySem.W.codeIn K cd9 "unit_matrix" = true) (k9 : PySem.W.keepIn K (.ref f9) = true)
    {f10 : Addr} {od10 an10 : Option Addr} {sl10 : Array (Option Value)} {oc10 kV10 dc10 pm10 cd10 ct10 : Value} (a10 : PySem.W.nsIn K mainGlobals "multiplied_matrices" = some (some (.ref f10))) (l10 : K.lookup f10 = some ⟨oc10, od10, .func (PySem.W.fnOf "multiplied_matrices" "multiplied_matrices" (defArgs s_multiplied_matrices) (defBody s_multiplied_matrices) (defScope s_multiplied_matrices) .none kV10 dc10 pm10 an10 cd10 ct10), sl10⟩) (c10 : PySem.W.codeIn K cd10 "multiplied_matrices" = true) (k10 : PySem.W.keepIn K (.ref f10) = true)
    {f11 : Addr} {od11 an11 : Option Addr} {sl11 : Array (Option Value)} {oc11 kV11 dc11 pm11 cd11 ct11 : Value} (a11 : PySem.W.nsIn K mainGlobals "is_point" = some (some (.ref f11))) (l11 : K.lookup f11 = some ⟨oc11, od11, .func (PySem.W.fnOf "is_point" "is_point" (defArgs s_is_point) (defBody s_is_point) (defScope s_is_point) .none kV11 dc11 pm11 an11 cd11 ct11), sl11⟩) (c11 : PySem.W.codeIn K cd11 "is_point" = true) (k11 : PySem.W.keepIn K (.ref f11) = true)
    {f12 : Addr} {od12 an12 : Option Addr} {sl12 : Array (Option Value)} {oc12 kV12 dc12 pm12 cd12 ct12 : Value} (a12 : PySem.W.findIn K (.ref C) "__init__" = some (some (.ref f12))) (i12 : PySem.W.isFn K (.ref f12) = true) (l12 : K.lookup f12 = some ⟨oc12, od12, .func (PySem.W.fnOf "__init__" "Powers.__init__" (defArgs s_Powers___init__) (defBody s_Powers___init__) (defScope s_Powers___init__) .none kV12 dc12 pm12 an12 cd12 ct12), sl12⟩) (c12 : PySem.W.codeIn K cd12 "Powers.__init__" = true) (k12 : PySem.W.keepIn K (.ref f12) = true)
    {f13 : Addr} {od13 an13 : Option Addr} {sl13 : Array (Option Value)} {oc13 kV13 dc13 pm13 cd13 ct13 : Value} (a13 : PySem.W.findIn K (.ref C) "power" = some (some (.ref f13))) (i13 : PySem.W.isFn K (.ref f13) = true) (l13 : K.lookup f13 = some ⟨oc13, od13, .func (PySem.W.fnOf "power" "Powers.power" (defArgs s_Powers_power) (defBody s_Powers_power) (defScope s_Powers_power) .none kV13 dc13 pm13 an13 cd13 ct13), sl13⟩) (c13 : PySem.W.codeIn K cd13 "Powers.power" = true) (k13 : PySem.W.keepIn K (.ref f13) = true)
    {f14 : Addr} {od14 an14 : Option Addr} {sl14 : Array (Option Value)} {oc14 kV14 dc14 pm14 cd14 ct14 : Value} (a14 : PySem.W.findIn K (.ref C) "monomial" = some (some (.ref f14))) (i14 : PySem.W.isFn K (.ref f14) = true) (l14 : K.lookup f14 = some ⟨oc14, od14, .func (PySem.W.fnOf "monomial" "Powers.monomial" (defArgs s_Powers_monomial) (defBody s_Powers_monomial) (defScope s_Powers_monomial) .none kV14 dc14 pm14 an14 cd14 ct14), sl14⟩) (c14 : PySem.W.codeIn K cd14 "Powers.monomial" = true) (k14 : PySem.W.keepIn K (.ref f14) = true)
    {f15 : Addr} {od15 an15 : Option Addr} {sl15 : Array (Option Value)} {oc15 kV15 dc15 pm15 cd15 ct15 : Value} (a15 : PySem.W.nsIn K mainGlobals "at_point" = some (some (.ref f15))) (l15 : K.lookup f15 = some ⟨oc15, od15, .func (PySem.W.fnOf "at_point" "at_point" (defArgs s_at_point) (defBody s_at_point) (defScope s_at_point) .none kV15 dc15 pm15 an15 cd15 ct15), sl15⟩) (c15 : PySem.W.codeIn K cd15 "at_point" = true) (k15 : PySem.W.keepIn K (.ref f15) = true)
    {f16 : Addr} {od16 an16 : Option Addr} {sl16 : Array (Option Value)} {oc16 kV16 dc16 pm16 cd16 ct16 : Value} (a16 : PySem.W.nsIn K mainGlobals "_law_fill" = some (some (.ref f16))) (l16 : K.lookup f16 = some ⟨oc16, od16, .func (PySem.W.fnOf "_law_fill" "_law_fill" (defArgs s__law_fill) (defBody s__law_fill) (defScope s__law_fill) .none kV16 dc16 pm16 an16 cd16 ct16), sl16⟩) (c16 : PySem.W.codeIn K cd16 "_law_fill" = true) (k16 : PySem.W.keepIn K (.ref f16) = true)
    {f17 : Addr} {od17 an17 : Option Addr} {sl17 : Array (Option Value)} {oc17 kV17 dc17 pm17 cd17 ct17 : Value} (a17 : PySem.W.nsIn K mainGlobals "_law_take" = some (some (.ref f17))) (l17 : K.lookup f17 = some ⟨oc17, od17, .func (PySem.W.fnOf "_law_take" "_law_take" (defArgs s__law_take) (defBody s__law_take) (defScope s__law_take) .none kV17 dc17 pm17 an17 cd17 ct17), sl17⟩) (c17 : PySem.W.codeIn K cd17 "_law_take" = true) (k17 : PySem.W.keepIn K (.ref f17) = true)
    {f18 : Addr} {od18 an18 : Option Addr} {sl18 : Array (Option Value)} {oc18 kV18 dc18 pm18 cd18 ct18 : Value} (a18 : PySem.W.nsIn K mainGlobals "_law_divisor" = some (some (.ref f18))) (l18 : K.lookup f18 = some ⟨oc18, od18, .func (PySem.W.fnOf "_law_divisor" "_law_divisor" (defArgs s__law_divisor) (defBody s__law_divisor) (defScope s__law_divisor) .none kV18 dc18 pm18 an18 cd18 ct18), sl18⟩) (c18 : PySem.W.codeIn K cd18 "_law_divisor" = true) (k18 : PySem.W.keepIn K (.ref f18) = true)
    {f19 : Addr} {od19 an19 : Option Addr} {sl19 : Array (Option Value)} {oc19 kV19 dc19 pm19 cd19 ct19 : Value} (a19 : PySem.W.nsIn K mainGlobals "_law_ratio" = some (some (.ref f19))) (l19 : K.lookup f19 = some ⟨oc19, od19, .func (PySem.W.fnOf "_law_ratio" "_law_ratio" (defArgs s__law_ratio) (defBody s__law_ratio) (defScope s__law_ratio) .none kV19 dc19 pm19 an19 cd19 ct19), sl19⟩) (c19 : PySem.W.codeIn K cd19 "_law_ratio" = true) (k19 : PySem.W.keepIn K (.ref f19) = true)
    {f20 : Addr} {od20 an20 : Option Addr} {sl20 : Array (Option Value)} {oc20 kV20 dc20 pm20 cd20 ct20 : Value} (a20 : PySem.W.nsIn K mainGlobals "_law_plus" = some (some (.ref f20))) (l20 : K.lookup f20 = some ⟨oc20, od20, .func (PySem.W.fnOf "_law_plus" "_law_plus" (defArgs s__law_plus) (defBody s__law_plus) (defScope s__law_plus) .none kV20 dc20 pm20 an20 cd20 ct20), sl20⟩) (c20 : PySem.W.codeIn K cd20 "_law_plus" = true) (k20 : PySem.W.keepIn K (.ref f20) = true)
    {f21 : Addr} {od21 an21 : Option Addr} {sl21 : Array (Option Value)} {oc21 kV21 dc21 pm21 cd21 ct21 : Value} (a21 : PySem.W.nsIn K mainGlobals "_law_times" = some (some (.ref f21))) (l21 : K.lookup f21 = some ⟨oc21, od21, .func (PySem.W.fnOf "_law_times" "_law_times" (defArgs s__law_times) (defBody s__law_times) (defScope s__law_times) .none kV21 dc21 pm21 an21 cd21 ct21), sl21⟩) (c21 : PySem.W.codeIn K cd21 "_law_times" = true) (k21 : PySem.W.keepIn K (.ref f21) = true)
    {f22 : Addr} {od22 an22 : Option Addr} {sl22 : Array (Option Value)} {oc22 kV22 dc22 pm22 cd22 ct22 : Value} (a22 : PySem.W.nsIn K mainGlobals "_law_told" = some (some (.ref f22))) (l22 : K.lookup f22 = some ⟨oc22, od22, .func (PySem.W.fnOf "_law_told" "_law_told" (defArgs s__law_told) (defBody s__law_told) (defScope s__law_told) .none kV22 dc22 pm22 an22 cd22 ct22), sl22⟩) (c22 : PySem.W.codeIn K cd22 "_law_told" = true) (k22 : PySem.W.keepIn K (.ref f22) = true)
    {f23 : Addr} {od23 an23 : Option Addr} {sl23 : Array (Option Value)} {oc23 kV23 dc23 pm23 cd23 ct23 : Value} (a23 : PySem.W.nsIn K mainGlobals "_law_fraction" = some (some (.ref f23))) (l23 : K.lookup f23 = some ⟨oc23, od23, .func (PySem.W.fnOf "_law_fraction" "_law_fraction" (defArgs s__law_fraction) (defBody s__law_fraction) (defScope s__law_fraction) .none kV23 dc23 pm23 an23 cd23 ct23), sl23⟩) (c23 : PySem.W.codeIn K cd23 "_law_fraction" = true) (k23 : PySem.W.keepIn K (.ref f23) = true)
    {f24 : Addr} {od24 an24 : Option Addr} {sl24 : Array (Option Value)} {oc24 kV24 dc24 pm24 cd24 ct24 : Value} (a24 : PySem.W.nsIn K mainGlobals "_law_polynomial" = some (some (.ref f24))) (l24 : K.lookup f24 = some ⟨oc24, od24, .func (PySem.W.fnOf "_law_polynomial" "_law_polynomial" (defArgs s__law_polynomial) (defBody s__law_polynomial) (defScope s__law_polynomial) .none kV24 dc24 pm24 an24 cd24 ct24), sl24⟩) (c24 : PySem.W.codeIn K cd24 "_law_polynomial" = true) (k24 : PySem.W.keepIn K (.ref f24) = true)
    {f25 : Addr} {od25 an25 : Option Addr} {sl25 : Array (Option Value)} {oc25 kV25 dc25 pm25 cd25 ct25 : Value} (a25 : PySem.W.nsIn K mainGlobals "_law_matrix" = some (some (.ref f25))) (l25 : K.lookup f25 = some ⟨oc25, od25, .func (PySem.W.fnOf "_law_matrix" "_law_matrix" (defArgs s__law_matrix) (defBody s__law_matrix) (defScope s__law_matrix) .none kV25 dc25 pm25 an25 cd25 ct25), sl25⟩) (c25 : PySem.W.codeIn K cd25 "_law_matrix" = true) (k25 : PySem.W.keepIn K (.ref f25) = true)
    {f26 : Addr} {od26 an26 : Option Addr} {sl26 : Array (Option Value)} {oc26 kV26 dc26 pm26 cd26 ct26 : Value} (a26 : PySem.W.nsIn K mainGlobals "_law_unit" = some (some (.ref f26))) (l26 : K.lookup f26 = some ⟨oc26, od26, .func (PySem.W.fnOf "_law_unit" "_law_unit" (defArgs s__law_unit) (defBody s__law_unit) (defScope s__law_unit) .none kV26 dc26 pm26 an26 cd26 ct26), sl26⟩) (c26 : PySem.W.codeIn K cd26 "_law_unit" = true) (k26 : PySem.W.keepIn K (.ref f26) = true)
    {f27 : Addr} {od27 an27 : Option Addr} {sl27 : Array (Option Value)} {oc27 kV27 dc27 pm27 cd27 ct27 : Value} (a27 : PySem.W.nsIn K mainGlobals "_law_by" = some (some (.ref f27))) (l27 : K.lookup f27 = some ⟨oc27, od27, .func (PySem.W.fnOf "_law_by" "_law_by" (defArgs s__law_by) (defBody s__law_by) (defScope s__law_by) .none kV27 dc27 pm27 an27 cd27 ct27), sl27⟩) (c27 : PySem.W.codeIn K cd27 "_law_by" = true) (k27 : PySem.W.keepIn K (.ref f27) = true)
    {f28 : Addr} {od28 an28 : Option Addr} {sl28 : Array (Option Value)} {oc28 kV28 dc28 pm28 cd28 ct28 : Value} (a28 : PySem.W.nsIn K mainGlobals "_law_with" = some (some (.ref f28))) (l28 : K.lookup f28 = some ⟨oc28, od28, .func (PySem.W.fnOf "_law_with" "_law_with" (defArgs s__law_with) (defBody s__law_with) (defScope s__law_with) .none kV28 dc28 pm28 an28 cd28 ct28), sl28⟩) (c28 : PySem.W.codeIn K cd28 "_law_with" = true) (k28 : PySem.W.keepIn K (.ref f28) = true)
    {f29 : Addr} {od29 an29 : Option Addr} {sl29 : Array (Option Value)} {oc29 kV29 dc29 pm29 cd29 ct29 : Value} (a29 : PySem.W.nsIn K mainGlobals "_law_zeros" = some (some (.ref f29))) (l29 : K.lookup f29 = some ⟨oc29, od29, .func (PySem.W.fnOf "_law_zeros" "_law_zeros" (defArgs s__law_zeros) (defBody s__law_zeros) (defScope s__law_zeros) .none kV29 dc29 pm29 an29 cd29 ct29), sl29⟩) (c29 : PySem.W.codeIn K cd29 "_law_zeros" = true) (k29 : PySem.W.keepIn K (.ref f29) = true)
    {f30 : Addr} {od30 an30 : Option Addr} {sl30 : Array (Option Value)} {oc30 kV30 dc30 pm30 cd30 ct30 : Value} (a30 : PySem.W.nsIn K mainGlobals "_law_commuting" = some (some (.ref f30))) (l30 : K.lookup f30 = some ⟨oc30, od30, .func (PySem.W.fnOf "_law_commuting" "_law_commuting" (defArgs s__law_commuting) (defBody s__law_commuting) (defScope s__law_commuting) .none kV30 dc30 pm30 an30 cd30 ct30), sl30⟩) (c30 : PySem.W.codeIn K cd30 "_law_commuting" = true) (k30 : PySem.W.keepIn K (.ref f30) = true)
    {f31 : Addr} {od31 an31 : Option Addr} {sl31 : Array (Option Value)} {oc31 kV31 dc31 pm31 cd31 ct31 : Value} (a31 : PySem.W.nsIn K mainGlobals "_law_is_integer" = some (some (.ref f31))) (l31 : K.lookup f31 = some ⟨oc31, od31, .func (PySem.W.fnOf "_law_is_integer" "_law_is_integer" (defArgs s__law_is_integer) (defBody s__law_is_integer) (defScope s__law_is_integer) .none kV31 dc31 pm31 an31 cd31 ct31), sl31⟩) (c31 : PySem.W.codeIn K cd31 "_law_is_integer" = true) (k31 : PySem.W.keepIn K (.ref f31) = true)
    {f32 : Addr} {od32 an32 : Option Addr} {sl32 : Array (Option Value)} {oc32 kV32 dc32 pm32 cd32 ct32 : Value} (a32 : PySem.W.nsIn K mainGlobals "_law_is_matrix" = some (some (.ref f32))) (l32 : K.lookup f32 = some ⟨oc32, od32, .func (PySem.W.fnOf "_law_is_matrix" "_law_is_matrix" (defArgs s__law_is_matrix) (defBody s__law_is_matrix) (defScope s__law_is_matrix) .none kV32 dc32 pm32 an32 cd32 ct32), sl32⟩) (c32 : PySem.W.codeIn K cd32 "_law_is_matrix" = true) (k32 : PySem.W.keepIn K (.ref f32) = true)
    {f33 : Addr} {od33 an33 : Option Addr} {sl33 : Array (Option Value)} {oc33 kV33 dc33 pm33 cd33 ct33 : Value} (a33 : PySem.W.nsIn K mainGlobals "_law_is_point" = some (some (.ref f33))) (l33 : K.lookup f33 = some ⟨oc33, od33, .func (PySem.W.fnOf "_law_is_point" "_law_is_point" (defArgs s__law_is_point) (defBody s__law_is_point) (defScope s__law_is_point) .none kV33 dc33 pm33 an33 cd33 ct33), sl33⟩) (c33 : PySem.W.codeIn K cd33 "_law_is_point" = true) (k33 : PySem.W.keepIn K (.ref f33) = true)
    {f34 : Addr} {od34 an34 : Option Addr} {sl34 : Array (Option Value)} {oc34 kV34 dc34 pm34 cd34 ct34 : Value} (a34 : PySem.W.nsIn K mainGlobals "_law_bent" = some (some (.ref f34))) (l34 : K.lookup f34 = some ⟨oc34, od34, .func (PySem.W.fnOf "_law_bent" "_law_bent" (defArgs s__law_bent) (defBody s__law_bent) (defScope s__law_bent) .none kV34 dc34 pm34 an34 cd34 ct34), sl34⟩) (c34 : PySem.W.codeIn K cd34 "_law_bent" = true) (k34 : PySem.W.keepIn K (.ref f34) = true)
    {f35 : Addr} {od35 an35 : Option Addr} {sl35 : Array (Option Value)} {oc35 kV35 dc35 pm35 cd35 ct35 : Value} (a35 : PySem.W.nsIn K mainGlobals "law" = some (some (.ref f35))) (l35 : K.lookup f35 = some ⟨oc35, od35, .func (PySem.W.fnOf "law" "law" (defArgs s_law) (defBody s_law) (defScope s_law) .none kV35 dc35 pm35 an35 cd35 ct35), sl35⟩) (c35 : PySem.W.codeIn K cd35 "law" = true) (k35 : PySem.W.keepIn K (.ref f35) = true)
    (z_abs : PySem.W.nsIn K mainGlobals "abs" = some none)
    (z_isinstance : PySem.W.nsIn K mainGlobals "isinstance" = some none)
    (z_int : PySem.W.nsIn K mainGlobals "int" = some none)
    (z_bool : PySem.W.nsIn K mainGlobals "bool" = some none)
    (z_tuple : PySem.W.nsIn K mainGlobals "tuple" = some none)
    (z_len : PySem.W.nsIn K mainGlobals "len" = some none)
    (z_all : PySem.W.nsIn K mainGlobals "all" = some none)
    (z_sorted : PySem.W.nsIn K mainGlobals "sorted" = some none)
    (z_zip : PySem.W.nsIn K mainGlobals "zip" = some none)
    (z_dict : PySem.W.nsIn K mainGlobals "dict" = some none)
    (z_range : PySem.W.nsIn K mainGlobals "range" = some none)
    (z_max : PySem.W.nsIn K mainGlobals "max" = some none)
    (z_sum : PySem.W.nsIn K mainGlobals "sum" = some none)
    (z_list : PySem.W.nsIn K mainGlobals "list" = some none)
    (z_repr : PySem.W.nsIn K mainGlobals "repr" = some none)
    (z_str : PySem.W.nsIn K mainGlobals "str" = some none)
    (z_enumerate : PySem.W.nsIn K mainGlobals "enumerate" = some none)
    {a_ZERO : Addr} {oa_ZERO : Option Addr} {n_ZERO : Nat} {tt_ZERO0 tt_ZERO1 : Tok} {os_ZERO : Array (Option Value)} (g_ZERO : PySem.W.nsIn K mainGlobals "ZERO" = some (some (.ref a_ZERO))) (e_ZERO : K.lookup a_ZERO = some ⟨.type "tuple", oa_ZERO, .seq #[.int 0 tt_ZERO0, .int 1 tt_ZERO1] n_ZERO, os_ZERO⟩)
    {a_ONE : Addr} {oa_ONE : Option Addr} {n_ONE : Nat} {tt_ONE0 tt_ONE1 : Tok} {os_ONE : Array (Option Value)} (g_ONE : PySem.W.nsIn K mainGlobals "ONE" = some (some (.ref a_ONE))) (e_ONE : K.lookup a_ONE = some ⟨.type "tuple", oa_ONE, .seq #[.int 1 tt_ONE0, .int 1 tt_ONE1] n_ONE, os_ONE⟩)
    {k_MOST_ROWS : Tok} (g_MOST_ROWS : PySem.W.nsIn K mainGlobals "MOST_ROWS" = some (some (.int 24 k_MOST_ROWS)))
    {k_MOST_DIGITS : Tok} (g_MOST_DIGITS : PySem.W.nsIn K mainGlobals "MOST_DIGITS" = some (some (.int 200 k_MOST_DIGITS)))
    (plain : ∀ (C : Addr) (ns : List Int), ns.length ≤ 63 → ∃ S, (b_law C) [none, some (.loc 1), none, none, none, none, none, none, none, none, none, none, none, none] [.lst (ns.map .int), .lst [.loc 0, .int 0, .int 0, .int 0, .int 20]] = .ret (.bl true) S) {fa : Addr} (hfa : mg "law" = some (.ref fa)) :
    LawC P w K mg fa := by
  have e := hfa.symm.trans (PySem.W.mg_of X G a35)
  obtain rfl : f35 = fa := by cases e; rfl
  unfold LawC
  have F0 := fun_mk (st := s_start) l0 c0 k0
  have F1 := fun_mk (st := s_common_divisor) l1 c1 k1
  have F2 := fun_mk (st := s_ratio) l2 c2 k2
  have F3 := fun_mk (st := s_plus) l3 c3 k3
  have F4 := fun_mk (st := s_times) l4 c4 k4
  have F5 := fun_mk (st := s_is_integer) l5 c5 k5
  have F6 := fun_mk (st := s_is_ratio) l6 c6 k6
  have F7 := fun_mk (st := s_has_digits) l7 c7 k7
  have F8 := fun_mk (st := s_is_matrix) l8 c8 k8
  have F9 := fun_mk (st := s_unit_matrix) l9 c9 k9
  have F10 := fun_mk (st := s_multiplied_matrices) l10 c10 k10
  have F11 := fun_mk (st := s_is_point) l11 c11 k11
  have F12 := fun_mk (st := s_Powers___init__) l12 c12 k12
  have F13 := fun_mk (st := s_Powers_power) l13 c13 k13
  have F14 := fun_mk (st := s_Powers_monomial) l14 c14 k14
  have F15 := fun_mk (st := s_at_point) l15 c15 k15
  have F16 := fun_mk (st := s__law_fill) l16 c16 k16
  have F17 := fun_mk (st := s__law_take) l17 c17 k17
  have F18 := fun_mk (st := s__law_divisor) l18 c18 k18
  have F19 := fun_mk (st := s__law_ratio) l19 c19 k19
  have F20 := fun_mk (st := s__law_plus) l20 c20 k20
  have F21 := fun_mk (st := s__law_times) l21 c21 k21
  have F22 := fun_mk (st := s__law_told) l22 c22 k22
  have F23 := fun_mk (st := s__law_fraction) l23 c23 k23
  have F24 := fun_mk (st := s__law_polynomial) l24 c24 k24
  have F25 := fun_mk (st := s__law_matrix) l25 c25 k25
  have F26 := fun_mk (st := s__law_unit) l26 c26 k26
  have F27 := fun_mk (st := s__law_by) l27 c27 k27
  have F28 := fun_mk (st := s__law_with) l28 c28 k28
  have F29 := fun_mk (st := s__law_zeros) l29 c29 k29
  have F30 := fun_mk (st := s__law_commuting) l30 c30 k30
  have F31 := fun_mk (st := s__law_is_integer) l31 c31 k31
  have F32 := fun_mk (st := s__law_is_matrix) l32 c32 k32
  have F33 := fun_mk (st := s__law_is_point) l33 c33 k33
  have F34 := fun_mk (st := s__law_bent) l34 c34 k34
  have F35 := fun_mk (st := s_law) l35 c35 k35
  have B : Bt mg := ⟨PySem.W.mg_none_of X G z_abs, PySem.W.mg_none_of X G z_isinstance, PySem.W.mg_none_of X G z_int, PySem.W.mg_none_of X G z_bool, PySem.W.mg_none_of X G z_tuple, PySem.W.mg_none_of X G z_len, PySem.W.mg_none_of X G z_all, PySem.W.mg_none_of X G z_sorted, PySem.W.mg_none_of X G z_zip, PySem.W.mg_none_of X G z_dict, PySem.W.mg_none_of X G z_range, PySem.W.mg_none_of X G z_max, PySem.W.mg_none_of X G z_sum, PySem.W.mg_none_of X G z_list, PySem.W.mg_none_of X G z_repr, PySem.W.mg_none_of X G z_str⟩
  have B_enumerate := PySem.W.mg_none_of X G z_enumerate
  refine ⟨_, F35, fun s u => .of_eq rfl, fun base KB GB s₁ H cdv a ns hl hS => ?_⟩
  have cl : Cls K C := ⟨pg, hd, po, sa⟩
  have mC := PySem.W.mg_of X G aC
  have m_ZERO := PySem.W.mg_of X G g_ZERO
  have t_ZERO : KTup K a_ZERO (List.map V.int [0, 1]) := .inr ⟨_, _, _, e_ZERO, rfl, rfl, (show 2 ≤ sizeLine by decide), (.cons ⟨_, rfl⟩ (.cons ⟨_, rfl⟩ .nil))⟩
  have m_ONE := PySem.W.mg_of X G g_ONE
  have t_ONE : KTup K a_ONE (List.map V.int [1, 1]) := .inr ⟨_, _, _, e_ONE, rfl, rfl, (show 2 ≤ sizeLine by decide), (.cons ⟨_, rfl⟩ (.cons ⟨_, rfl⟩ .nil))⟩
  have m_MOST_ROWS := PySem.W.mg_of X G g_MOST_ROWS
  have m_MOST_DIGITS := PySem.W.mg_of X G g_MOST_DIGITS
  have G_common_divisor : Cal P w K mg base "common_divisor" 1 ["first", "second"] T_common_divisor := ok_common_divisor F1 (PySem.W.mg_of X G a1) B
  have G_ratio : Cal P w K mg base "ratio" 2 ["above", "below"] T_ratio := ok_ratio F2 (PySem.W.mg_of X G a2) B G_common_divisor
  have G_plus : Cal P w K mg base "plus" 3 ["first", "second"] T_plus := ok_plus F3 (PySem.W.mg_of X G a3) B G_ratio
  have G_times : Cal P w K mg base "times" 3 ["first", "second"] T_times := ok_times F4 (PySem.W.mg_of X G a4) B G_ratio
  have G_is_integer : Cal P w K mg base "is_integer" 1 ["value"] T_is_integer := ok_is_integer F5 (PySem.W.mg_of X G a5) B
  have G_is_ratio : Cal P w K mg base "is_ratio" 2 ["value"] T_is_ratio := ok_is_ratio F6 (PySem.W.mg_of X G a6) B G_is_integer G_common_divisor
  have G_has_digits : Cal P w K mg base "has_digits" 1 ["one", "most"] T_has_digits := ok_has_digits F7 (PySem.W.mg_of X G a7) B
  have G_is_matrix : Cal P w K mg base "is_matrix" 3 ["value"] T_is_matrix := ok_is_matrix F8 (PySem.W.mg_of X G a8) B m_MOST_DIGITS m_MOST_ROWS G_is_ratio G_has_digits
  have G_unit_matrix : Cal P w K mg base "unit_matrix" 1 ["many"] T_unit_matrix := ok_unit_matrix F9 (PySem.W.mg_of X G a9) B m_ONE t_ONE m_ZERO t_ZERO
  have G_multiplied_matrices : Cal P w K mg base "multiplied_matrices" 4 ["first", "second"] T_multiplied_matrices := ok_multiplied_matrices F10 (PySem.W.mg_of X G a10) B m_ZERO t_ZERO B_enumerate G_plus G_times
  have G_is_point : Cal P w K mg base "is_point" 5 ["value", "n"] T_is_point := ok_is_point F11 (PySem.W.mg_of X G a11) B B_enumerate G_is_matrix G_multiplied_matrices
  have G_Powers___init__ : CalC P w K mg base C "Powers" 2 ["self", "point"] (T_Powers___init__ C) := ok_Powers___init__ F12 B cl nA_made nA_point mC ⟨mk, a12, i12, kc⟩ G_unit_matrix
  have G_Powers_power : CalM P w K mg base C "power" 5 ["self", "j", "e"] (T_Powers_power C) := ok_Powers_power F13 B cl nA_made nA_point ⟨a13, i13, k13⟩ G_multiplied_matrices
  have G_Powers_monomial : CalM P w K mg base C "monomial" 6 ["self", "powers"] (T_Powers_monomial C) := ok_Powers_monomial F14 B cl nA_made nA_point B_enumerate ⟨a14, i14, k14⟩ G_Powers_power G_multiplied_matrices G_unit_matrix
  have G_at_point : Cal P w K mg base "at_point" 7 ["p", "point"] (T_at_point C) := ok_at_point F15 (PySem.W.mg_of X G a15) B cl nA_made nA_point m_ZERO t_ZERO B_enumerate G_Powers___init__ G_Powers_monomial G_plus G_times
  have G__law_fill : Cal P w K mg base "_law_fill" 1 ["c"] T__law_fill := ok__law_fill F16 (PySem.W.mg_of X G a16) B
  have G__law_take : Cal P w K mg base "_law_take" 2 ["c", "many"] T__law_take := ok__law_take F17 (PySem.W.mg_of X G a17) B G__law_fill
  have G__law_divisor : Cal P w K mg base "_law_divisor" 1 ["a", "b"] T__law_divisor := ok__law_divisor F18 (PySem.W.mg_of X G a18) B
  have G__law_ratio : Cal P w K mg base "_law_ratio" 2 ["above", "below"] T__law_ratio := ok__law_ratio F19 (PySem.W.mg_of X G a19) B G__law_divisor
  have G__law_plus : Cal P w K mg base "_law_plus" 3 ["a", "b"] T__law_plus := ok__law_plus F20 (PySem.W.mg_of X G a20) B G__law_ratio
  have G__law_times : Cal P w K mg base "_law_times" 3 ["a", "b"] T__law_times := ok__law_times F21 (PySem.W.mg_of X G a21) B G__law_ratio
  have G__law_told : Cal P w K mg base "_law_told" 1 ["table"] T__law_told := ok__law_told F22 (PySem.W.mg_of X G a22) B
  have G__law_fraction : Cal P w K mg base "_law_fraction" 3 ["c"] T__law_fraction := ok__law_fraction F23 (PySem.W.mg_of X G a23) B G__law_ratio G__law_take
  have G__law_polynomial : Cal P w K mg base "_law_polynomial" 4 ["c", "n", "terms", "most"] T__law_polynomial := ok__law_polynomial F24 (PySem.W.mg_of X G a24) B G__law_take G__law_fraction G__law_told
  have G__law_matrix : Cal P w K mg base "_law_matrix" 3 ["c", "many"] T__law_matrix := ok__law_matrix F25 (PySem.W.mg_of X G a25) B G__law_take G__law_ratio
  have G__law_unit : Cal P w K mg base "_law_unit" 1 ["many"] T__law_unit := ok__law_unit F26 (PySem.W.mg_of X G a26) B
  have G__law_by : Cal P w K mg base "_law_by" 4 ["a", "b"] T__law_by := ok__law_by F27 (PySem.W.mg_of X G a27) B G__law_plus G__law_times
  have G__law_with : Cal P w K mg base "_law_with" 4 ["a", "b", "factor"] T__law_with := ok__law_with F28 (PySem.W.mg_of X G a28) B G__law_plus G__law_times
  have G__law_zeros : Cal P w K mg base "_law_zeros" 1 ["many"] T__law_zeros := ok__law_zeros F29 (PySem.W.mg_of X G a29) B
  have G__law_commuting : Cal P w K mg base "_law_commuting" 5 ["c", "n", "many"] T__law_commuting := ok__law_commuting F30 (PySem.W.mg_of X G a30) B G__law_matrix G__law_zeros G__law_by G__law_unit G__law_with G__law_take
  have G__law_is_integer : Cal P w K mg base "_law_is_integer" 1 ["value"] T__law_is_integer := ok__law_is_integer F31 (PySem.W.mg_of X G a31) B
  have G__law_is_matrix : Cal P w K mg base "_law_is_matrix" 2 ["value"] T__law_is_matrix := ok__law_is_matrix F32 (PySem.W.mg_of X G a32) B G__law_is_integer G__law_divisor
  have G__law_is_point : Cal P w K mg base "_law_is_point" 5 ["value", "n"] T__law_is_point := ok__law_is_point F33 (PySem.W.mg_of X G a33) B G__law_is_matrix G__law_by
  have G__law_bent : Cal P w K mg base "_law_bent" 4 ["c", "point"] T__law_bent := ok__law_bent F34 (PySem.W.mg_of X G a34) B G__law_take G__law_matrix G__law_plus
  have GS : FnOk P w K mg base (L2.CX P w) 1 f0 _ ["script"] (spStart K) := ok_start F0 B
  have b0 := F0.binds (ps := ["script"]) fun _ _ _ _ _ _ us hl => match us, hl with | [_], _ => rfl
  have hr : Room 8 (callerA.deeper (envOfC "law" (defScope s_law) s₁.heap.objs.size f35 cdv)) := Room.deeper ⟨rfl, by decide, by decide⟩ _
  have tk : Takes (cxOf (L2.CX P w) P w K mg base ["script", "c", "point", "turn", "n", "many", "bent", "p", "due", "key", "factor", "made", "k", "again"] "law" (defScope s_law) f35 cdv callerA [] s₁ H fun _ _ _ => False) (WE0 fun _ _ _ => False) := takes_of rfl rfl rfl rfl
  have rest := dr_law B cl nA_made nA_point G__law_take G__law_commuting G_is_point G__law_bent G__law_is_point G__law_polynomial G__law_zeros G__law_unit G__law_by G__law_with G_at_point hr rfl tk (passes_of rfl)
  refine ⟨_, pss_cons (ps_set (i := 1) sc_law.nd rfl (by first | exact .inl rfl | exact .inr rfl) (pe_callS GS (hr.mono (by decide)) (by rfl) (PySem.W.mg_of X G a0) F0.kp b0 (passAt tk) (pa_cons (pv 0) pa_nil))) rest.ps, ?_⟩
  refine ⟨_, rfl, a, ns, rfl, hS, hl, fun H' p0 p1 ne sm h0 h1 => ?_⟩
  obtain ⟨S', hb⟩ := plain C ns hl
  refine ⟨[p0, p1], [none, some (.loc 1), none, none, none, none, none, none, none, none, none, none, none, none], [.lst (ns.map .int), .lst [.loc 0, .int 0, .int 0, .int 0, .int 20]], state_two (n := 12) ne h0 h1 (by rfl) (by rfl), ?_⟩
  show sresP _ _ _ _ (b_law C _ _) _
  rw [hb]
  intro r' H'' v x R' rv
  cases rv
  rfl

end DV
open PySem PySem.W PyProof.Rows
set_option pp.maxSteps 200
set_option maxHeartbeats 0 in
theorem PySem.Challenge.cw_counterpane_k41_points_holds : PySem.Challenge.rw_counterpane_k41_points.Holds := by
  w_on; o_law; k_head; (case hw => w_witness2)
  k_fill
  refine Att.attach_call (l := PySem.Challenge.rw_counterpane_k41_points) (n := 63) rfl rfl fun w s₀ s₁ mg mb fa o pm cd doc a vs ns G Y ho hd hcd hmg hobj hints hlen hg => DV.law_code ?C (PySem.W.kIn_of Y) G.T.g G.T.b G.T.builtins G.T.nolimit hg hobj hints hlen
  case C =>
    refine' DV.all_mk (PySem.W.kIn_of Y) G.T.g ?aC ?pg ?hd ?po ?sa ?mk ?kc ?nA_made ?nA_point ?a0 ?l0 ?c0 ?k0 ?a1 ?l1 ?c1 ?k1 ?a2 ?l2 ?c2 ?k2 ?a3 ?l3 ?c3 ?k3 ?a4 ?l4 ?c4 ?k4 ?a5 ?l5 ?c5 ?k5 ?a6 ?l6 ?c6 ?k6 ?a7 ?l7 ?c7 ?k7 ?a8 ?l8 ?c8 ?k8 ?a9 ?l9 ?c9 ?k9 ?a10 ?l10 ?c10 ?k10 ?a11 ?l11 ?c11 ?k11 ?a12 ?i12 ?l12 ?c12 ?k12 ?a13 ?i13 ?l13 ?c13 ?k13 ?a14 ?i14 ?l14 ?c14 ?k14 ?a15 ?l15 ?c15 ?k15 ?a16 ?l16 ?c16 ?k16 ?a17 ?l17 ?c17 ?k17 ?a18 ?l18 ?c18 ?k18 ?a19 ?l19 ?c19 ?k19 ?a20 ?l20 ?c20 ?k20 ?a21 ?l21 ?c21 ?k21 ?a22 ?l22 ?c22 ?k22 ?a23 ?l23 ?c23 ?k23 ?a24 ?l24 ?c24 ?k24 ?a25 ?l25 ?c25 ?k25 ?a26 ?l26 ?c26 ?k26 ?a27 ?l27 ?c27 ?k27 ?a28 ?l28 ?c28 ?k28 ?a29 ?l29 ?c29 ?k29 ?a30 ?l30 ?c30 ?k30 ?a31 ?l31 ?c31 ?k31 ?a32 ?l32 ?c32 ?k32 ?a33 ?l33 ?c33 ?k33 ?a34 ?l34 ?c34 ?k34 ?a35 ?l35 ?c35 ?k35 ?z_abs ?z_isinstance ?z_int ?z_bool ?z_tuple ?z_len ?z_all ?z_sorted ?z_zip ?z_dict ?z_range ?z_max ?z_sum ?z_list ?z_repr ?z_str ?z_enumerate ?g_ZERO ?e_ZERO ?g_ONE ?e_ONE ?g_MOST_ROWS ?g_MOST_DIGITS DV.plain hmg
    (case aC => k_is)
    (case pg => k_is)
    (case hd => k_is)
    (case po => k_is)
    (case sa => k_is)
    (case mk => k_is)
    (case kc => k_is)
    (case nA_made => k_is)
    (case nA_point => k_is)
    (case a0 => k_is)
    (case l0 => k_is)
    (case c0 => k_is)
    (case k0 => k_is)
    (case a1 => k_is)
    (case l1 => k_is)
    (case c1 => k_is)
    (case k1 => k_is)
    (case a2 => k_is)
    (case l2 => k_is)
    (case c2 => k_is)
    (case k2 => k_is)
    (case a3 => k_is)
    (case l3 => k_is)
    (case c3 => k_is)
    (case k3 => k_is)
    (case a4 => k_is)
    (case l4 => k_is)
    (case c4 => k_is)
    (case k4 => k_is)
    (case a5 => k_is)
    (case l5 => k_is)
    (case c5 => k_is)
    (case k5 => k_is)
    (case a6 => k_is)
    (case l6 => k_is)
    (case c6 => k_is)
    (case k6 => k_is)
    (case a7 => k_is)
    (case l7 => k_is)
    (case c7 => k_is)
    (case k7 => k_is)
    (case a8 => k_is)
    (case l8 => k_is)
    (case c8 => k_is)
    (case k8 => k_is)
    (case a9 => k_is)
    (case l9 => k_is)
    (case c9 => k_is)
    (case k9 => k_is)
    (case a10 => k_is)
    (case l10 => k_is)
    (case c10 => k_is)
    (case k10 => k_is)
    (case a11 => k_is)
    (case l11 => k_is)
    (case c11 => k_is)
    (case k11 => k_is)
    (case a12 => k_is)
    (case i12 => k_is)
    (case l12 => k_is)
    (case c12 => k_is)
    (case k12 => k_is)
    (case a13 => k_is)
    (case i13 => k_is)
    (case l13 => k_is)
    (case c13 => k_is)
    (case k13 => k_is)
    (case a14 => k_is)
    (case i14 => k_is)
    (case l14 => k_is)
    (case c14 => k_is)
    (case k14 => k_is)
    (case a15 => k_is)
    (case l15 => k_is)
    (case c15 => k_is)
    (case k15 => k_is)
    (case a16 => k_is)
    (case l16 => k_is)
    (case c16 => k_is)
    (case k16 => k_is)
    (case a17 => k_is)
    (case l17 => k_is)
    (case c17 => k_is)
    (case k17 => k_is)
    (case a18 => k_is)
    (case l18 => k_is)
    (case c18 => k_is)
    (case k18 => k_is)
    (case a19 => k_is)
    (case l19 => k_is)
    (case c19 => k_is)
    (case k19 => k_is)
    (case a20 => k_is)
    (case l20 => k_is)
    (case c20 => k_is)
    (case k20 => k_is)
    (case a21 => k_is)
    (case l21 => k_is)
    (case c21 => k_is)
    (case k21 => k_is)
    (case a22 => k_is)
    (case l22 => k_is)
    (case c22 => k_is)
    (case k22 => k_is)
    (case a23 => k_is)
    (case l23 => k_is)
    (case c23 => k_is)
    (case k23 => k_is)
    (case a24 => k_is)
    (case l24 => k_is)
    (case c24 => k_is)
    (case k24 => k_is)
    (case a25 => k_is)
    (case l25 => k_is)
    (case c25 => k_is)
    (case k25 => k_is)
    (case a26 => k_is)
    (case l26 => k_is)
    (case c26 => k_is)
    (case k26 => k_is)
    (case a27 => k_is)
    (case l27 => k_is)
    (case c27 => k_is)
    (case k27 => k_is)
    (case a28 => k_is)
    (case l28 => k_is)
    (case c28 => k_is)
    (case k28 => k_is)
    (case a29 => k_is)
    (case l29 => k_is)
    (case c29 => k_is)
    (case k29 => k_is)
    (case a30 => k_is)
    (case l30 => k_is)
    (case c30 => k_is)
    (case k30 => k_is)
    (case a31 => k_is)
    (case l31 => k_is)
    (case c31 => k_is)
    (case k31 => k_is)
    (case a32 => k_is)
    (case l32 => k_is)
    (case c32 => k_is)
    (case k32 => k_is)
    (case a33 => k_is)
    (case l33 => k_is)
    (case c33 => k_is)
    (case k33 => k_is)
    (case a34 => k_is)
    (case l34 => k_is)
    (case c34 => k_is)
    (case k34 => k_is)
    (case a35 => k_is)
    (case l35 => k_is)
    (case c35 => k_is)
    (case k35 => k_is)
    (case z_abs => k_is)
    (case z_isinstance => k_is)
    (case z_int => k_is)
    (case z_bool => k_is)
    (case z_tuple => k_is)
    (case z_len => k_is)
    (case z_all => k_is)
    (case z_sorted => k_is)
    (case z_zip => k_is)
    (case z_dict => k_is)
    (case z_range => k_is)
    (case z_max => k_is)
    (case z_sum => k_is)
    (case z_list => k_is)
    (case z_repr => k_is)
    (case z_str => k_is)
    (case z_enumerate => k_is)
    (case g_ZERO => k_is)
    (case e_ZERO => k_is)
    (case g_ONE => k_is)
    (case e_ONE => k_is)
    (case g_MOST_ROWS => k_is)
    (case g_MOST_DIGITS => k_is)

