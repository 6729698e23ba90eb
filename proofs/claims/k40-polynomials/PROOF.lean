import PyProof.Rows.All
import HandS.ForMost
import HandS.TupAny
import HandS.TupLe
import HandS.TupMul
import HandS.Wide
import HandS.WideBits
import HandS.Zip
import HandS.DictTup
import HandS.Conv
import HandS.Deep
import HandS.Flow
import HandS.Style
import HandS.Exc
import KE.SortData
import KE.DataMinMax
import HandS.IsInst
import KE.KTupSum
import KE.KDictSum
import PyProof.ReprRoads
import HandS.TupLen
import KE.KDictPairs
import KE.KDictCopyH
import PyProof.Transfer
import HandS.ForSpec
import Wide.All
import OpenK.AllK
import Wide.FinOn
import PySem.Challenge.RW_counterpane_k40_polynomials
set_option Elab.async false
set_option linter.all false
set_option maxRecDepth 100000
set_option maxHeartbeats 4000000
/-! DV1: values without addresses (D), a store of the mutable objects (Sto), what it means that an abstract heap bears them. -/
namespace DV
open PySem PySem.Spec PyProof.Rows L2

/-- a value: tuples are trees; cst: a tuple that may be a constant of the module; fup: a tuple that is known to its object; loc: a mutable object, by its number -/
inductive D where
  | non | bl (b : Bool) | int (i : Int) | str (x : Str) | tup (ds : List D) | cst (ds : List D) | fup (ds : List D) | loc (n : Nat)
/-- a mutable object -/
inductive MO where
  | lst (ds : List D)
  | ro (ds : List D)
  | dK (kvs : List (Key × D))
  | dT (kvs : List (List Key × D))
  /-- dicts that are locked -/
  | rK (kvs : List (Key × D))
  | rT (kvs : List (List Key × D))
  | ins (C : Addr) (fs : List (Str × D))
abbrev Sto := List MO
abbrev AEnv := List (Option D)

/-- a tuple of the written part -/
def KTup (K : PySem.W.Frag) (a : Addr) (vs : List V) : Prop := SqT K (fun _ => none) a vs
theorem KTup.sq {K : PySem.W.Frag} {H : Hp} {a : Addr} {vs : List V} (h : KTup K a vs) : SqT K H a vs := by
  rcases h with (h | ⟨o, h⟩) | h
  · cases h
  · cases h
  · exact .inr h

/-- a tuple that is read -/
def TupR (K : PySem.W.Frag) (H : Hp) (a : Addr) (vs : List V) : Prop := H a = some (.tup vs) ∨ (∃ o, H a = some (.frz o (.tup vs))) ∨ KTup K a vs
theorem TupR.sq {K : PySem.W.Frag} {H : Hp} {a : Addr} {vs : List V} (h : TupR K H a vs) : SqT K H a vs := by
  rcases h with h | h | h
  · exact .inl (.inl h)
  · exact .inl (.inr h)
  · exact h.sq
/-- tuples stay -/
structure TGrow (H H' : Hp) : Prop where
  t : ∀ a vs, H a = some (.tup vs) → H' a = some (.tup vs)
  f : ∀ a o vs, H a = some (.frz o (.tup vs)) → H' a = some (.frz o (.tup vs))
theorem TGrow.refl (H : Hp) : TGrow H H := ⟨fun _ _ h => h, fun _ _ _ h => h⟩
theorem TupR.mono {K : PySem.W.Frag} {H H' : Hp} {a : Addr} {vs : List V} (g : TGrow H H') (h : TupR K H a vs) : TupR K H' a vs :=
  h.imp (g.t _ _) fun h => h.imp (fun ⟨o, h⟩ => ⟨o, g.f _ _ _ h⟩) id
/-- a change at something else than a tuple -/
theorem TGrow.upd {H : Hp} {a : Addr} {o u : HO} (h : H a = some u) (h1 : ∀ xs, u ≠ .tup xs) (h2 : ∀ o xs, u ≠ .frz o (.tup xs)) : TGrow H (L2.upd H a o) :=
  ⟨fun b vs e => by rw [upd_ne (fun z => by subst z; rw [h] at e; exact h1 _ (Option.some.inj e))]; exact e, fun b o vs e => by rw [upd_ne (fun z => by subst z; rw [h] at e; exact h2 _ _ (Option.some.inj e))]; exact e⟩
mutual
inductive RV (K : PySem.W.Frag) (r : List Addr) (H : Hp) : D → V → Prop
  | non : RV K r H .non .non
  | bl (b : Bool) : RV K r H (.bl b) (.bl b)
  | int (i : Int) : RV K r H (.int i) (.int i)
  | str (x : Str) : RV K r H (.str x) (.str x)
  | tup {ds : List D} {vs : List V} {a : Addr} : H a = some (.tup vs) → RVs K r H ds vs → RV K r H (.tup ds) (.ref a)
  | cst {ds : List D} {vs : List V} {a : Addr} : TupR K H a vs → RVs K r H ds vs → RV K r H (.cst ds) (.ref a)
  | fup {ds : List D} {vs : List V} {a : Addr} {o : Obj} : H a = some (.frz o (.tup vs)) → o.dict = none → RVs K r H ds vs → RV K r H (.fup ds) (.ref a)
  | loc {n : Nat} {a : Addr} : r[n]? = some a → RV K r H (.loc n) (.ref a)
inductive RVs (K : PySem.W.Frag) (r : List Addr) (H : Hp) : List D → List V → Prop
  | nil : RVs K r H [] []
  | cons {d : D} {v : V} {ds : List D} {vs : List V} : RV K r H d v → RVs K r H ds vs → RVs K r H (d :: ds) (v :: vs)
end

section
variable {K : PySem.W.Frag} {r r' : List Addr} {H H' : Hp}
mutual
theorem RV.mono (ht : TGrow H H') (hr : ∀ (n : Nat) a, r[n]? = some a → r'[n]? = some a) : ∀ {d : D} {v : V}, RV K r H d v → RV K r' H' d v
  | _, _, .non => .non
  | _, _, .bl b => .bl b
  | _, _, .int i => .int i
  | _, _, .str x => .str x
  | _, _, .tup h q => .tup (ht.t _ _ h) (RVs.mono ht hr q)
  | _, _, .cst h q => .cst (h.mono ht) (RVs.mono ht hr q)
  | _, _, .fup h hd q => .fup (ht.f _ _ _ h) hd (RVs.mono ht hr q)
  | _, _, .loc h => .loc (hr _ _ h)
theorem RVs.mono (ht : TGrow H H') (hr : ∀ (n : Nat) a, r[n]? = some a → r'[n]? = some a) : ∀ {ds : List D} {vs : List V}, RVs K r H ds vs → RVs K r' H' ds vs
  | _, _, .nil => .nil
  | _, _, .cons h q => .cons (RV.mono ht hr h) (RVs.mono ht hr q)
end
theorem RVs.length : ∀ {ds : List D} {vs : List V}, RVs K r H ds vs → ds.length = vs.length
  | _, _, .nil => rfl
  | _, _, .cons _ q => by simp [RVs.length q]
theorem RVs.get : ∀ {ds : List D} {vs : List V} {i : Nat} {d : D}, RVs K r H ds vs → ds[i]? = some d → ∃ v, vs[i]? = some v ∧ RV K r H d v
  | _, _, _, _, .nil, e => by simp at e
  | _, _, 0, _, .cons h _, e => by simp at e; subst e; exact ⟨_, rfl, h⟩
  | _, _, i + 1, d, .cons _ q, e => by
    obtain ⟨v, h1, h2⟩ := RVs.get (i := i) (d := d) q (by simpa using e)
    exact ⟨v, by simpa using h1, h2⟩
theorem RVs.get' : ∀ {ds : List D} {vs : List V} {i : Nat} {v : V}, RVs K r H ds vs → vs[i]? = some v → ∃ d, ds[i]? = some d ∧ RV K r H d v
  | _, _, _, _, .nil, e => by simp at e
  | _, _, 0, _, .cons h _, e => by simp at e; subst e; exact ⟨_, rfl, h⟩
  | _, _, i + 1, v, .cons _ q, e => by
    obtain ⟨d, h1, h2⟩ := RVs.get' (i := i) (v := v) q (by simpa using e)
    exact ⟨d, by simpa using h1, h2⟩
theorem RVs.append : ∀ {ds es : List D} {vs us : List V}, RVs K r H ds vs → RVs K r H es us → RVs K r H (ds ++ es) (vs ++ us)
  | _, _, _, _, .nil, q => q
  | _, _, _, _, .cons h t, q => .cons h (RVs.append t q)
theorem RVs.set {d : D} {v : V} (h : RV K r H d v) : ∀ {ds : List D} {vs : List V} (i : Nat), RVs K r H ds vs → RVs K r H (ds.set i d) (vs.set i v)
  | _, _, _, .nil => .nil
  | _, _, 0, .cons _ t => .cons h t
  | _, _, i + 1, .cons q t => .cons q (RVs.set h i t)
theorem RVs.take : ∀ {ds : List D} {vs : List V} (n : Nat), RVs K r H ds vs → RVs K r H (ds.take n) (vs.take n)
  | _, _, 0, _ => .nil
  | _, _, _ + 1, .nil => .nil
  | _, _, n + 1, .cons h t => .cons h (RVs.take n t)
theorem RVs.drop : ∀ {ds : List D} {vs : List V} (n : Nat), RVs K r H ds vs → RVs K r H (ds.drop n) (vs.drop n)
  | _, _, 0, q => q
  | _, _, _ + 1, .nil => .nil
  | _, _, n + 1, .cons _ t => RVs.drop n t
theorem RVs.reverse {ds : List D} {vs : List V} (h : RVs K r H ds vs) : RVs K r H ds.reverse vs.reverse := by
  have go : ∀ (ds es : List D) (vs us : List V), RVs K r H ds vs → RVs K r H es us → RVs K r H (ds.reverseAux es) (vs.reverseAux us) := by
    intro ds
    induction ds with
    | nil => intro es vs us h q; cases h; exact q
    | cons d ds ih =>
      intro es vs us h q
      cases h with
      | cons a b =>
        have z := ih (d :: es) _ _ b (RVs.cons a q)
        exact z
  exact go _ _ _ _ h .nil
theorem RVs.erase : ∀ {ds : List D} {vs : List V} (i : Nat), RVs K r H ds vs → RVs K r H (ds.eraseIdx i) (vs.eraseIdx i)
  | _, _, _, .nil => .nil
  | _, _, 0, .cons _ t => t
  | _, _, i + 1, .cons q t => .cons q (RVs.erase i t)
theorem RVs.ints : ∀ (ns : List Int), RVs K r H (ns.map D.int) (ns.map V.int)
  | [] => .nil
  | n :: ns => .cons (.int n) (RVs.ints ns)
theorem RVs.ints_inv : ∀ {ns : List Int} {vs : List V}, RVs K r H (ns.map D.int) vs → vs = ns.map V.int
  | [], _, .nil => rfl
  | n :: ns, _, .cons h t => by cases h; rw [RVs.ints_inv t]; rfl
theorem RVs.bls_inv : ∀ {ns : List Bool} {vs : List V}, RVs K r H (ns.map D.bl) vs → vs = ns.map V.bl
  | [], _, .nil => rfl
  | n :: ns, _, .cons h t => by cases h; rw [RVs.bls_inv t]; rfl
theorem RVs.strs_inv : ∀ {ns : List Str} {vs : List V}, RVs K r H (ns.map D.str) vs → vs = ns.map V.str
  | [], _, .nil => rfl
  | n :: ns, _, .cons h t => by cases h; rw [RVs.strs_inv t]; rfl
def kD : Key → D
  | .inl i => .int i
  | .inr x => .str x
theorem RVs.keys_inv : ∀ {ks : List Key} {vs : List V}, RVs K r H (ks.map kD) vs → vs = ks.map kV
  | [], _, .nil => rfl
  | .inl i :: ks, _, .cons h t => by cases h; rw [RVs.keys_inv t]; rfl
  | .inr i :: ks, _, .cons h t => by cases h; rw [RVs.keys_inv t]; rfl
theorem RVs.keys : ∀ (ks : List Key), RVs K r H (ks.map kD) (ks.map kV)
  | [] => .nil
  | .inl i :: ks => .cons (.int i) (RVs.keys ks)
  | .inr i :: ks => .cons (.str i) (RVs.keys ks)
end

/-- what of the heap lies outside the store stays; the store's addresses grow -/
structure Ext (r : List Addr) (H : Hp) (r' : List Addr) (H' : Hp) : Prop where
  pre : ∃ t, r' = r ++ t
  keep : ∀ a o, a ∉ r → H a = some o → H' a = some o ∧ a ∉ r'
  fr : ∀ a, H' a = none → H a = none
  frz : ∀ a o u, H a = some (.frz o u) → H' a = some (.frz o u)
theorem Ext.refl (r : List Addr) (H : Hp) : Ext r H r H := ⟨⟨[], by simp⟩, fun _ _ h e => ⟨e, h⟩, fun _ h => h, fun _ _ _ h => h⟩
theorem Ext.trans {r r1 r2 : List Addr} {H H1 H2 : Hp} (a : Ext r H r1 H1) (b : Ext r1 H1 r2 H2) : Ext r H r2 H2 :=
  ⟨let ⟨t, e⟩ := a.pre; let ⟨u, e'⟩ := b.pre; ⟨t ++ u, by rw [e', e, List.append_assoc]⟩, fun c o h e => let ⟨h1, h2⟩ := a.keep c o h e; b.keep c o h2 h1, fun c h => a.fr c (b.fr c h), fun c o u h => b.frz c o u (a.frz c o u h)⟩
theorem upd_fr {H : Hp} {p : Addr} {o : HO} : ∀ a, upd H p o a = none → H a = none := fun a h => by
  unfold upd at h
  split at h
  · cases h
  · exact h
theorem Ext.get {r r' : List Addr} {H H' : Hp} (a : Ext r H r' H') {n : Nat} {x : Addr} (h : r[n]? = some x) : r'[n]? = some x := by
  obtain ⟨t, e⟩ := a.pre
  rw [e, List.getElem?_append_left (List.getElem?_eq_some_iff.mp h).1]; exact h

def PKV (K : PySem.W.Frag) (r : List Addr) (H : Hp) {κ : Type} : List (κ × D) → List (κ × V) → Prop := Paired fun (p : κ × D) (q : κ × V) => p.1 = q.1 ∧ RV K r H p.2 q.2
def RO (K : PySem.W.Frag) (r : List Addr) (H : Hp) : MO → Addr → Prop
  | .lst ds, a => ∃ vs, H a = some (.lst vs) ∧ RVs K r H ds vs
  | .ro ds, a => ∃ o vs, H a = some (.frz o (.lst vs)) ∧ RVs K r H ds vs
  | .dK kvs, a => ∃ kvs', H a = some (.dK kvs') ∧ PKV K r H kvs kvs'
  | .dT kvs, a => ∃ kvs', H a = some (.dT kvs') ∧ PKV K r H kvs kvs'
  | .rK kvs, a => ∃ o kvs', H a = some (.frz o (.dK kvs')) ∧ PKV K r H kvs kvs'
  | .rT kvs, a => ∃ o kvs', H a = some (.frz o (.dT kvs')) ∧ PKV K r H kvs kvs'
  | .ins C fs, a => ∃ dx fs', H a = some (.ins C dx fs') ∧ PKV K r H fs fs'
/-- the abstract heap bears the store -/
structure RSt (K : PySem.W.Frag) (r : List Addr) (H : Hp) (S : Sto) : Prop where
  len : r.length = S.length
  nd : r.Nodup
  at_ : ∀ (n : Nat) o, S[n]? = some o → ∃ a, r[n]? = some a ∧ RO K r H o a

section
variable {K : PySem.W.Frag} {r r' : List Addr} {H H' : Hp} {S S' : Sto}
theorem PKV.mono {κ : Type} {kvs : List (κ × D)} {kvs' : List (κ × V)} (ht : TGrow H H') (hr : ∀ (n : Nat) a, r[n]? = some a → r'[n]? = some a) (h : PKV K r H kvs kvs') : PKV K r' H' kvs kvs' :=
  Paired.mapP h fun _ _ ⟨a, b⟩ => ⟨a, b.mono ht hr⟩
theorem RO.mono {o : MO} {a : Addr} (ht : TGrow H H') (hr : ∀ (n : Nat) a, r[n]? = some a → r'[n]? = some a) (ha : H' a = H a) (h : RO K r H o a) : RO K r' H' o a := by
  cases o with
  | lst ds => obtain ⟨vs, e, q⟩ := h; exact ⟨vs, ha.trans e, q.mono ht hr⟩
  | ro ds => obtain ⟨o, vs, e, q⟩ := h; exact ⟨o, vs, ha.trans e, q.mono ht hr⟩
  | dK kvs => obtain ⟨vs, e, q⟩ := h; exact ⟨vs, ha.trans e, q.mono ht hr⟩
  | dT kvs => obtain ⟨vs, e, q⟩ := h; exact ⟨vs, ha.trans e, q.mono ht hr⟩
  | rK kvs => obtain ⟨o, vs, e, q⟩ := h; exact ⟨o, vs, ha.trans e, q.mono ht hr⟩
  | rT kvs => obtain ⟨o, vs, e, q⟩ := h; exact ⟨o, vs, ha.trans e, q.mono ht hr⟩
  | ins C fs => obtain ⟨dx, vs, e, q⟩ := h; exact ⟨dx, vs, ha.trans e, q.mono ht hr⟩
theorem RO.some {o : MO} {a : Addr} (h : RO K r H o a) : ∃ u, H a = Option.some u ∧ ∀ xs, u ≠ .tup xs := by
  cases o with
  | lst ds => obtain ⟨vs, e, q⟩ := h; exact ⟨_, e, fun _ z => nomatch z⟩
  | ro ds => obtain ⟨o, vs, e, q⟩ := h; exact ⟨_, e, fun _ z => nomatch z⟩
  | dK kvs => obtain ⟨vs, e, q⟩ := h; exact ⟨_, e, fun _ z => nomatch z⟩
  | dT kvs => obtain ⟨vs, e, q⟩ := h; exact ⟨_, e, fun _ z => nomatch z⟩
  | rK kvs => obtain ⟨o, vs, e, q⟩ := h; exact ⟨_, e, fun _ z => nomatch z⟩
  | rT kvs => obtain ⟨o, vs, e, q⟩ := h; exact ⟨_, e, fun _ z => nomatch z⟩
  | ins C fs => obtain ⟨dx, vs, e, q⟩ := h; exact ⟨_, e, fun _ z => nomatch z⟩
theorem RSt.mem (R : RSt K r H S) {a : Addr} (h : a ∈ r) : ∃ u, H a = some u ∧ ∀ xs, u ≠ .tup xs := by
  obtain ⟨n, hn, e⟩ := List.mem_iff_getElem.mp h
  have h1 : n < S.length := R.len ▸ hn
  obtain ⟨b, e1, q⟩ := R.at_ n S[n] (List.getElem?_eq_getElem h1)
  have e2 : b = a := by rw [List.getElem?_eq_getElem hn, e] at e1; exact (Option.some.inj e1).symm
  subst e2
  exact q.some
theorem RSt.nmem (R : RSt K r H S) {a : Addr} (h : H a = none) : a ∉ r := fun z => by
  obtain ⟨u, e, _⟩ := R.mem z
  rw [h] at e; cases e
theorem RSt.ntup (R : RSt K r H S) {a : Addr} {xs : List V} (h : H a = some (.tup xs)) : a ∉ r := fun z => by
  obtain ⟨u, e, q⟩ := R.mem z
  rw [h] at e; cases e; exact q _ rfl
theorem RSt.tups (R : RSt K r H S) (x : Ext r H r' H') : TGrow H H' := ⟨fun a vs e => (x.keep a _ (R.ntup e) e).1, fun a o vs e => x.frz a o _ e⟩
theorem RV.ext {d : D} {v : V} (h : RV K r H d v) (R : RSt K r H S) (x : Ext r H r' H') : RV K r' H' d v := h.mono (R.tups x) fun _ _ e => x.get e
theorem RVs.ext {d : List D} {v : List V} (h : RVs K r H d v) (R : RSt K r H S) (x : Ext r H r' H') : RVs K r' H' d v := h.mono (R.tups x) fun _ _ e => x.get e
/-- a new object outside the store -/
theorem RSt.new (R : RSt K r H S) {p : Addr} {o : HO} (hp : H p = none) : RSt K r (upd H p o) S ∧ Ext r H r (upd H p o) := by
  have x : Ext r H r (upd H p o) := ⟨⟨[], by simp⟩, fun a u h e => ⟨by rw [upd_ne (ne_of_none e hp)]; exact e, h⟩, upd_fr, fun a o u e => by rw [upd_ne (ne_of_none e hp)]; exact e⟩
  refine ⟨⟨R.len, R.nd, fun n u e => ?_⟩, x⟩
  obtain ⟨a, e1, q⟩ := R.at_ n u e
  obtain ⟨w, e2, _⟩ := q.some
  exact ⟨a, e1, q.mono (R.tups x) (fun _ _ z => z) (upd_ne (ne_of_none e2 hp))⟩
/-- a new object of the store -/
theorem RSt.alloc (R : RSt K r H S) {p : Addr} {o : HO} {m : MO} (hp : H p = none) (hm : RO K (r ++ [p]) (upd H p o) m p) : RSt K (r ++ [p]) (upd H p o) (S ++ [m]) ∧ Ext r H (r ++ [p]) (upd H p o) := by
  have x : Ext r H (r ++ [p]) (upd H p o) := ⟨⟨[p], rfl⟩, fun a u h e => ⟨by rw [upd_ne (ne_of_none e hp)]; exact e, by
    simp only [List.mem_append, List.mem_singleton, not_or]; exact ⟨h, ne_of_none e hp⟩⟩, upd_fr, fun a o u e => by rw [upd_ne (ne_of_none e hp)]; exact e⟩
  refine ⟨⟨by simp [R.len], ?_, fun n u e => ?_⟩, x⟩
  · rw [List.nodup_append]
    refine ⟨R.nd, by simp, fun a ha b hb => ?_⟩
    have : b = p := by simpa using hb
    subst this
    intro z; subst z; exact R.nmem hp ha
  · by_cases hn : n < S.length
    · rw [List.getElem?_append_left hn] at e
      obtain ⟨a, e1, q⟩ := R.at_ n u e
      obtain ⟨w, e2, _⟩ := q.some
      exact ⟨a, x.get e1, q.mono (R.tups x) (fun _ _ z => x.get z) (upd_ne (ne_of_none e2 hp))⟩
    · rw [List.getElem?_append_right (by omega)] at e
      have hz : n - S.length = 0 := by
        cases hk : n - S.length with
        | zero => rfl
        | succ k => rw [hk] at e; simp at e
      rw [hz] at e
      have : m = u := by simpa using e
      subst this
      refine ⟨p, ?_, hm⟩
      have : n = r.length := by have := R.len; omega
      rw [this]; simp
/-- an object of the store changes -/
theorem RSt.put (R : RSt K r H S) {n : Nat} {a : Addr} {o : HO} {m : MO} (hn : r[n]? = some a) (hf : ∀ o u, H a ≠ some (.frz o u)) (hm : RO K r (upd H a o) m a) : RSt K r (upd H a o) (S.set n m) ∧ Ext r H r (upd H a o) := by
  have ha : a ∈ r := List.mem_of_getElem? hn
  have x : Ext r H r (upd H a o) := ⟨⟨[], by simp⟩, fun b u h e => ⟨by rw [upd_ne (fun z : b = a => h (by rw [z]; exact ha))]; exact e, h⟩, upd_fr, fun b o u e => by rw [upd_ne (fun z : b = a => hf o u (by rw [← z]; exact e))]; exact e⟩
  refine ⟨⟨by simp [R.len], R.nd, fun k u e => ?_⟩, x⟩
  by_cases hk : n = k
  · subst hk
    have hl : n < S.length := by
      rw [← R.len]; exact (List.getElem?_eq_some_iff.mp hn).1
    rw [List.getElem?_set_self hl] at e
    cases e
    exact ⟨a, hn, hm⟩
  · rw [List.getElem?_set_ne hk] at e
    obtain ⟨b, e1, q⟩ := R.at_ k u e
    refine ⟨b, e1, q.mono (R.tups x) (fun _ _ z => z) (upd_ne fun z => hk ?_)⟩
    subst z
    obtain ⟨h1, h2⟩ := List.getElem?_eq_some_iff.mp hn
    obtain ⟨h3, h4⟩ := List.getElem?_eq_some_iff.mp e1
    exact (List.getElem_inj R.nd).mp (h2.trans h4.symm)
end

/-- the names' slots and the store -/
structure RA (K : PySem.W.Frag) (r : List Addr) (H : Hp) (t : L2.St) (env : AEnv) (S : Sto) : Prop where
  st : RSt K r H S
  len : t.length = env.length
  sl : ∀ (i : Nat) d, env[i]? = some (some d) → ∃ v, t[i]? = some (some v) ∧ RV K r H d v
section
variable {K : PySem.W.Frag} {r r' : List Addr} {H H' : Hp} {S S' : Sto} {t : L2.St} {env : AEnv}
theorem RA.ext (R : RA K r H t env S) (x : Ext r H r' H') (R' : RSt K r' H' S') : RA K r' H' t env S' :=
  ⟨R', R.len, fun i d e => let ⟨v, e1, q⟩ := R.sl i d e; ⟨v, e1, q.ext R.st x⟩⟩
theorem RA.set (R : RA K r H t env S) {i : Nat} {d : D} {v : V} (q : RV K r H d v) : RA K r H (t.set i (some v)) (env.set i (some d)) S :=
  ⟨R.st, by simp [R.len], fun j e h => by
    by_cases hj : i = j
    · subst hj
      by_cases hl : i < env.length
      · rw [List.getElem?_set_self hl] at h
        cases h
        exact ⟨v, List.getElem?_set_self (by rw [R.len]; exact hl), q⟩
      · rw [List.getElem?_eq_none (by simpa using hl)] at h; cases h
    · rw [List.getElem?_set_ne hj] at h
      obtain ⟨u, e1, q1⟩ := R.sl j e h
      exact ⟨u, by rw [List.getElem?_set_ne hj]; exact e1, q1⟩⟩
end

/-- an exception: its class, its fields (none: it has no dict of its own) -/
structure Ex where
  C : Addr
  fs : Option (List (Str × D))
inductive Res (α : Type) where
  | ok (a : α) (S : Sto)
  | exc (c : Ex) (S : Sto)
  | bad
@[simp] def Res.bind {α β : Type} (x : Res α) (f : α → Sto → Res β) : Res β := match x with
  | .ok a S => f a S
  | .exc c S => .exc c S
  | .bad => .bad
inductive SRes where
  | nx (env : AEnv) (S : Sto)
  | ret (d : D) (S : Sto)
  | brk (env : AEnv) (S : Sto)
  | ct (env : AEnv) (S : Sto)
  | exc (c : Ex) (env : AEnv) (S : Sto)
  | bad
def RX (K : PySem.W.Frag) (r : List Addr) (H : Hp) (c : Ex) (cls : Value) (dx : Option Addr) : Prop :=
  cls = .ref c.C ∧ match c.fs with
    | none => dx = none
    | some fs => ∃ a fs', dx = some a ∧ a ∉ r ∧ H a = some (.xd fs') ∧ PKV K r H fs fs'
abbrev EvE := AEnv → Sto → Res D
abbrev EvS := AEnv → Sto → SRes
/-- how a result is borne: by the heap ahead (what is new), the addresses, the heap -/
abbrev Rel (α β : Type) := Hp → List Addr → Hp → α → β → Prop
structure Anti {α β : Type} (RR : Rel α β) : Prop where
  up : ∀ (H H1 : Hp) (r : List Addr) (H2 : Hp) (a : α) (b : β), (∀ c, H1 c = none → H c = none) → RR H1 r H2 a b → RR H r H2 a b
section
variable (K : PySem.W.Frag) (W : WX)
abbrev RVE : Rel D V := fun _ r H d v => RV K r H d v
abbrev RVA : Rel (List D) (List V) := fun _ r H d v => RVs K r H d v
abbrev RVT : Rel Bool Bool := fun _ _ _ a b => a = b
/-- a list that was made and that no name has -/
def RVL : Rel (List D) V := fun H0 r H ds v => ∃ a vs, v = .ref a ∧ H0 a = none ∧ a ∉ r ∧ H a = some (.lst vs) ∧ RVs K r H ds vs
def resP {α β : Type} (RR : Rel α β) (r : List Addr) (H : Hp) (t : L2.St) (x : Res α) (Q : β → Hp → Prop) : Prop := match x with
  | .ok a S' => ∀ r' H' b, Ext r H r' H' → RSt K r' H' S' → RR H r' H' a b → Q b H'
  | .exc c S' => ∀ r' H' cls dx, Ext r H r' H' → RSt K r' H' S' → RX K r' H' c cls dx → W cls dx t H'
  | .bad => False
def sresP (r : List Addr) (H : Hp) (x : SRes) (E : Ends) : Prop := match x with
  | .nx env S' => ∀ r' H' t', Ext r H r' H' → RA K r' H' t' env S' → E.nx t' H'
  | .ret d S' => ∀ r' H' v, Ext r H r' H' → RSt K r' H' S' → RV K r' H' d v → E.rt v H'
  | .brk env S' => ∀ r' H' t', Ext r H r' H' → RA K r' H' t' env S' → E.bk t' H'
  | .ct env S' => ∀ r' H' t', Ext r H r' H' → RA K r' H' t' env S' → E.ct t' H'
  | .exc c env S' => ∀ r' H' t' cls dx, Ext r H r' H' → RA K r' H' t' env S' → RX K r' H' c cls dx → W cls dx t' H'
  | .bad => False
def lift {α β : Type} (RR : Rel α β) (f : AEnv → Sto → Res α) (t : L2.St) (H : Hp) (Q : β → Hp → Prop) : Prop :=
  ∃ r env S, RA K r H t env S ∧ resP K W RR r H t (f env S) Q
def liftE (f : EvE) : TE := fun t H Q => lift K W (RVE K) f t H Q
def liftL (f : AEnv → Sto → Res (List D)) : TE := fun t H Q => lift K W (RVL K) f t H Q
def liftT (f : AEnv → Sto → Res Bool) : TT := fun t H Q => lift K W RVT f t H Q
def liftA (f : AEnv → Sto → Res (List D)) : TA := fun t H Q => lift K W (RVA K) f t H Q
def liftS (f : EvS) : TS := fun E t H => ∃ r env S, RA K r H t env S ∧ sresP K W r H (f env S) E
end
theorem anti_E {K : PySem.W.Frag} : Anti (RVE K) := ⟨fun _ _ _ _ _ _ _ h => h⟩
theorem anti_A {K : PySem.W.Frag} : Anti (RVA K) := ⟨fun _ _ _ _ _ _ _ h => h⟩
theorem anti_T : Anti RVT := ⟨fun _ _ _ _ _ _ _ h => h⟩
theorem anti_L {K : PySem.W.Frag} : Anti (RVL K) := ⟨fun _ _ _ _ _ _ k ⟨a, vs, e, n, h⟩ => ⟨a, vs, e, k _ n, h⟩⟩
structure DE (X : Cx) (W : WX) (e : Expr) (f : EvE) : Prop where
  pe : PE X e (liftE X.K W f)
/-- an expression that makes a new list -/
structure DL (X : Cx) (W : WX) (e : Expr) (f : AEnv → Sto → Res (List D)) : Prop where
  pe : PE X e (liftL X.K W f)
structure DT (X : Cx) (W : WX) (e : Expr) (f : AEnv → Sto → Res Bool) : Prop where
  pt : PT X e (liftT X.K W f)
structure DW (X : Cx) (W : WX) (e : Expr) (f : AEnv → Sto → Res Bool) : Prop where
  pw : PW X e (liftT X.K W f)
structure DA (X : Cx) (W : WX) (es : List Expr) (f : AEnv → Sto → Res (List D)) : Prop where
  pa : PA X es (liftA X.K W f)
structure DS (X : Cx) (W : WX) (s : Stmt) (f : EvS) : Prop where
  ps : PS X s (liftS X.K W f)
structure DSs (X : Cx) (W : WX) (s : List Stmt) (f : EvS) : Prop where
  ps : PSs X s (liftS X.K W f)

section
variable {K : PySem.W.Frag} {W : WX} {r r' : List Addr} {H H' : Hp} {S S' : Sto} {t : L2.St} {env : AEnv}
theorem resP.ext {α β : Type} {RR : Rel α β} (an : Anti RR) {x : Res α} {Q : β → Hp → Prop} (h : resP K W RR r H t x Q) (e : Ext r H r' H') : resP K W RR r' H' t x Q := by
  cases x with
  | ok a S' => exact fun r2 H2 b e2 R q => h r2 H2 b (e.trans e2) R (an.up _ _ _ _ _ _ e.fr q)
  | exc c S' => exact fun r2 H2 cls dx e2 R q => h r2 H2 cls dx (e.trans e2) R q
  | bad => exact h
theorem sresP.ext {x : SRes} {E : Ends} (h : sresP K W r H x E) (e : Ext r H r' H') : sresP K W r' H' x E := by
  cases x with
  | nx env S' => exact fun r2 H2 t2 e2 R => h r2 H2 t2 (e.trans e2) R
  | ret d S' => exact fun r2 H2 v e2 R q => h r2 H2 v (e.trans e2) R q
  | brk env S' => exact fun r2 H2 t2 e2 R => h r2 H2 t2 (e.trans e2) R
  | ct env S' => exact fun r2 H2 t2 e2 R => h r2 H2 t2 (e.trans e2) R
  | exc c env S' => exact fun r2 H2 t2 cls dx e2 R q => h r2 H2 t2 cls dx (e.trans e2) R q
  | bad => exact h
/-- one thing behind another -/
theorem lift_bind {α β γ δ : Type} {RR : Rel α β} {RR' : Rel γ δ} (an : Anti RR') {f : AEnv → Sto → Res α} {g : α → AEnv → Sto → Res γ} {Q : δ → Hp → Prop} {Q' : β → Hp → Prop}
    (R : RA K r H t env S) (h : resP K W RR' r H t ((f env S).bind fun a S1 => g a env S1) Q)
    (k : ∀ a S1 r1 H1 b, Ext r H r1 H1 → RA K r1 H1 t env S1 → RR H r1 H1 a b → resP K W RR' r1 H1 t (g a env S1) Q → Q' b H1) : lift K W RR f t H Q' := by
  refine ⟨r, env, S, R, ?_⟩
  cases hx : f env S with
  | ok a S1 =>
    rw [hx] at h
    exact fun r1 H1 b e1 R1 q1 => k a S1 r1 H1 b e1 (R.ext e1 R1) q1 (resP.ext an h e1)
  | exc c S1 => rw [hx] at h; exact h
  | bad => rw [hx] at h; exact h
/-- the last part: its own wish -/
theorem lift_map {α β γ δ : Type} {RR : Rel α β} {RR' : Rel γ δ} {f : AEnv → Sto → Res α} {g : α → AEnv → Sto → Res γ} {Q : δ → Hp → Prop} {Q' : β → Hp → Prop}
    (R : RA K r H t env S) (h : resP K W RR' r H t ((f env S).bind fun a S1 => g a env S1) Q)
    (k : ∀ a S1 r1 H1 b, Ext r H r1 H1 → RA K r1 H1 t env S1 → RR H r1 H1 a b → resP K W RR' r H t (g a env S1) Q → Q' b H1) : lift K W RR f t H Q' := by
  refine ⟨r, env, S, R, ?_⟩
  cases hx : f env S with
  | ok a S1 =>
    rw [hx] at h
    exact fun r1 H1 b e1 R1 q1 => k a S1 r1 H1 b e1 (R.ext e1 R1) q1 h
  | exc c S1 => rw [hx] at h; exact h
  | bad => rw [hx] at h; exact h
@[simp] def sbind {α : Type} (x : Res α) (env : AEnv) (g : α → Sto → SRes) : SRes := match x with
  | .ok a S => g a S
  | .exc c S => .exc c env S
  | .bad => .bad
theorem slift_bind {α β : Type} {RR : Rel α β} {f : AEnv → Sto → Res α} {g : α → Sto → SRes} {E : Ends} {Q' : β → Hp → Prop}
    (R : RA K r H t env S) (h : sresP K W r H (sbind (f env S) env g) E)
    (k : ∀ a S1 r1 H1 b, Ext r H r1 H1 → RA K r1 H1 t env S1 → RR H r1 H1 a b → sresP K W r1 H1 (g a S1) E → Q' b H1) : lift K W RR f t H Q' := by
  refine ⟨r, env, S, R, ?_⟩
  cases hx : f env S with
  | ok a S1 =>
    rw [hx] at h
    exact fun r1 H1 b e1 R1 q1 => k a S1 r1 H1 b e1 (R.ext e1 R1) q1 (sresP.ext h e1)
  | exc c S1 => rw [hx] at h; exact fun r2 H2 cls dx e2 R2 q2 => h r2 H2 t cls dx e2 (R.ext e2 R2) q2
  | bad => rw [hx] at h; exact h
theorem PE.imp {X : Cx} {e : Expr} {t t' : TE} (h : PE X e t) (k : ∀ s H Q, t' s H Q → t s H Q) : PE X e t' := ⟨fun pins s u H Q I q => h.run pins s u H Q I (k _ _ _ q)⟩
theorem PT.imp {X : Cx} {e : Expr} {t t' : TT} (h : PT X e t) (k : ∀ s H Q, t' s H Q → t s H Q) : PT X e t' := ⟨fun pins s u H Q I q => h.run pins s u H Q I (k _ _ _ q)⟩
theorem PW.imp {X : Cx} {e : Expr} {t t' : TT} (h : PW X e t) (k : ∀ s H Q, t' s H Q → t s H Q) : PW X e t' := ⟨fun w pins s u H Q I q => h.run w pins s u H Q I (k _ _ _ q)⟩
theorem PA.imp {X : Cx} {e : List Expr} {t t' : TA} (h : PA X e t) (k : ∀ s H Q, t' s H Q → t s H Q) : PA X e t' := ⟨fun pos pins s u H Q I q => h.run pos pins s u H Q I (k _ _ _ q)⟩
theorem PS.imp {X : Cx} {e : Stmt} {t t' : TS} (h : PS X e t) (k : ∀ E s H, t' E s H → t E s H) : PS X e t' := ⟨fun pins s u H E I q => h.run pins s u H E I (k _ _ _ q)⟩
theorem PSs.imp {X : Cx} {e : List Stmt} {t t' : TS} (h : PSs X e t) (k : ∀ E s H, t' E s H → t E s H) : PSs X e t' := ⟨fun pins s u H E I q => h.run pins s u H E I (k _ _ _ q)⟩
end
end DV
/-! DV2: expressions over D: names, constants, operators, comparisons, tests, displays. -/
namespace DV
open PySem PySem.Spec PyProof.Rows L2

/-- the largest length of a list that is made -/
abbrev LN : Nat := 16777216
theorem LN_line {n : Nat} (h : n ≤ LN) : n ≤ sizeLine := by rw [sizeLine_eq]; exact h
def D.seq? : D → Option (List D)
  | .tup ds => some ds
  | .cst ds => some ds
  | .fup ds => some ds
  | _ => none

section
variable {K : PySem.W.Frag} {W : WX} {r r' : List Addr} {H H' : Hp} {S S' : Sto} {t : L2.St} {env : AEnv}
theorem RV.seq {d : D} {ds : List D} {v : V} (h : RV K r H d v) (e : d.seq? = some ds) : ∃ a vs, v = .ref a ∧ SqT K H a vs ∧ RVs K r H ds vs := by
  cases h with
  | tup h q => simp [D.seq?] at e; subst e; exact ⟨_, _, rfl, .inl (.inl h), q⟩
  | cst h q => simp [D.seq?] at e; subst e; exact ⟨_, _, rfl, h.sq, q⟩
  | fup h hd q => simp [D.seq?] at e; subst e; exact ⟨_, _, rfl, .inl (.inr ⟨_, h⟩), q⟩
  | _ => simp [D.seq?] at e
end

/-! ### names, constants -/
section
variable {X : Cx} {W : WX}
@[simp] def eVar (i : Nat) : EvE := fun env S => match env[i]? with
  | some (some d) => .ok d S
  | _ => .bad
@[simp] def eC (d : D) : EvE := fun _ S => .ok d S
theorem d_pe {e : Expr} {f : EvE} {tt : TE} (h : PE X e tt) (k : ∀ s H Q, liftE X.K W f s H Q → tt s H Q) : DE X W e f := ⟨PE.imp h k⟩
theorem dv (i : Nat) {x : Str} {pos : Pos} (hN : X.N[i]? = some x := by rfl) (hv : Vis X.env.scope x := by first | exact Or.inl rfl | exact Or.inr (Or.inl rfl) | exact Or.inr (Or.inr rfl)) (hd : (x == ("__debug__" : Str)) = false := by decide)
    (hcd : (x == ("__classdict__" : Str)) = false := by decide) : DE X W (.Name x pos) (eVar i) := by
  refine d_pe (pe_var hN hv hd hcd) fun s H Q h => ?_
  obtain ⟨r, env, S, R, q⟩ := h
  simp only [eVar] at q
  split at q
  · rename_i d e
    obtain ⟨v, e1, rv⟩ := R.sl i d e
    exact ⟨v, e1, q r H v (Ext.refl r H) R.st rv⟩
  · exact q.elim
theorem d_c {e : Expr} {v : V} {d : D} (h : PE X e (tC v)) (rv : ∀ r H, RV X.K r H d v) : DE X W e (eC d) :=
  d_pe h fun s H Q ⟨r, env, S, R, q⟩ => q r H v (Ext.refl r H) R.st (rv r H)
theorem d_int {i j pos} : DE X W (.Constant (.int i) j pos) (eC (.int i)) := d_c pe_int fun _ _ => .int i
theorem d_bl {i j pos} : DE X W (.Constant (.bool i) j pos) (eC (.bl i)) := d_c pe_bl fun _ _ => .bl i
theorem d_non {j pos} : DE X W (.Constant .none j pos) (eC .non) := d_c pe_non fun _ _ => .non
theorem d_str {i j pos} : DE X W (.Constant (.str i) j pos) (eC (.str i)) := d_c pe_str fun _ _ => .str i
theorem d_gint {x : Str} {i : Int} {tk : Tok} {pos : Pos} (hg : Gl X x) (hm : X.mg x = some (.int i tk)) (hd : (x == ("__debug__" : Str)) = false := by decide) : DE X W (.Name x pos) (eC (.int i)) :=
  d_c (pe_glob (v := .int i) hg hm ⟨tk, rfl⟩ hd) fun _ _ => .int i
theorem d_gstr {x : Str} {i : Str} {tk : Tok} {pos : Pos} (hg : Gl X x) (hm : X.mg x = some (.str i tk)) (hd : (x == ("__debug__" : Str)) = false := by decide) : DE X W (.Name x pos) (eC (.str i)) :=
  d_c (pe_glob (v := .str i) hg hm ⟨tk, rfl⟩ hd) fun _ _ => .str i
theorem d_gcst {x : Str} {a : Addr} {ns : List Int} {pos : Pos} (hg : Gl X x) (hm : X.mg x = some (.ref a)) (kt : KTup X.K a (ns.map V.int)) (hd : (x == ("__debug__" : Str)) = false := by decide) : DE X W (.Name x pos) (eC (.cst (ns.map D.int))) :=
  d_c (pe_glob (v := .ref a) hg hm rfl hd) fun r H => .cst (.inr (.inr kt)) (RVs.ints ns)

/-! ### operators -/
/-- a result at a heap that has grown by things outside the store -/
def OutD (K : PySem.W.Frag) (r : List Addr) (H : Hp) (S : Sto) (o : Option D) (Q : VK) : Prop := match o with
  | some d => ∀ H' v, Ext r H r H' → RSt K r H' S → RV K r H' d v → Q v H'
  | none => False
def OpD (X : Cx) (f : Value → Value → Sem Value) (g : D → D → Option D) : Prop :=
  OpR X f fun x y H Q => ∃ r S d1 d2, RSt X.K r H S ∧ RV X.K r H d1 x ∧ RV X.K r H d2 y ∧ OutD X.K r H S (g d1 d2) Q
theorem OpR.imp {f : Value → Value → Sem Value} {q q' : R2} (h : OpR X f q) (k : ∀ x y H Q, q' x y H Q → q x y H Q) : OpR X f q' := fun pins s σ H x y v u Q I rx ry z => h pins s σ H x y v u Q I rx ry (k _ _ _ _ z)
theorem CallR.imp {f : Value} {q q' : List V → Hp → VK → Prop} (h : CallR X f q) (k : ∀ x H Q, q' x H Q → q x H Q) : CallR X f q' := fun pins s σ H x v Q I rx z => h pins s σ H x v Q I rx (k _ _ _ z)
@[simp] def ofO (o : Option D) (S : Sto) : Res D := match o with
  | some d => .ok d S
  | none => .bad
@[simp] def eBin (g : D → D → Option D) (fa fb : EvE) : EvE := fun env S => (fa env S).bind fun d1 S1 => (fb env S1).bind fun d2 S2 => ofO (g d1 d2) S2
variable {a b c : Expr} {fa fb fc : EvE} {pos : Pos}
theorem ofO_out {K : PySem.W.Frag} {r : List Addr} {H : Hp} {t : L2.St} {S : Sto} {o : Option D} {Q : VK} (q : resP K W (RVE K) r H t (ofO o S) Q) : OutD K r H S o Q := by
  cases o with
  | none => exact q
  | some d => exact fun H' v e R rv => q r H' v e R rv
theorem bin_lift {s : L2.St} {H : Hp} {Q : VK} {g : D → D → Option D} {rr : V → V → Hp → Prop}
    (h : liftE X.K W (eBin g fa fb) s H Q) (k : ∀ x y H2, (∃ r S d1 d2, RSt X.K r H2 S ∧ RV X.K r H2 d1 x ∧ RV X.K r H2 d2 y ∧ OutD X.K r H2 S (g d1 d2) Q) → rr x y H2) :
    liftE X.K W fa s H fun x H1 => liftE X.K W fb s H1 fun y H2 => rr x y H2 := by
  obtain ⟨r, env, S, R, q⟩ := h
  refine lift_bind (g := fun d1 env S1 => (fb env S1).bind fun d2 S2 => ofO (g d1 d2) S2) anti_E R q fun d1 S1 r1 H1 x e1 R1 rx q1 => ?_
  refine lift_bind (g := fun d2 env S2 => ofO (g d1 d2) S2) anti_E R1 q1 fun d2 S2 r2 H2 y e2 R2 ry q2 => ?_
  exact k x y H2 ⟨r2, S2, d1, d2, R2.st, RV.ext rx R1.st e2, ry, ofO_out q2⟩
theorem d_bin {op : Operator} {g : D → D → Option D} (ho : OpD X (binaryOp op) g) (ha : DE X W a fa) (hb : DE X W b fb) : DE X W (.BinOp a op b pos) (eBin g fa fb) :=
  d_pe (pe_op ho ha.pe hb.pe) fun s H Q h => bin_lift h fun x y H2 q => q
theorem d_cmp {op : CmpOp} {g : D → D → Option D} (ho : OpD X (compareOp op) g) (ha : DE X W a fa) (hb : DE X W b fb) (hm : behindInMarks op b = false) : DE X W (.Compare a [op] [b] pos) (eBin g fa fb) :=
  d_pe (pe_cmpR ho ha.pe hb.pe hm) fun s H Q h => bin_lift h fun x y H2 q => q
@[simp] def isBl (d : D) (S : Sto) : Res Bool := match d with
  | .bl b => .ok b S
  | _ => .bad
@[simp] def tBin (g : D → D → Option D) (fa fb : EvE) : AEnv → Sto → Res Bool := fun env S => (eBin g fa fb env S).bind isBl
theorem isBl_out {K : PySem.W.Frag} {r : List Addr} {H : Hp} {t : L2.St} {S : Sto} {d : D} {x : V} {Q : Bool → Hp → Prop} (q : resP K W RVT r H t (isBl d S) Q) (R : RSt K r H S) (rv : RV K r H d x) : ∃ k, x = .bl k ∧ Q k H := by
  cases rv with
  | bl b => exact ⟨b, rfl, q r H b (Ext.refl r H) R rfl⟩
  | _ => exact q.elim
theorem dt_cmp {op : CmpOp} {g : D → D → Option D} (ho : OpD X (compareOp op) g) (ha : DE X W a fa) (hb : DE X W b fb) (hm : behindInMarks op b = false) : DT X W (.Compare a [op] [b] pos) (tBin g fa fb) := by
  refine ⟨PT.imp (pt_cmpR ho ha.pe hb.pe hm) fun s H Q h => ?_⟩
  obtain ⟨r, env, S, R, q⟩ := h
  have q1 : liftE X.K W (eBin g fa fb) s H fun x H' => ∃ k, x = .bl k ∧ Q k H' :=
    lift_bind (g := fun d env S => isBl d S) anti_T R q fun d S1 r1 H1 x e1 R1 rx q1 => isBl_out q1 R1.st rx
  exact bin_lift q1 fun x y H2 q => q

/-! ### and, or, not, if -/
@[simp] def bAnd (p q : AEnv → Sto → Res Bool) : AEnv → Sto → Res Bool := fun env S => (p env S).bind fun c S1 => if c then q env S1 else .ok false S1
@[simp] def bOr (p q : AEnv → Sto → Res Bool) : AEnv → Sto → Res Bool := fun env S => (p env S).bind fun c S1 => if c then .ok true S1 else q env S1
@[simp] def bNot (p : AEnv → Sto → Res Bool) : AEnv → Sto → Res Bool := fun env S => (p env S).bind fun c S1 => .ok (!c) S1
variable {p q : AEnv → Sto → Res Bool} {rest : List Expr}
theorem dw_and1 (h : DT X W a p) : DW X W (.BoolOp .And [a] pos) p := ⟨pw_and1 h.pt⟩
theorem dw_or1 (h : DT X W a p) : DW X W (.BoolOp .Or [a] pos) p := ⟨pw_or1 h.pt⟩
theorem dw_and (ha : DT X W a p) (hb : DW X W (.BoolOp .And (b :: rest) pos) q) : DW X W (.BoolOp .And (a :: b :: rest) pos) (bAnd p q) := by
  refine ⟨PW.imp (pw_and ha.pt hb.pw) fun s H Q h => ?_⟩
  obtain ⟨r, env, S, R, z⟩ := h
  refine lift_bind (g := fun (c : Bool) env S1 => (if c then q env S1 else Res.ok false S1 : Res Bool)) anti_T R z fun c S1 r1 H1 x e1 R1 rx z1 => ?_
  cases rx
  cases c with
  | true => exact ⟨r1, env, S1, R1, z1⟩
  | false => exact z1 r1 H1 false (Ext.refl r1 H1) R1.st rfl
theorem dw_or (ha : DT X W a p) (hb : DW X W (.BoolOp .Or (b :: rest) pos) q) : DW X W (.BoolOp .Or (a :: b :: rest) pos) (bOr p q) := by
  refine ⟨PW.imp (pw_or ha.pt hb.pw) fun s H Q h => ?_⟩
  obtain ⟨r, env, S, R, z⟩ := h
  refine lift_bind (g := fun (c : Bool) env S1 => (if c then Res.ok true S1 else q env S1 : Res Bool)) anti_T R z fun c S1 r1 H1 x e1 R1 rx z1 => ?_
  cases rx
  cases c with
  | false => exact ⟨r1, env, S1, R1, z1⟩
  | true => exact z1 r1 H1 true (Ext.refl r1 H1) R1.st rfl
theorem dt_w {e : Expr} (h : DW X W e p) : DT X W e p := ⟨h.pw.pt⟩
theorem dt_not (h : DT X W a p) : DT X W (.UnaryOp .Not a pos) (bNot p) := by
  refine ⟨PT.imp (pt_not h.pt) fun s H Q h => ?_⟩
  obtain ⟨r, env, S, R, z⟩ := h
  refine lift_bind (g := fun (c : Bool) env S1 => Res.ok (!c) S1) anti_T R z fun c S1 r1 H1 x e1 R1 rx z1 => ?_
  cases rx
  exact z1 r1 H1 _ (Ext.refl r1 H1) R1.st rfl
/-- the truth of a value -/
def truD : D → Sto → Option Bool
  | .non, _ => some false
  | .bl b, _ => some b
  | .int i, _ => some (i != 0)
  | .tup ds, _ => some (!ds.isEmpty)
  | .cst ds, _ => some (!ds.isEmpty)
  | .fup ds, _ => some (!ds.isEmpty)
  | .str x, _ => if x.length ≤ LN then some ((x.length : Int) != 0) else none
  | .loc n, S => match S[n]? with
    | some (.lst ds) => some (!ds.isEmpty)
    | some (.ro ds) => some (!ds.isEmpty)
    | some (.dK kvs) => some (!kvs.isEmpty)
    | _ => none
theorem isE {K : PySem.W.Frag} {r : List Addr} {H : Hp} {ds : List D} {vs : List V} (h : RVs K r H ds vs) : ds.isEmpty = vs.isEmpty := by cases h <;> rfl
theorem isEk {K : PySem.W.Frag} {r : List Addr} {H : Hp} {κ : Type} {ds : List (κ × D)} {vs : List (κ × V)} (h : PKV K r H ds vs) : ds.isEmpty = vs.isEmpty := by cases h <;> rfl
theorem tru_of {K : PySem.W.Frag} {r : List Addr} {H : Hp} {S : Sto} {d : D} {v : V} {k : Bool} (R : RSt K r H S) (h : RV K r H d v) (e : truD d S = some k) : TruV K v H k := by
  cases h with
  | non => simp [truD] at e; subst e; rfl
  | bl b => simp [truD] at e; subst e; rfl
  | int i => simp [truD] at e; subst e; rfl
  | str x =>
    simp only [truD] at e
    split at e
    · rename_i hl; cases e; exact ⟨LN_line hl, rfl⟩
    · cases e
  | tup h q => simp only [truD, Option.some.injEq] at e; subst e; exact .inr (.inl ⟨_, .inl (.inl h), by rw [isE q]⟩)
  | cst h q => simp only [truD, Option.some.injEq] at e; subst e; exact .inr (.inl ⟨_, h.sq, by rw [isE q]⟩)
  | fup h hd q => simp only [truD, Option.some.injEq] at e; subst e; exact .inr (.inl ⟨_, .inl (.inr ⟨_, h⟩), by rw [isE q]⟩)
  | @loc n a h =>
    simp only [truD] at e
    split at e
    · rename_i ds e2
      obtain ⟨b, e3, vs, e4, q⟩ := R.at_ n _ e2
      rw [h] at e3; cases e3; cases e
      exact .inl ⟨vs, .inl (.inl e4), by rw [isE q]⟩
    · rename_i ds e2
      obtain ⟨b, e3, o, vs, e4, q⟩ := R.at_ n _ e2
      rw [h] at e3; cases e3; cases e
      exact .inl ⟨vs, .inl (.inr ⟨o, e4⟩), by rw [isE q]⟩
    · rename_i ds e2
      obtain ⟨b, e3, vs, e4, q⟩ := R.at_ n _ e2
      rw [h] at e3; cases e3; cases e
      exact .inr (.inr ⟨vs, e4, by rw [isEk q]⟩)
    · cases e
@[simp] def ofB (o : Option Bool) (S : Sto) : Res Bool := match o with
  | some d => .ok d S
  | none => .bad
@[simp] def tTru (f : EvE) : AEnv → Sto → Res Bool := fun env S => (f env S).bind fun d S1 => ofB (truD d S1) S1
theorem dt_tru (h : DE X W a fa) (he : ∀ whole, isTrue a X.env whole = (do let v ← whole; standAt a.pos; holding [v] (truthy v)) := by intro _; rfl) : DT X W a (tTru fa) := by
  refine ⟨PT.imp (pt_truth h.pe he) fun s H Q h => ?_⟩
  obtain ⟨r, env, S, R, z⟩ := h
  refine lift_bind (g := fun d env S1 => ofB (truD d S1) S1) anti_T R z fun d S1 r1 H1 x e1 R1 rx z1 => ?_
  cases ht : truD d S1 with
  | none => rw [ht] at z1; exact z1.elim
  | some k =>
    rw [ht] at z1
    exact ⟨k, tru_of R1.st rx ht, z1 r1 H1 k (Ext.refl r1 H1) R1.st rfl⟩
/-- values of truth -/
@[simp] def eAnd (f g : EvE) : EvE := fun env S => (f env S).bind fun d S1 => (isBl d S1).bind fun c S2 => if c then g env S2 else .ok (.bl false) S2
@[simp] def eOr (f g : EvE) : EvE := fun env S => (f env S).bind fun d S1 => (isBl d S1).bind fun c S2 => if c then .ok (.bl true) S2 else g env S2
@[simp] def eNot (f : EvE) : EvE := fun env S => (f env S).bind fun d S1 => (isBl d S1).bind fun c S2 => .ok (.bl (!c)) S2
theorem d_one {op} (h : DE X W a fa) : DE X W (.BoolOp op [a] pos) fa := ⟨pe_one h.pe⟩
theorem isBl_cases {β : Type} {K : PySem.W.Frag} {RR : Rel β V} {r : List Addr} {H : Hp} {t : L2.St} {S : Sto} {d : D} {x : V} {Q : V → Hp → Prop} {f : Bool → Sto → Res β} (q : resP K W RR r H t ((isBl d S).bind f) Q) (rv : RV K r H d x) : ∃ k, x = .bl k ∧ resP K W RR r H t (f k S) Q := by
  cases rv with
  | bl b => exact ⟨b, rfl, q⟩
  | _ => exact q.elim
theorem d_and (ha : DE X W a fa) (hb : DE X W (.BoolOp .And (b :: rest) pos) fb) : DE X W (.BoolOp .And (a :: b :: rest) pos) (eAnd fa fb) :=
  d_pe (pe_and ha.pe hb.pe) fun s H Q ⟨r, env, S, R, z⟩ => by
    refine lift_bind (g := fun d env S1 => (isBl d S1).bind fun c S2 => (if c then fb env S2 else Res.ok (D.bl false) S2 : Res D)) anti_E R z fun d S1 r1 H1 x e1 R1 rx z1 => ?_
    obtain ⟨k, rfl, z2⟩ := isBl_cases z1 rx
    refine ⟨k, rfl, ?_⟩
    cases k with
    | true => rw [if_pos rfl]; exact ⟨r1, env, S1, R1, z2⟩
    | false => rw [if_neg Bool.false_ne_true]; exact z2 r1 H1 _ (Ext.refl r1 H1) R1.st (.bl false)
theorem d_or (ha : DE X W a fa) (hb : DE X W (.BoolOp .Or (b :: rest) pos) fb) : DE X W (.BoolOp .Or (a :: b :: rest) pos) (eOr fa fb) :=
  d_pe (pe_or ha.pe hb.pe) fun s H Q ⟨r, env, S, R, z⟩ => by
    refine lift_bind (g := fun d env S1 => (isBl d S1).bind fun c S2 => (if c then Res.ok (D.bl true) S2 else fb env S2 : Res D)) anti_E R z fun d S1 r1 H1 x e1 R1 rx z1 => ?_
    obtain ⟨k, rfl, z2⟩ := isBl_cases z1 rx
    refine ⟨k, rfl, ?_⟩
    cases k with
    | false => rw [if_neg Bool.false_ne_true]; exact ⟨r1, env, S1, R1, z2⟩
    | true => rw [if_pos rfl]; exact z2 r1 H1 _ (Ext.refl r1 H1) R1.st (.bl true)
theorem d_not (ha : DE X W a fa) : DE X W (.UnaryOp .Not a pos) (eNot fa) :=
  d_pe (pe_not ha.pe) fun s H Q ⟨r, env, S, R, z⟩ => by
    refine lift_bind (g := fun d env S1 => (isBl d S1).bind fun c S2 => Res.ok (D.bl (!c)) S2) anti_E R z fun d S1 r1 H1 x e1 R1 rx z1 => ?_
    obtain ⟨k, rfl, z2⟩ := isBl_cases z1 rx
    exact ⟨k, rfl, z2 r1 H1 _ (Ext.refl r1 H1) R1.st (.bl _)⟩
@[simp] def eIf (p : AEnv → Sto → Res Bool) (f g : EvE) : EvE := fun env S => (p env S).bind fun c S1 => if c then f env S1 else g env S1
theorem d_if (hc : DT X W c p) (ha : DE X W a fa) (hb : DE X W b fb) : DE X W (.IfExp c a b pos) (eIf p fa fb) :=
  d_pe (pe_ifExp hc.pt ha.pe hb.pe) fun s H Q ⟨r, env, S, R, z⟩ => by
    refine lift_bind (g := fun (c : Bool) env S1 => (if c then fa env S1 else fb env S1 : Res D)) anti_E R z fun d S1 r1 H1 x e1 R1 rx z1 => ?_
    cases rx
    cases d with
    | true => rw [if_pos rfl]; exact ⟨r1, env, S1, R1, z1⟩
    | false => rw [if_neg Bool.false_ne_true]; exact ⟨r1, env, S1, R1, z1⟩

/-! ### lists of arguments, displays -/
@[simp] def aNil : AEnv → Sto → Res (List D) := fun _ S => .ok [] S
@[simp] def aCons (f : EvE) (g : AEnv → Sto → Res (List D)) : AEnv → Sto → Res (List D) := fun env S => (f env S).bind fun d S1 => (g env S1).bind fun ds S2 => .ok (d :: ds) S2
variable {es : List Expr} {e : Expr} {ga : AEnv → Sto → Res (List D)}
theorem da_nil : DA X W [] aNil := ⟨PA.imp pa_nil fun s H Q ⟨r, env, S, R, z⟩ => z r H [] (Ext.refl r H) R.st .nil⟩
theorem da_cons (ha : DE X W e fa) (hr : DA X W es ga) (hs : starEach (e :: es) X.env = (false, eval e X.env) :: starEach es X.env := by rfl) : DA X W (e :: es) (aCons fa ga) :=
  ⟨PA.imp (pa_cons ha.pe hr.pa hs) fun s H Q ⟨r, env, S, R, z⟩ => by
    refine lift_bind (g := fun d env S1 => (ga env S1).bind fun ds S2 => Res.ok (d :: ds) S2) anti_A R z fun d S1 r1 H1 x e1 R1 rx z1 => ?_
    refine lift_bind (g := fun ds env S2 => Res.ok (d :: ds) S2) anti_A R1 z1 fun ds S2 r2 H2 xs e2 R2 rxs z2 => ?_
    exact z2 r2 H2 _ (Ext.refl r2 H2) R2.st (.cons (RV.ext rx R1.st e2) rxs)⟩
@[simp] def eTup (g : AEnv → Sto → Res (List D)) : EvE := fun env S => (g env S).bind fun ds S1 => if ds.length ≤ LN then .ok (.tup ds) S1 else .bad
theorem d_tup {k} (h : DA X W es ga) : DE X W (.Tuple es k pos) (eTup ga) :=
  d_pe (pe_tup h.pa) fun s H Q ⟨r, env, S, R, z⟩ => by
    refine lift_bind (g := fun ds env S1 => (if ds.length ≤ LN then Res.ok (D.tup ds) S1 else Res.bad : Res D)) anti_E R z fun ds S1 r1 H1 xs e1 R1 rxs z1 => ?_
    by_cases hl : ds.length ≤ LN
    · rw [if_pos hl] at z1
      refine ⟨by rw [← rxs.length]; exact LN_line hl, fun p hp => ?_⟩
      obtain ⟨R2, e2⟩ := R1.st.new (o := .tup xs) hp
      exact z1 r1 _ _ e2 R2 (.tup upd_same (RVs.ext rxs R1.st e2))
    · rw [if_neg hl] at z1; exact z1.elim
@[simp] def lDisp (g : AEnv → Sto → Res (List D)) : AEnv → Sto → Res (List D) := fun env S => (g env S).bind fun ds S1 => if ds.length ≤ LN then .ok ds S1 else .bad
theorem dl_pe {e : Expr} {f : AEnv → Sto → Res (List D)} {tt : TE} (h : PE X e tt) (k : ∀ s H Q, liftL X.K W f s H Q → tt s H Q) : DL X W e f := ⟨PE.imp h k⟩
theorem dl_disp (h : DA X W es ga) : DL X W (.List es pos) (lDisp ga) :=
  dl_pe (pe_lst h.pa) fun s H Q ⟨r, env, S, R, z⟩ => by
    refine lift_map (g := fun ds env S1 => (if ds.length ≤ LN then Res.ok ds S1 else Res.bad : Res (List D))) R z fun ds S1 r1 H1 xs e1 R1 rxs z1 => ?_
    by_cases hl : ds.length ≤ LN
    · rw [if_pos hl] at z1
      refine ⟨by rw [← rxs.length]; exact LN_line hl, fun p hp => ?_⟩
      obtain ⟨R2, e2⟩ := R1.st.new (o := .lst xs) hp
      exact z1 r1 _ _ (e1.trans e2) R2 ⟨p, xs, rfl, e1.fr p hp, R1.st.nmem hp, upd_same, RVs.ext rxs R1.st e2⟩
    · rw [if_neg hl] at z1; exact z1.elim
/-- a new list gets its number -/
theorem RSt.adopt {K : PySem.W.Frag} {r : List Addr} {H0 H : Hp} {S : Sto} {a : Addr} {vs : List V} {ds : List D} {r0 : List Addr} (R : RSt K r H S) (x : Ext r0 H0 r H) (h0 : H0 a = none) (na : a ∉ r) (ha : H a = some (.lst vs)) (q : RVs K r H ds vs) :
    RSt K (r ++ [a]) H (S ++ [.lst ds]) ∧ Ext r0 H0 (r ++ [a]) H := by
  have gr : ∀ (n : Nat) b, r[n]? = some b → (r ++ [a])[n]? = some b := fun n b e => by rw [List.getElem?_append_left (List.getElem?_eq_some_iff.mp e).1]; exact e
  refine ⟨⟨by simp [R.len], ?_, fun n u e => ?_⟩, ⟨let ⟨t, e⟩ := x.pre; ⟨t ++ [a], by rw [e, List.append_assoc]⟩, fun b o hb e => ?_, x.fr, x.frz⟩⟩
  · rw [List.nodup_append]
    refine ⟨R.nd, by simp, fun c hc b hb => ?_⟩
    have : b = a := by simpa using hb
    subst this
    intro z; subst z; exact na hc
  · by_cases hn : n < S.length
    · rw [List.getElem?_append_left hn] at e
      obtain ⟨b, e1, q1⟩ := R.at_ n u e
      exact ⟨b, gr n b e1, q1.mono (TGrow.refl _) gr rfl⟩
    · rw [List.getElem?_append_right (by omega)] at e
      have hz : n - S.length = 0 := by
        cases hk : n - S.length with
        | zero => rfl
        | succ k => rw [hk] at e; simp at e
      rw [hz] at e
      have : MO.lst ds = u := by simpa using e
      subst this
      refine ⟨a, ?_, vs, ha, q.mono (TGrow.refl _) gr⟩
      have : n = r.length := by have := R.len; omega
      rw [this]; simp
  · obtain ⟨h1, h2⟩ := x.keep b o hb e
    refine ⟨h1, ?_⟩
    simp only [List.mem_append, List.mem_singleton, not_or]
    exact ⟨h2, fun z => by rw [z, h0] at e; cases e⟩
@[simp] def eMat (g : AEnv → Sto → Res (List D)) : EvE := fun env S => (g env S).bind fun ds S1 => .ok (.loc S1.length) (S1 ++ [.lst ds])
theorem d_mat (h : DL X W e ga) : DE X W e (eMat ga) :=
  d_pe h.pe fun s H Q ⟨r, env, S, R, z⟩ => by
    refine lift_map (g := fun ds env S1 => Res.ok (D.loc S1.length) (S1 ++ [.lst ds])) R z fun ds S1 r1 H1 v e1 R1 rv z1 => ?_
    obtain ⟨a, vs, rfl, h0, na, ha, q⟩ := rv
    obtain ⟨R2, e2⟩ := R1.st.adopt e1 h0 na ha q
    exact z1 _ _ _ e2 R2 (.loc (by rw [← R1.st.len]; simp))
end
end DV
/-! DV3: what the operators do on D. -/
namespace DV
open PySem PySem.Spec PyProof.Rows L2

theorem tuple_mul1 (l : Addr) (items : Array Value) (n : Nat) (dd : Option Addr) (sl : Array (Option Value)) (u : Tok) :
    Meets (Builtin.«tuple.__mul__» ⟨[.ref l, .int 1 u], []⟩) (fun _ R s => s.heap.get? l = some { cls := .type "tuple", dict := dd, data := .seq items n, slots := sl } ∧ R (.ok (.ret (Value.ref l))) s) :=
  .of_wp fun prog w A R s h => by
    obtain ⟨hp, g, d, tk, os⟩ := s
    obtain ⟨hl, h⟩ := h
    have f1 := AutoSeq1.idx_int
    wp_walk using wpAny_loadPart' hl
    repeat (first
      | (refine wpAny_ite_false (by decide) ?_; wp_walk using wpAny_loadPart' hl)
      | (refine wpAny_ite_true (by simp) ?_; wp_walk using wpAny_loadPart' hl)
      | (refine wpAny_ite_true (by decide) ?_; wp_walk using wpAny_loadPart' hl))
    exact ⟨_, rfl, h⟩
section
variable {X : Cx}
def rRep1 (K : PySem.W.Frag) : R2 := fun x y H Q => ∃ l xs, x = .ref l ∧ y = .int 1 ∧ SqT K H l xs ∧ Q (.ref l) H
theorem op_rep1 : OpR X (binaryOp .Mult) (rRep1 X.K) := by
  intro pins s σ H x y v u Q I rx ry h
  obtain ⟨l, xs, rfl, rfl, hT, q⟩ := h
  cases rx
  obtain ⟨t, rfl⟩ := ry
  obtain ⟨its, r, ⟨⟨cls, dd, data, sl⟩, ho, hc, n, hd⟩, hs⟩ := I.tuple hT
  simp only at hc hd
  subst hc hd
  exact wpAny_binaryOp_repeat_ref (T := "tuple") (U := "int") (by decide) ⟨_, ho, rfl⟩ (fun s' => typeIs_int s' 1 t) noFill_tuple_mul F.fills_int_mul F.slot_int_rmul repeat_tuple F.slot_int_index.lookup
    (call_meets F.slot_int_rmul (typeIs_int s 1 t) F.entry_int_rmul (F.args_int_rmul_2 _ _) (int_rmul_tuple 1 t l its.toArray n dd sl)
      ⟨ho, rfl, ⟨_, ho, rfl⟩, call_meets F.slot_tuple_mul ⟨_, ho, rfl⟩ F.entry_tuple_mul (F.args_tuple_mul_2 _ _) (tuple_mul1 l its.toArray n dd sl t) ⟨ho, ⟨.ref l, H, I, rfl, q⟩⟩⟩)

/-! ### + -/
def oAdd : D → D → Option D
  | .int i, .int j => some (.int (i + j))
  | .str a, .str b => if a.length + b.length ≤ LN then some (.str (a ++ b)) else none
  | .tup xs, .tup ys => if xs.length + ys.length ≤ LN then some (.tup (xs ++ ys)) else none
  | .tup xs, .cst ys => if xs.length + ys.length ≤ LN then some (.cst (xs ++ ys)) else none
  | .cst xs, .tup ys => if xs.length + ys.length ≤ LN then some (.cst (xs ++ ys)) else none
  | .cst xs, .cst ys => if xs.length + ys.length ≤ LN then some (.cst (xs ++ ys)) else none
  | _, _ => none
theorem ite_out {K : PySem.W.Frag} {r : List Addr} {H : Hp} {S : Sto} {c : Prop} [Decidable c] {d : D} {Q : VK} (q : OutD K r H S (if c then some d else none) Q) : c ∧ OutD K r H S (some d) Q := by
  by_cases h : c
  · rw [if_pos h] at q; exact ⟨h, q⟩
  · rw [if_neg h] at q; exact q.elim
theorem OutD.now {K : PySem.W.Frag} {r : List Addr} {H : Hp} {S : Sto} {d : D} {v : V} {Q : VK} (q : OutD K r H S (some d) Q) (R : RSt K r H S) (rv : RV K r H d v) : Q v H := q H v (Ext.refl r H) R rv
theorem OutD.new {K : PySem.W.Frag} {r : List Addr} {H : Hp} {S : Sto} {ds : List D} {vs : List V} {p : Addr} {Q : VK} (q : OutD K r H S (some (.tup ds)) Q) (R : RSt K r H S) (rv : RVs K r H ds vs) (hp : H p = none) : Q (.ref p) (upd H p (.tup vs)) := by
  obtain ⟨R2, e2⟩ := R.new (o := .tup vs) hp
  exact q _ _ e2 R2 (.tup upd_same (RVs.ext rv R e2))
theorem OutD.newC {K : PySem.W.Frag} {r : List Addr} {H : Hp} {S : Sto} {ds : List D} {vs : List V} {p : Addr} {Q : VK} (q : OutD K r H S (some (.cst ds)) Q) (R : RSt K r H S) (rv : RVs K r H ds vs) (hp : H p = none) : Q (.ref p) (upd H p (.tup vs)) := by
  obtain ⟨R2, e2⟩ := R.new (o := .tup vs) hp
  exact q _ _ e2 R2 (.cst (.inl upd_same) (RVs.ext rv R e2))
theorem RVs.nil_iff {K : PySem.W.Frag} {r : List Addr} {H : Hp} {ds : List D} {vs : List V} (h : RVs K r H ds vs) : vs = [] ↔ ds = [] := by
  cases h <;> simp
theorem sq_or {K : PySem.W.Frag} {H : Hp} {a : Addr} {vs : List V} (h : TupR K H a vs) : SqT K H a vs := h.sq
theorem catC {K : PySem.W.Frag} {r : List Addr} {H : Hp} {S : Sto} {a b : Addr} {xs ys : List D} {vs us : List V} {Q : VK} (R : RSt K r H S) (ha : TupR K H a vs) (hb : TupR K H b us)
    (q1 : RVs K r H xs vs) (q2 : RVs K r H ys us) (q : OutD K r H S (if xs.length + ys.length ≤ LN then some (.cst (xs ++ ys)) else none) Q) : rCatA K (.ref a) (.ref b) H Q := by
  obtain ⟨hl, q⟩ := ite_out q
  have n1 := q1.nil_iff
  have n2 := q2.nil_iff
  refine ⟨a, b, vs, us, rfl, rfl, sq_or ha, sq_or hb, by rw [← q1.length, ← q2.length]; exact LN_line hl, fun e => ?_, fun e e' => ?_, fun e e' p hp => ?_⟩
  · have e1 := n1.mp e
    subst e1
    exact q.now R (.cst hb q2)
  · have e1 := n2.mp e'
    subst e1
    rw [List.append_nil] at q
    exact q.now R (.cst ha q1)
  · exact q.newC R (RVs.append q1 q2) hp
theorem o_add : OpD X (binaryOp .Add) oAdd := by
  refine OpR.imp (op_add.or (op_add_str.or op_catA)) fun x y H Q h => ?_
  obtain ⟨r, S, d1, d2, R, r1, r2, q⟩ := h
  cases r1 with
  | int i =>
    cases r2 with
    | int j => exact .inl ⟨i, j, rfl, rfl, q.now R (.int _)⟩
    | _ => exact q.elim
  | str i =>
    cases r2 with
    | str j =>
      obtain ⟨hl, q⟩ := ite_out q
      exact .inr (.inl ⟨i, j, rfl, rfl, LN_line hl, q.now R (.str _)⟩)
    | _ => exact q.elim
  | tup ha q1 =>
    cases r2 with
    | tup hb q2 =>
      obtain ⟨hl, q⟩ := ite_out q
      have n1 := q1.nil_iff
      have n2 := q2.nil_iff
      refine .inr (.inr ⟨_, _, _, _, rfl, rfl, sq_or (.inl ha), sq_or (.inl hb), by rw [← q1.length, ← q2.length]; exact LN_line hl, fun e => ?_, fun e e' => ?_, fun e e' p hp => ?_⟩)
      · have e1 := n1.mp e
        subst e1
        exact q.now R (.tup hb q2)
      · have e1 := n2.mp e'
        subst e1
        rw [List.append_nil] at q
        exact q.now R (.tup ha q1)
      · exact q.new R (RVs.append q1 q2) hp
    | cst hb q2 => exact .inr (.inr (catC R (.inl ha) hb q1 q2 q))
    | _ => exact q.elim
  | cst ha q1 =>
    cases r2 with
    | tup hb q2 => exact .inr (.inr (catC R ha (.inl hb) q1 q2 q))
    | cst hb q2 => exact .inr (.inr (catC R ha hb q1 q2 q))
    | _ => exact q.elim
  | _ => exact q.elim
/-! ### -, *, //, %, ** -/
def oSub : D → D → Option D
  | .int i, .int j => some (.int (i - j))
  | _, _ => none
def oMul : D → D → Option D
  | .int i, .int j => if i.natAbs.log2 + j.natAbs.log2 < 1000000 then some (.int (i * j)) else none
  | .tup xs, .int k => if xs ≠ [] ∧ 1 ≤ k ∧ k ≤ 1000 ∧ xs.length ≤ 1000 then some (.tup (List.replicate k.toNat xs).flatten) else none
  | .cst xs, .int k => if xs ≠ [] ∧ 1 ≤ k ∧ k ≤ 1000 ∧ xs.length ≤ 1000 then some (.cst (List.replicate k.toNat xs).flatten) else none
  | _, _ => none
def oDiv : D → D → Option D
  | .int i, .int j => if 0 < j ∧ j.natAbs.log2 < 9000 then some (.int (i / j)) else none
  | _, _ => none
def oMod : D → D → Option D
  | .int i, .int j => if 0 < j then some (.int (i % j)) else none
  | _, _ => none
def oPow : D → D → Option D
  | .int i, .int j => if 0 ≤ j ∧ j ≤ 1000000 ∧ i.natAbs < 2 ^ 64 then some (.int (i ^ j.toNat)) else none
  | _, _ => none
theorem o_sub : OpD X (binaryOp .Sub) oSub := by
  refine OpR.imp op_sub fun x y H Q h => ?_
  obtain ⟨r, S, d1, d2, R, r1, r2, q⟩ := h
  cases r1 with
  | int i =>
    cases r2 with
    | int j => exact ⟨i, j, rfl, rfl, q.now R (.int _)⟩
    | _ => exact q.elim
  | _ => exact q.elim
theorem RVs.rep {K : PySem.W.Frag} {r : List Addr} {H : Hp} {ds : List D} {vs : List V} (h : RVs K r H ds vs) : ∀ k : Nat, RVs K r H (List.replicate k ds).flatten (List.replicate k vs).flatten
  | 0 => .nil
  | k + 1 => by rw [List.replicate_succ, List.replicate_succ, List.flatten_cons, List.flatten_cons]; exact RVs.append h (RVs.rep h k)
theorem rep_one {α : Type} (l : List α) : (List.replicate (1 : Int).toNat l).flatten = l := by
  show (List.replicate 1 l).flatten = l
  simp
theorem o_mul : OpD X (binaryOp .Mult) oMul := by
  refine OpR.imp (op_mulW.or (op_repT.or op_rep1)) fun x y H Q h => ?_
  obtain ⟨r, S, d1, d2, R, r1, r2, q⟩ := h
  cases r1 with
  | int i =>
    cases r2 with
    | int j => obtain ⟨hl, q⟩ := ite_out q; exact .inl ⟨i, j, rfl, rfl, hl, q.now R (.int _)⟩
    | _ => exact q.elim
  | tup ha q1 =>
    cases r2 with
    | int k =>
      obtain ⟨⟨h0, h1, h2, h3⟩, q⟩ := ite_out q
      by_cases hk : k = 1
      · subst hk
        rw [rep_one] at q
        exact .inr (.inr ⟨_, _, rfl, rfl, sq_or (.inl ha), q.now R (.tup ha q1)⟩)
      · exact .inr (.inl ⟨_, k, _, rfl, rfl, sq_or (.inl ha), fun z => h0 (q1.nil_iff.mp z), by omega, h2, by rw [← q1.length]; exact h3, fun p hp => q.new R (RVs.rep q1 _) hp⟩)
    | _ => exact q.elim
  | cst ha q1 =>
    cases r2 with
    | int k =>
      obtain ⟨⟨h0, h1, h2, h3⟩, q⟩ := ite_out q
      by_cases hk : k = 1
      · subst hk
        rw [rep_one] at q
        exact .inr (.inr ⟨_, _, rfl, rfl, sq_or ha, q.now R (.cst ha q1)⟩)
      · exact .inr (.inl ⟨_, k, _, rfl, rfl, sq_or ha, fun z => h0 (q1.nil_iff.mp z), by omega, h2, by rw [← q1.length]; exact h3, fun p hp => q.newC R (RVs.rep q1 _) hp⟩)
    | _ => exact q.elim
  | _ => exact q.elim
theorem o_div : OpD X (binaryOp .FloorDiv) oDiv := by
  refine OpR.imp op_fdivW fun x y H Q h => ?_
  obtain ⟨r, S, d1, d2, R, r1, r2, q⟩ := h
  cases r1 with
  | int i =>
    cases r2 with
    | int j => obtain ⟨hl, q⟩ := ite_out q; exact ⟨i, j, rfl, rfl, hl, q.now R (.int _)⟩
    | _ => exact q.elim
  | _ => exact q.elim
theorem o_mod : OpD X (binaryOp .Mod) oMod := by
  refine OpR.imp op_mod fun x y H Q h => ?_
  obtain ⟨r, S, d1, d2, R, r1, r2, q⟩ := h
  cases r1 with
  | int i =>
    cases r2 with
    | int j => obtain ⟨hl, q⟩ := ite_out q; exact ⟨i, j, rfl, rfl, hl, q.now R (.int _)⟩
    | _ => exact q.elim
  | _ => exact q.elim
theorem o_pow : OpD X (binaryOp .Pow) oPow := by
  refine OpR.imp op_pow fun x y H Q h => ?_
  obtain ⟨r, S, d1, d2, R, r1, r2, q⟩ := h
  cases r1 with
  | int i =>
    cases r2 with
    | int j => obtain ⟨hl, q⟩ := ite_out q; exact ⟨i, j, rfl, rfl, hl, q.now R (.int _)⟩
    | _ => exact q.elim
  | _ => exact q.elim
/-! ### comparisons -/
mutual
/-- the data that a value reads as -/
def D.py : D → Option PyData
  | .non => some .none
  | .bl b => some (.bool b)
  | .int i => some (.int i)
  | .str x => some (.str x)
  | .tup ds => (pys ds).map .tuple
  | .cst ds => (pys ds).map .tuple
  | .fup ds => (pys ds).map .tuple
  | .loc _ => none
def pys : List D → Option (List PyData)
  | [] => some []
  | d :: ds => match D.py d, pys ds with
    | some x, some xs => some (x :: xs)
    | _, _ => none
end
section
variable {K : PySem.W.Frag} {r : List Addr} {H : Hp}
mutual
theorem RV.dp : ∀ {d : D} {v : V} {p : PyData}, RV K r H d v → d.py = some p → Dp K H v p
  | _, _, _, .non, e => by simp [D.py] at e; subst e; exact .non
  | _, _, _, .bl b, e => by simp [D.py] at e; subst e; exact .bl b
  | _, _, _, .int i, e => by simp [D.py] at e; subst e; exact .int i
  | _, _, _, .str x, e => by simp [D.py] at e; subst e; exact .str x
  | .tup ds, _, _, .tup h q, e => by
    cases hp : pys ds with
    | none => simp [D.py, hp] at e
    | some ps => simp [D.py, hp] at e; subst e; exact .tup (sq_or (.inl h)) (RVs.dp q hp)
  | .cst ds, _, _, .cst h q, e => by
    cases hp : pys ds with
    | none => simp [D.py, hp] at e
    | some ps => simp [D.py, hp] at e; subst e; exact .tup (sq_or h) (RVs.dp q hp)
  | .fup ds, _, _, .fup h _ q, e => by
    cases hp : pys ds with
    | none => simp [D.py, hp] at e
    | some ps => simp [D.py, hp] at e; subst e; exact .tup (sq_or (.inr (.inl ⟨_, h⟩))) (RVs.dp q hp)
  | _, _, _, .loc _, e => by simp [D.py] at e
theorem RVs.dp : ∀ {ds : List D} {vs : List V} {ps : List PyData}, RVs K r H ds vs → pys ds = some ps → DpAll K H vs ps
  | _, _, _, .nil, e => by simp [pys] at e; subst e; exact .nil
  | d :: ds, _, _, .cons h q, e => by
    cases h1 : D.py d with
    | none => simp [pys, h1] at e
    | some x =>
      cases h2 : pys ds with
      | none => simp [pys, h1, h2] at e
      | some xs => simp [pys, h1, h2] at e; subst e; exact .cons (RV.dp h h1) (RVs.dp q h2)
end
end
/-- == of data -/
def cEqG (a b : D) : Option Bool := match a.py, b.py with
  | some x, some y => if SeqAt.shaped x = true ∧ SeqAt.shaped y = true then some (PyData.eqv x y) else none
  | _, _ => none
def cEq : D → D → Option Bool
  | .int i, .int j => some (decide (i = j))
  | .str i, .str j => some (decide (i = j))
  | .bl i, .bl j => some (decide (i = j))
  | a, b => cEqG a b
@[simp] def oBl (f : D → D → Option Bool) : D → D → Option D := fun a b => (f a b).map .bl
@[simp] def oBn (f : D → D → Option Bool) : D → D → Option D := fun a b => (f a b).map fun k => .bl (!k)
theorem cEqG_some {a b : D} {k : Bool} (h : cEqG a b = some k) : ∃ x y, a.py = some x ∧ b.py = some y ∧ SeqAt.shaped x = true ∧ SeqAt.shaped y = true ∧ k = PyData.eqv x y := by
  unfold cEqG at h
  split at h
  · rename_i x y e1 e2
    split at h
    · rename_i hs; cases h; exact ⟨x, y, e1, e2, hs.1, hs.2, rfl⟩
    · cases h
  · cases h
theorem eq_out {K : PySem.W.Frag} {r : List Addr} {H : Hp} {d1 d2 : D} {x y : V} {k : Bool} (r1 : RV K r H d1 x) (r2 : RV K r H d2 y) (e : cEq d1 d2 = some k) :
    (scal x y = true ∧ k = decide (x = y)) ∨ ∃ p q, Dp K H x p ∧ Dp K H y q ∧ SeqAt.shaped p = true ∧ SeqAt.shaped q = true ∧ k = PyData.eqv p q := by
  have gen : cEqG d1 d2 = some k → ∃ p q, Dp K H x p ∧ Dp K H y q ∧ SeqAt.shaped p = true ∧ SeqAt.shaped q = true ∧ k = PyData.eqv p q := fun h => by
    obtain ⟨p, q, e1, e2, h1, h2, h3⟩ := cEqG_some h
    exact ⟨p, q, r1.dp e1, r2.dp e2, h1, h2, h3⟩
  unfold cEq at e
  split at e
  · cases r1; cases r2; cases e; refine .inl ⟨rfl, ?_⟩; simp
  · cases r1; cases r2; cases e; refine .inl ⟨rfl, ?_⟩; simp
  · cases r1; cases r2; cases e; refine .inl ⟨rfl, ?_⟩; simp
  · exact .inr (gen e)
theorem o_eq (hu : X.A.units + 64 < cLine) : OpD X (compareOp .Eq) (oBl cEq) := by
  refine OpR.imp (op_eq.or (op_eqD hu)) fun x y H Q h => ?_
  obtain ⟨r, S, d1, d2, R, r1, r2, q⟩ := h
  cases hc : cEq d1 d2 with
  | none => simp only [oBl, hc] at q; exact q.elim
  | some k =>
    simp only [oBl, hc] at q
    have qk : Q (.bl k) H := OutD.now q R (.bl k)
    rcases eq_out r1 r2 hc with ⟨h1, h2⟩ | ⟨p, p', h1, h2, h3, h4, h5⟩
    · exact .inl ⟨h1, by rw [← h2]; exact qk⟩
    · exact .inr ⟨p, p', h1, h2, h3, h4, by rw [← h5]; exact qk⟩
theorem o_ne (hu : X.A.units + 64 < cLine) : OpD X (compareOp .NotEq) (oBn cEq) := by
  refine OpR.imp (op_ne.or (op_neD hu)) fun x y H Q h => ?_
  obtain ⟨r, S, d1, d2, R, r1, r2, q⟩ := h
  cases hc : cEq d1 d2 with
  | none => simp only [oBn, hc] at q; exact q.elim
  | some k =>
    simp only [oBn, hc] at q
    have qk : Q (.bl (!k)) H := OutD.now q R (.bl _)
    rcases eq_out r1 r2 hc with ⟨h1, h2⟩ | ⟨p, p', h1, h2, h3, h4, h5⟩
    · exact .inl ⟨h1, by rw [← h2]; exact qk⟩
    · exact .inr ⟨p, p', h1, h2, h3, h4, by rw [← h5]; exact qk⟩
/-- ints alone -/
def ints? : List D → Option (List Int)
  | [] => some []
  | .int i :: ds => (ints? ds).map (i :: ·)
  | _ => none
theorem ints?_eq : ∀ {ds : List D} {ns : List Int}, ints? ds = some ns → ds = ns.map .int
  | [], ns, h => by simp [ints?] at h; subst h; rfl
  | .int i :: ds, ns, h => by
    cases hr : ints? ds with
    | none => simp [ints?, hr] at h
    | some ms => simp [ints?, hr] at h; subst h; rw [ints?_eq hr]; rfl
@[simp] theorem ints?_map : ∀ ns : List Int, ints? (ns.map D.int) = some ns
  | [] => rfl
  | n :: ns => by simp [ints?, ints?_map ns]
/-- <= of lists of ints -/
def lexLe : List Int → List Int → Bool
  | [], _ => true
  | _ :: _, [] => false
  | x :: xs, y :: ys => if x = y then lexLe xs ys else decide (x < y)
def two? (a b : D) : Option (List Int × List Int) := match a.seq?, b.seq? with
  | some xs, some ys => match ints? xs, ints? ys with
    | some ns, some ms => some (ns, ms)
    | _, _ => none
  | _, _ => none
theorem two?_some {K : PySem.W.Frag} {r : List Addr} {H : Hp} {a b : D} {x y : V} {ns ms : List Int} (r1 : RV K r H a x) (r2 : RV K r H b y) (h : two? a b = some (ns, ms)) :
    ∃ p q, x = .ref p ∧ y = .ref q ∧ SqT K H p (ns.map V.int) ∧ SqT K H q (ms.map V.int) := by
  unfold two? at h
  split at h
  · rename_i xs ys e1 e2
    split at h
    · rename_i n m e3 e4
      cases h
      obtain ⟨p, vs, rfl, s1, q1⟩ := r1.seq e1
      obtain ⟨q, us, rfl, s2, q2⟩ := r2.seq e2
      rw [ints?_eq e3] at q1
      rw [ints?_eq e4] at q2
      rw [RVs.ints_inv q1] at s1
      rw [RVs.ints_inv q2] at s2
      exact ⟨p, q, rfl, rfl, s1, s2⟩
    · cases h
  · cases h
def cLt : D → D → Option Bool
  | .int i, .int j => some (decide (i < j))
  | a, b => (two? a b).map fun p => HT.lexLt p.1 p.2
def cLe : D → D → Option Bool
  | .int i, .int j => some (decide (i ≤ j))
  | a, b => (two? a b).map fun p => lexLe p.1 p.2
def cGt : D → D → Option Bool
  | .int i, .int j => some (decide (j < i))
  | _, _ => none
def cGe : D → D → Option Bool
  | .int i, .int j => some (decide (j ≤ i))
  | _, _ => none
theorem lexAt_shift (e r : Nat → Bool) (z : Bool) : ∀ (k i : Nat), Ob.lexAt e r z (i + 1) k = Ob.lexAt (fun j => e (j + 1)) (fun j => r (j + 1)) z i k
  | 0, _ => rfl
  | k + 1, i => by rw [Ob.lexAt_succ, Ob.lexAt_succ, lexAt_shift e r z k (i + 1)]
theorem lexAt_le : ∀ (ns ms : List Int), Ob.lexAt (fun j => decide (ns.getD j 0 = ms.getD j 0)) (fun j => decide (ns.getD j 0 ≤ ms.getD j 0)) (decide (ns.length ≤ ms.length)) 0 (min ns.length ms.length) = lexLe ns ms
  | [], ms => by simp [Ob.lexAt, lexLe]
  | n :: ns, [] => by simp [Ob.lexAt, lexLe]
  | n :: ns, m :: ms => by
    have hm : min (n :: ns).length (m :: ms).length = min ns.length ms.length + 1 := by simp only [List.length_cons]; omega
    rw [hm, Ob.lexAt_succ, lexAt_shift]
    have ih := lexAt_le ns ms
    simp only [List.length_cons, List.getD_cons_succ, List.getD_cons_zero, Nat.add_le_add_iff_right, lexLe]
    by_cases h : n = m
    · simp only [h, decide_true, if_true]; exact ih
    · rw [if_neg (by simpa using h), if_neg h]
      by_cases h2 : n < m
      · rw [decide_eq_true h2, decide_eq_true (by omega)]
      · rw [decide_eq_false h2, decide_eq_false (by omega)]
theorem o_lt (hu : X.A.units < cLine) : OpD X (compareOp .Lt) (oBl cLt) := by
  refine OpR.imp (op_lt.or (op_ltT hu)) fun x y H Q h => ?_
  obtain ⟨r, S, d1, d2, R, r1, r2, q⟩ := h
  cases hc : cLt d1 d2 with
  | none => simp only [oBl, hc] at q; exact q.elim
  | some k =>
    simp only [oBl, hc] at q
    have qk : Q (.bl k) H := OutD.now q R (.bl k)
    unfold cLt at hc
    split at hc
    · cases r1; cases r2; cases hc; exact .inl ⟨_, _, rfl, rfl, qk⟩
    · cases h2 : two? d1 d2 with
      | none => rw [h2] at hc; cases hc
      | some p =>
        rw [h2] at hc
        cases hc
        obtain ⟨a, b, rfl, rfl, s1, s2⟩ := two?_some r1 r2 h2
        exact .inr ⟨a, b, p.1, p.2, rfl, rfl, s1, s2, qk⟩
theorem o_le (hu : X.A.units < cLine) : OpD X (compareOp .LtE) (oBl cLe) := by
  refine OpR.imp (op_le.or (op_leT hu)) fun x y H Q h => ?_
  obtain ⟨r, S, d1, d2, R, r1, r2, q⟩ := h
  cases hc : cLe d1 d2 with
  | none => simp only [oBl, hc] at q; exact q.elim
  | some k =>
    simp only [oBl, hc] at q
    have qk : Q (.bl k) H := OutD.now q R (.bl k)
    unfold cLe at hc
    split at hc
    · cases r1; cases r2; cases hc; exact .inl ⟨_, _, rfl, rfl, qk⟩
    · cases h2 : two? d1 d2 with
      | none => rw [h2] at hc; cases hc
      | some p =>
        rw [h2] at hc
        cases hc
        obtain ⟨a, b, rfl, rfl, s1, s2⟩ := two?_some r1 r2 h2
        exact .inr ⟨a, b, p.1, p.2, rfl, rfl, s1, s2, by rw [lexAt_le]; exact qk⟩
theorem o_gt : OpD X (compareOp .Gt) (oBl cGt) := by
  refine OpR.imp op_gt fun x y H Q h => ?_
  obtain ⟨r, S, d1, d2, R, r1, r2, q⟩ := h
  cases r1 with
  | int i =>
    cases r2 with
    | int j => exact ⟨i, j, rfl, rfl, OutD.now q R (.bl _)⟩
    | _ => exact q.elim
  | _ => exact q.elim
theorem o_ge : OpD X (compareOp .GtE) (oBl cGe) := by
  refine OpR.imp op_ge fun x y H Q h => ?_
  obtain ⟨r, S, d1, d2, R, r1, r2, q⟩ := h
  cases r1 with
  | int i =>
    cases r2 with
    | int j => exact ⟨i, j, rfl, rfl, OutD.now q R (.bl _)⟩
    | _ => exact q.elim
  | _ => exact q.elim
def cIsN : D → D → Option Bool
  | .non, .non => some true
  | _, .non => some false
  | _, _ => none
theorem o_isN : OpD X (compareOp .Is) (oBl cIsN) := by
  refine OpR.imp op_isN fun x y H Q h => ?_
  obtain ⟨r, S, d1, d2, R, r1, r2, q⟩ := h
  cases r2 with
  | non =>
    refine ⟨rfl, ?_⟩
    cases r1 <;> exact OutD.now q R (.bl _)
  | _ => cases r1 <;> exact q.elim
theorem o_notN : OpD X (compareOp .IsNot) (oBn cIsN) := by
  refine OpR.imp op_notN fun x y H Q h => ?_
  obtain ⟨r, S, d1, d2, R, r1, r2, q⟩ := h
  cases r2 with
  | non =>
    refine ⟨rfl, ?_⟩
    cases r1 <;> exact OutD.now q R (.bl _)
  | _ => cases r1 <;> exact q.elim
/-! ### one place -/
def UnD (X : Cx) (f : Value → Sem Value) (g : D → Option D) : Prop :=
  UnR X f fun x H Q => ∃ r S d, RSt X.K r H S ∧ RV X.K r H d x ∧ OutD X.K r H S (g d) Q
theorem UnR.imp {f : Value → Sem Value} {q q' : V → Hp → VK → Prop} (h : UnR X f q) (k : ∀ x H Q, q' x H Q → q x H Q) : UnR X f q' := fun pins s σ H x v Q I rx z => h pins s σ H x v Q I rx (k _ _ _ z)
@[simp] def eUn (g : D → Option D) (f : EvE) : EvE := fun env S => (f env S).bind fun d S1 => ofO (g d) S1
variable {W : WX} {a b c : Expr} {fa fb fc : EvE} {pos : Pos}
theorem d_un {op : UnaryOp} {g : D → Option D} (ho : UnD X (unaryOp op) g) (ha : DE X W a fa) : DE X W (.UnaryOp op a pos) (eUn g fa) :=
  d_pe (pe_un ho ha.pe) fun s H Q ⟨r, env, S, R, z⟩ => by
    refine lift_bind (g := fun d env S1 => ofO (g d) S1) anti_E R z fun d S1 r1 H1 x e1 R1 rx z1 => ?_
    exact ⟨r1, S1, d, R1.st, rx, ofO_out z1⟩
def oNeg : D → Option D
  | .int i => some (.int (-i))
  | _ => none
theorem o_neg : UnD X (unaryOp .USub) oNeg := by
  refine UnR.imp un_neg fun x H Q h => ?_
  obtain ⟨r, S, d, R, r1, q⟩ := h
  cases r1 with
  | int i => exact ⟨i, rfl, q.now R (.int _)⟩
  | _ => exact q.elim
/-! ### a op b op c -/
@[simp] def eChain (g g' : D → D → Option D) (fa fb fc : EvE) : EvE := fun env S => (fa env S).bind fun d1 S1 => (fb env S1).bind fun d2 S2 => (ofO (g d1 d2) S2).bind fun d3 S3 => (isBl d3 S3).bind fun k S4 =>
  if k then (fc env S4).bind fun d4 S5 => ofO (g' d2 d4) S5 else .ok (.bl false) S4
@[simp] def tCh (g g' : D → D → Option D) (fa fb fc : EvE) : AEnv → Sto → Res Bool := fun env S => (eChain g g' fa fb fc env S).bind isBl
theorem chain_lift {op op' : CmpOp} {g g' : D → D → Option D} {q q' : R2} {s : L2.St} {H : Hp} {Q : VK} (hq : ∀ x y H Q, (∃ r S d1 d2, RSt X.K r H S ∧ RV X.K r H d1 x ∧ RV X.K r H d2 y ∧ OutD X.K r H S (g d1 d2) Q) → q x y H Q)
    (hq' : ∀ x y H Q, (∃ r S d1 d2, RSt X.K r H S ∧ RV X.K r H d1 x ∧ RV X.K r H d2 y ∧ OutD X.K r H S (g' d1 d2) Q) → q' x y H Q)
    (h : liftE X.K W (eChain g g' fa fb fc) s H Q) : tChain q q' (liftE X.K W fa) (liftE X.K W fb) (liftE X.K W fc) s H Q := by
  obtain ⟨r, env, S, R, z⟩ := h
  refine lift_bind (g := fun d1 env S1 => (fb env S1).bind fun d2 S2 => (ofO (g d1 d2) S2).bind fun d3 S3 => (isBl d3 S3).bind fun (k : Bool) S4 =>
    (if k then (fc env S4).bind fun d4 S5 => ofO (g' d2 d4) S5 else Res.ok (D.bl false) S4 : Res D)) anti_E R z fun d1 S1 r1 H1 x e1 R1 rx z1 => ?_
  refine lift_bind (g := fun d2 env S2 => (ofO (g d1 d2) S2).bind fun d3 S3 => (isBl d3 S3).bind fun (k : Bool) S4 =>
    (if k then (fc env S4).bind fun d4 S5 => ofO (g' d2 d4) S5 else Res.ok (D.bl false) S4 : Res D)) anti_E R1 z1 fun d2 S2 r2 H2 y e2 R2 ry z2 => ?_
  refine hq x y H2 _ ⟨r2, S2, d1, d2, R2.st, RV.ext rx R1.st e2, ry, ?_⟩
  cases hg : g d1 d2 with
  | none => rw [hg] at z2; exact z2.elim
  | some d3 =>
    rw [hg] at z2
    intro H3 z3 e3 R3 rz
    have z2' : resP X.K W (RVE X.K) r2 H3 s ((isBl d3 S2).bind fun (k : Bool) S4 => (if k then (fc env S4).bind fun d4 S5 => ofO (g' d2 d4) S5 else Res.ok (D.bl false) S4 : Res D)) Q := resP.ext anti_E z2 e3
    obtain ⟨k, rfl, z4⟩ := isBl_cases z2' rz
    refine ⟨k, rfl, ?_⟩
    cases k with
    | false => rw [if_neg Bool.false_ne_true]; exact z4 r2 H3 _ (Ext.refl r2 H3) R3 (.bl false)
    | true =>
      rw [if_pos rfl]
      refine lift_bind (g := fun d4 env S5 => ofO (g' d2 d4) S5) anti_E (R2.ext e3 R3) z4 fun d4 S5 r5 H5 w e5 R5 rw' z5 => ?_
      exact hq' y w H5 Q ⟨r5, S5, d2, d4, R5.st, RV.ext (RV.ext ry R2.st e3) R3 e5, rw', ofO_out z5⟩
theorem d_chain {op op' : CmpOp} {g g' : D → D → Option D} (ho : OpD X (compareOp op) g) (ho' : OpD X (compareOp op') g') (ha : DE X W a fa) (hb : DE X W b fb) (hc : DE X W c fc)
    (hm : lastMarks [op, op'] [b, c] = false := by with_unfolding_all rfl) : DE X W (.Compare a [op, op'] [b, c] pos) (eChain g g' fa fb fc) :=
  d_pe (pe_chain ho ho' ha.pe hb.pe hc.pe hm) fun s H Q h => chain_lift (op := op) (op' := op') (fun _ _ _ _ z => z) (fun _ _ _ _ z => z) h
theorem dt_chain {op op' : CmpOp} {g g' : D → D → Option D} (ho : OpD X (compareOp op) g) (ho' : OpD X (compareOp op') g') (ha : DE X W a fa) (hb : DE X W b fb) (hc : DE X W c fc)
    (hm : lastMarks [op, op'] [b, c] = false := by with_unfolding_all rfl) : DT X W (.Compare a [op, op'] [b, c] pos) (tCh g g' fa fb fc) := by
  refine ⟨PT.imp (pt_chain ho ho' ha.pe hb.pe hc.pe hm) fun s H Q h => ?_⟩
  obtain ⟨r, env, S, R, q⟩ := h
  have q1 : liftE X.K W (eChain g g' fa fb fc) s H fun x H' => ∃ k, x = .bl k ∧ Q k H' :=
    lift_bind (g := fun d env S => isBl d S) anti_T R q fun d S1 r1 H1 x e1 R1 rx q1 => isBl_out q1 R1.st rx
  exact chain_lift (op := op) (op' := op') (fun _ _ _ _ z => z) (fun _ _ _ _ z => z) q1
end
end DV
/-! DV4: subscripts, slices, dicts, methods, built-in functions over D. -/
namespace DV
open PySem PySem.Spec PyProof.Rows L2

section
variable {X : Cx} {W : WX} {a b c e : Expr} {fa fb fc : EvE} {pos : Pos}
/-! ### o[i] -/
def ixD (o i : D) (S : Sto) : Option D := match o, i with
  | .tup xs, .int k => atI xs k
  | .cst xs, .int k => atI xs k
  | .fup xs, .int k => atI xs k
  | .str z, .int k => if z.length ≤ LN then (atI z.cps.toList k).map fun c => .str ⟨#[c]⟩ else none
  | .loc n, .int k => match S[n]? with
    | some (.lst xs) => atI xs k
    | some (.ro xs) => atI xs k
    | _ => none
  | _, _ => none
@[simp] def eIx (fa fb : EvE) : EvE := fun env S => (fa env S).bind fun d1 S1 => (fb env S1).bind fun d2 S2 => ofO (ixD d1 d2 S2) S2
theorem bin_liftS {s : L2.St} {H : Hp} {Q : VK} {g : D → D → Sto → Option D} {rr : V → V → Hp → Prop}
    (h : liftE X.K W (fun env S => (fa env S).bind fun d1 S1 => (fb env S1).bind fun d2 S2 => ofO (g d1 d2 S2) S2) s H Q) (k : ∀ x y H2, (∃ r S d1 d2, RSt X.K r H2 S ∧ RV X.K r H2 d1 x ∧ RV X.K r H2 d2 y ∧ OutD X.K r H2 S (g d1 d2 S) Q) → rr x y H2) :
    liftE X.K W fa s H fun x H1 => liftE X.K W fb s H1 fun y H2 => rr x y H2 := by
  obtain ⟨r, env, S, R, q⟩ := h
  refine lift_bind (g := fun d1 env S1 => (fb env S1).bind fun d2 S2 => ofO (g d1 d2 S2) S2) anti_E R q fun d1 S1 r1 H1 x e1 R1 rx q1 => ?_
  refine lift_bind (g := fun d2 env S2 => ofO (g d1 d2 S2) S2) anti_E R1 q1 fun d2 S2 r2 H2 y e2 R2 ry q2 => ?_
  exact k x y H2 ⟨r2, S2, d1, d2, R2.st, RV.ext rx R1.st e2, ry, ofO_out q2⟩
theorem RVs.atI {K : PySem.W.Frag} {r : List Addr} {H : Hp} {ds : List D} {vs : List V} {k : Int} {d : D} (h : RVs K r H ds vs) (e : L2.atI ds k = some d) : ∃ v, L2.atI vs k = some v ∧ RV K r H d v := by
  unfold L2.atI at e ⊢
  rw [← h.length]
  cases hk : ixN ds.length k with
  | none => rw [hk] at e; cases e
  | some j =>
    rw [hk] at e
    exact RVs.get h e
theorem out_some {K : PySem.W.Frag} {r : List Addr} {H : Hp} {S : Sto} {o : Option D} {Q : VK} (q : OutD K r H S o Q) : ∃ d, o = some d ∧ OutD K r H S (some d) Q := by
  cases o with
  | none => exact q.elim
  | some d => exact ⟨d, rfl, q⟩
theorem d_ix (ha : DE X W a fa) (hb : DE X W b fb) (hs : PlainIx b := by exact fun _ _ => rfl) : DE X W (.Subscript a b pos) (eIx fa fb) :=
  d_pe (pe_ix ix_seq ha.pe hb.pe hs) fun s H Q h => bin_liftS h fun x y H2 ⟨r, S, d1, d2, R, r1, r2, q⟩ => by
    obtain ⟨d, e, qq⟩ := out_some q
    clear q
    cases r2 with
    | int k =>
      cases r1 with
      | tup h1 q1 => obtain ⟨v, e1, rv⟩ := q1.atI e; exact .inr (.inl ⟨_, _, k, v, rfl, rfl, sq_or (.inl h1), e1, qq.now R rv⟩)
      | cst h1 q1 => obtain ⟨v, e1, rv⟩ := q1.atI e; exact .inr (.inl ⟨_, _, k, v, rfl, rfl, sq_or h1, e1, qq.now R rv⟩)
      | fup h1 hd q1 => obtain ⟨v, e1, rv⟩ := q1.atI e; exact .inr (.inl ⟨_, _, k, v, rfl, rfl, .inl (.inr ⟨_, h1⟩), e1, qq.now R rv⟩)
      | str z =>
        simp only [ixD] at e
        split at e
        · rename_i hl
          cases hc : L2.atI z.cps.toList k with
          | none => rw [hc] at e; cases e
          | some c => rw [hc] at e; cases e; exact .inr (.inr ⟨z, k, c, rfl, rfl, LN_line hl, hc, qq.now R (.str _)⟩)
        · cases e
      | @loc n a h1 =>
        simp only [ixD] at e
        split at e
        · rename_i xs e2
          obtain ⟨b, e3, vs, e4, q4⟩ := R.at_ n _ e2
          rw [h1] at e3; cases e3
          obtain ⟨v, e1, rv⟩ := q4.atI e
          exact .inl ⟨_, _, k, v, rfl, rfl, .inl (.inl e4), e1, qq.now R rv⟩
        · rename_i xs e2
          obtain ⟨b, e3, o, vs, e4, q4⟩ := R.at_ n _ e2
          rw [h1] at e3; cases e3
          obtain ⟨v, e1, rv⟩ := q4.atI e
          exact .inl ⟨_, _, k, v, rfl, rfl, .inl (.inr ⟨o, e4⟩), e1, qq.now R rv⟩
        · cases e
      | _ => simp [ixD] at e
    | _ => cases r1 <;> simp [ixD] at e
/-- an item of a list that is made on the spot -/
@[simp] def atD (ds : List D) (d : D) (S : Sto) : Res D := match d with
  | .int k => ofO (atI ds k) S
  | _ => .bad
@[simp] def eIxL (g : AEnv → Sto → Res (List D)) (fb : EvE) : EvE := fun env S => (g env S).bind fun ds S1 => (fb env S1).bind fun d S2 => atD ds d S2
theorem d_ixL {g : AEnv → Sto → Res (List D)} (ha : DL X W a g) (hb : DE X W b fb) (hs : PlainIx b := by exact fun _ _ => rfl) : DE X W (.Subscript a b pos) (eIxL g fb) :=
  d_pe (pe_ix ix_seq ha.pe hb.pe hs) fun s H Q ⟨r, env, S, R, q⟩ => by
    refine lift_bind (RR := RVL X.K) (g := fun ds env S1 => (fb env S1).bind fun d S2 => atD ds d S2) anti_E R q fun ds S1 r1 H1 x e1 R1 rx q1 => ?_
    obtain ⟨p, vs, rfl, _, np, hp, qv⟩ := rx
    refine lift_bind (g := fun d env S2 => atD ds d S2) anti_E R1 q1 fun d2 S2 r2 H2 y e2 R2 ry q2 => ?_
    cases ry with
    | int k =>
      obtain ⟨d, e, q⟩ := out_some (ofO_out q2)
      obtain ⟨v, e3, rv⟩ := RVs.atI (RVs.ext qv R1.st e2) e
      exact .inl ⟨p, vs, k, v, rfl, rfl, .inl (.inl (e2.keep p _ np hp).1), e3, q.now R2.st rv⟩
    | _ => exact q2.elim
/-! ### slices -/
@[simp] def pNo : AEnv → Sto → Res (Option Int) := fun _ S => .ok none S
@[simp] def intO (d : D) (S : Sto) : Res (Option Int) := match d with
  | .int i => .ok (some i) S
  | _ => .bad
@[simp] def pSome (f : EvE) : AEnv → Sto → Res (Option Int) := fun env S => (f env S).bind fun d S1 => intO d S1
abbrev RVO : Rel (Option Int) (Option Int) := fun _ _ _ a b => a = b
structure DO (X : Cx) (W : WX) (e : Option Expr) (f : AEnv → Sto → Res (Option Int)) : Prop where
  po : PO X e (fun t H Q => lift X.K W RVO f t H Q)
theorem PO.imp {e : Option Expr} {t t' : TO} (h : PO X e t) (k : ∀ s H Q, t' s H Q → t s H Q) : PO X e t' := ⟨fun pins s u H Q I q => h.run pins s u H Q I (k _ _ _ q)⟩
theorem do_no : DO X W none pNo := ⟨PO.imp po_none fun s H Q ⟨r, env, S, R, q⟩ => q r H none (Ext.refl r H) R.st rfl⟩
theorem anti_O : Anti RVO := ⟨fun _ _ _ _ _ _ _ h => h⟩
theorem do_some (h : DE X W e fa) : DO X W (some e) (pSome fa) := ⟨PO.imp (po_some h.pe) fun s H Q ⟨r, env, S, R, q⟩ => by
  refine lift_bind (g := fun d env S1 => intO d S1) anti_O R q fun d S1 r1 H1 x e1 R1 rx q1 => ?_
  cases rx with
  | int i => exact ⟨i, rfl, q1 r1 H1 _ (Ext.refl r1 H1) R1.st rfl⟩
  | _ => exact q1.elim⟩
def cutD (xs : List D) (lo hi : Option Int) : List D := (xs.drop (HT.sIx xs.length 0 lo)).take (HT.sIx xs.length xs.length hi - HT.sIx xs.length 0 lo)
theorem RVs.cut {K : PySem.W.Frag} {r : List Addr} {H : Hp} {ds : List D} {vs : List V} (h : RVs K r H ds vs) (lo hi : Option Int) : RVs K r H (cutD ds lo hi) (cutV vs lo hi) := by
  unfold cutD cutV
  rw [h.length]
  exact RVs.take _ (RVs.drop _ h)
theorem cut_whole {ds : List D} {lo hi : Option Int} (h : HT.sIx ds.length 0 lo = 0 ∧ HT.sIx ds.length ds.length hi = ds.length) : cutD ds lo hi = ds := by
  unfold cutD; rw [h.1, h.2]; simp
def slD (o : D) (lo hi : Option Int) : Option D := match o with
  | .tup xs => some (.tup (cutD xs lo hi))
  | .cst xs => some (.cst (cutD xs lo hi))
  | _ => none
variable {flo fhi : AEnv → Sto → Res (Option Int)} {lo hi : Option Expr} {p2 : Pos}
@[simp] def eSlT (fa : EvE) (flo fhi : AEnv → Sto → Res (Option Int)) : EvE := fun env S => (fa env S).bind fun d S1 => (flo env S1).bind fun l S2 => (fhi env S2).bind fun h S3 => ofO (slD d l h) S3
theorem d_slT (ha : DE X W a fa) (hl : DO X W lo flo) (hh : DO X W hi fhi) : DE X W (.Subscript a (.Slice lo hi none p2) pos) (eSlT fa flo fhi) :=
  d_pe (pe_slice sl_tupA ha.pe hl.po hh.po) fun s H Q ⟨r, env, S, R, q⟩ => by
    refine lift_bind (g := fun d env S1 => (flo env S1).bind fun l S2 => (fhi env S2).bind fun h S3 => ofO (slD d l h) S3) anti_E R q fun d S1 r1 H1 x e1 R1 rx q1 => ?_
    refine lift_bind (g := fun l env S2 => (fhi env S2).bind fun h S3 => ofO (slD d l h) S3) anti_E R1 q1 fun l S2 r2 H2 l' e2 R2 rl q2 => ?_
    refine lift_bind (g := fun h env S3 => ofO (slD d l h) S3) anti_E R2 q2 fun h S3 r3 H3 h' e3 R3 rh q3 => ?_
    cases rl; cases rh
    obtain ⟨d', e, q⟩ := out_some (ofO_out q3)
    have rx3 := RV.ext (RV.ext rx R1.st e2) R2.st e3
    clear q1 q2 q3
    cases rx3 with
    | @tup ds vs a h1 qv =>
      simp only [slD, Option.some.injEq] at e; subst e
      refine ⟨a, vs, rfl, sq_or (.inl h1), fun hw => ?_, fun _ p hp => ?_⟩
      · rw [← qv.length] at hw
        rw [cut_whole hw] at q
        exact q.now R3.st (.tup h1 qv)
      · exact q.new R3.st (RVs.cut qv l h) hp
    | @cst ds vs a h1 qv =>
      simp only [slD, Option.some.injEq] at e; subst e
      refine ⟨a, vs, rfl, sq_or h1, fun hw => ?_, fun _ p hp => ?_⟩
      · rw [← qv.length] at hw
        rw [cut_whole hw] at q
        exact q.now R3.st (.cst h1 qv)
      · exact q.newC R3.st (RVs.cut qv l h) hp
    | _ => simp [slD] at e
/-- the items of a list of the store -/
def lstOf (d : D) (S : Sto) : Option (List D) := match d with
  | .loc n => match S[n]? with
    | some (.lst xs) => some xs
    | some (.ro xs) => some xs
    | _ => none
  | _ => none
theorem RV.lst {K : PySem.W.Frag} {r : List Addr} {H : Hp} {S : Sto} {d : D} {v : V} {xs : List D} (h : RV K r H d v) (R : RSt K r H S) (e : lstOf d S = some xs) : ∃ a vs, v = .ref a ∧ SqL K H a vs ∧ RVs K r H xs vs := by
  cases h with
  | @loc n a h1 =>
    simp only [lstOf] at e
    split at e
    · rename_i ys e2
      obtain ⟨b, e3, vs, e4, q4⟩ := R.at_ n _ e2
      rw [h1] at e3; cases e3; cases e
      exact ⟨_, vs, rfl, .inl (.inl e4), q4⟩
    · rename_i ys e2
      obtain ⟨b, e3, o, vs, e4, q4⟩ := R.at_ n _ e2
      rw [h1] at e3; cases e3; cases e
      exact ⟨_, vs, rfl, .inl (.inr ⟨o, e4⟩), q4⟩
    · cases e
  | _ => simp [lstOf] at e
@[simp] def ofL (o : Option (List D)) (S : Sto) : Res (List D) := match o with
  | some d => .ok d S
  | none => .bad
/-- a wish for a new list, at the heap where it is laid -/
theorem new_lst {K : PySem.W.Frag} {r r0 : List Addr} {H H0 : Hp} {t : L2.St} {S : Sto} {ds : List D} {vs : List V} {p : Addr} {Q : VK} (q : resP K W (RVL K) r0 H0 t (.ok ds S) Q) (x : Ext r0 H0 r H) (R : RSt K r H S) (rv : RVs K r H ds vs) (hp : H p = none) : Q (.ref p) (upd H p (.lst vs)) := by
  obtain ⟨R2, e2⟩ := R.new (o := .lst vs) hp
  exact q r _ _ (x.trans e2) R2 ⟨p, vs, rfl, x.fr p hp, R.nmem hp, upd_same, RVs.ext rv R e2⟩
@[simp] def lSl (fa : EvE) (flo fhi : AEnv → Sto → Res (Option Int)) : AEnv → Sto → Res (List D) := fun env S => (fa env S).bind fun d S1 => (flo env S1).bind fun l S2 => (fhi env S2).bind fun h S3 => ofL ((lstOf d S3).map fun xs => cutD xs l h) S3
theorem dl_sl (ha : DE X W a fa) (hl : DO X W lo flo) (hh : DO X W hi fhi) : DL X W (.Subscript a (.Slice lo hi none p2) pos) (lSl fa flo fhi) :=
  dl_pe (pe_slice sl_list ha.pe hl.po hh.po) fun s H Q ⟨r, env, S, R, q⟩ => by
    refine lift_map (g := fun d env S1 => (flo env S1).bind fun l S2 => (fhi env S2).bind fun h S3 => ofL ((lstOf d S3).map fun xs => cutD xs l h) S3) R q fun d S1 r1 H1 x e1 R1 rx q1 => ?_
    have q1' : resP X.K W (RVL X.K) r1 H1 s ((flo env S1).bind fun l S2 => (fhi env S2).bind fun h S3 => ofL ((lstOf d S3).map fun xs => cutD xs l h) S3) Q := resP.ext anti_L q1 e1
    refine lift_bind (g := fun l env S2 => (fhi env S2).bind fun h S3 => ofL ((lstOf d S3).map fun xs => cutD xs l h) S3) anti_L R1 q1' fun l S2 r2 H2 l' e2 R2 rl q2 => ?_
    refine lift_bind (g := fun h env S3 => ofL ((lstOf d S3).map fun xs => cutD xs l h) S3) anti_L R2 q2 fun h S3 r3 H3 h' e3 R3 rh q3 => ?_
    cases rl; cases rh
    cases hx : lstOf d S3 with
    | none => rw [hx] at q3; exact q3.elim
    | some xs =>
      rw [hx] at q3
      obtain ⟨a, vs, rfl, hs, qv⟩ := RV.lst (RV.ext (RV.ext rx R1.st e2) R2.st e3) R3.st hx
      exact ⟨a, vs, rfl, hs, fun p hp => new_lst q3 (Ext.refl r3 H3) R3.st (RVs.cut qv l h) hp⟩
/-! ### dicts -/
def key1? : D → Option Key
  | .int i => some (.inl i)
  | .str x => some (.inr x)
  | _ => none
def keys? : List D → Option (List Key)
  | [] => some []
  | d :: ds => match key1? d, keys? ds with
    | some k, some ks => some (k :: ks)
    | _, _ => none
def keyT? : D → Option (List Key)
  | .tup ds => keys? ds
  | _ => none
theorem key1?_eq {d : D} {k : Key} (h : key1? d = some k) : d = kD k := by
  cases d <;> simp [key1?] at h <;> subst h <;> rfl
theorem keys?_eq : ∀ {ds : List D} {ks : List Key}, keys? ds = some ks → ds = ks.map kD
  | [], ks, h => by simp [keys?] at h; subst h; rfl
  | d :: ds, ks, h => by
    cases h1 : key1? d with
    | none => simp [keys?, h1] at h
    | some k =>
      cases h2 : keys? ds with
      | none => simp [keys?, h1, h2] at h
      | some ks' => simp [keys?, h1, h2] at h; subst h; rw [key1?_eq h1, keys?_eq h2]; rfl
@[simp] theorem keys?_ints : ∀ ns : List Int, keys? (ns.map D.int) = some (ns.map Sum.inl)
  | [] => rfl
  | n :: ns => by simp [keys?, key1?, keys?_ints ns]
theorem RV.key1 {K : PySem.W.Frag} {r : List Addr} {H : Hp} {d : D} {v : V} {k : Key} (h : RV K r H d v) (e : key1? d = some k) : v = kV k := by
  cases h <;> simp [key1?] at e <;> subst e <;> rfl
theorem RV.keyT {K : PySem.W.Frag} {r : List Addr} {H : Hp} {d : D} {v : V} {k : List Key} (h : RV K r H d v) (e : keyT? d = some k) : ∃ b, v = .ref b ∧ H b = some (.tup (k.map kV)) := by
  cases h with
  | tup h1 q1 =>
    simp only [keyT?] at e
    rw [keys?_eq e] at q1
    rw [RVs.keys_inv q1] at h1
    exact ⟨_, rfl, h1⟩
  | _ => simp [keyT?] at e
def lookD {κ : Type} [DecidableEq κ] (kvs : List (κ × D)) (k : κ) : Option D := (kvs.find? fun kv => decide (kv.1 = k)).map (·.2)
def putD {κ : Type} [DecidableEq κ] (kvs : List (κ × D)) (k : κ) (v : D) : List (κ × D) :=
  if (kvs.any fun kv => decide (kv.1 = k)) = true then kvs.map fun kv => if kv.1 = k then (kv.1, v) else kv else kvs ++ [(k, v)]
def dropD {κ : Type} [DecidableEq κ] (kvs : List (κ × D)) (k : κ) : List (κ × D) := kvs.filter fun kv => decide (kv.1 ≠ k)
theorem PKV.look {K : PySem.W.Frag} {r : List Addr} {H : Hp} {κ : Type} [DecidableEq κ] {k : κ} : ∀ {kvs : List (κ × D)} {ws : List (κ × V)}, PKV K r H kvs ws →
    (∀ d, lookD kvs k = some d → ∃ v, valV ws k = some v ∧ RV K r H d v) ∧ (lookD kvs k = none → valV ws k = none)
  | _, _, .nil => ⟨fun d h => by simp [lookD] at h, fun _ => rfl⟩
  | (a, d) :: kvs, (b, v) :: ws, .cons ⟨h1, h2⟩ t => by
    have h1' : a = b := h1
    subst h1'
    by_cases hk : a = k
    · refine ⟨fun d' h => ?_, fun h => ?_⟩
      · simp [lookD, List.find?_cons, hk] at h; subst h; exact ⟨v, valV_pos hk, h2⟩
      · simp [lookD, List.find?_cons, hk] at h
    · have ih := PKV.look (k := k) t
      have e : lookD ((a, d) :: kvs) k = lookD kvs k := by simp [lookD, List.find?_cons, hk]
      rw [e, valV_neg (p := (a, v)) hk]
      exact ih
theorem PKV.any {K : PySem.W.Frag} {r : List Addr} {H : Hp} {κ : Type} [DecidableEq κ] {k : κ} : ∀ {kvs : List (κ × D)} {ws : List (κ × V)}, PKV K r H kvs ws → (kvs.any fun kv => decide (kv.1 = k)) = ws.any fun kv => decide (kv.1 = k)
  | _, _, .nil => rfl
  | (a, d) :: kvs, (b, v) :: ws, .cons ⟨h1, h2⟩ t => by
    have h1' : a = b := h1
    subst h1'
    simp only [List.any_cons, PKV.any t]
theorem PKV.append {K : PySem.W.Frag} {r : List Addr} {H : Hp} {κ : Type} : ∀ {kvs kvs' : List (κ × D)} {ws ws' : List (κ × V)}, PKV K r H kvs ws → PKV K r H kvs' ws' → PKV K r H (kvs ++ kvs') (ws ++ ws')
  | _, _, _, _, .nil, q => q
  | _, _, _, _, .cons h t, q => .cons h (PKV.append t q)
theorem PKV.map_if {K : PySem.W.Frag} {r : List Addr} {H : Hp} {κ : Type} [DecidableEq κ] {k : κ} {d : D} {v : V} (hv : RV K r H d v) : ∀ {kvs : List (κ × D)} {ws : List (κ × V)}, PKV K r H kvs ws →
    PKV K r H (kvs.map fun kv => if kv.1 = k then (kv.1, d) else kv) (ws.map fun kv => if kv.1 = k then (kv.1, v) else kv)
  | _, _, .nil => .nil
  | (a, d') :: kvs, (b, v') :: ws, .cons ⟨h1, h2⟩ t => by
    have h1' : a = b := h1
    subst h1'
    refine .cons ?_ (PKV.map_if hv t)
    show (if a = k then (a, d) else (a, d')).1 = (if a = k then (a, v) else (a, v')).1 ∧ RV K r H (if a = k then (a, d) else (a, d')).2 (if a = k then (a, v) else (a, v')).2
    by_cases hk : a = k
    · rw [if_pos hk, if_pos hk]; exact ⟨rfl, hv⟩
    · rw [if_neg hk, if_neg hk]; exact ⟨rfl, h2⟩
theorem PKV.put {K : PySem.W.Frag} {r : List Addr} {H : Hp} {κ : Type} [DecidableEq κ] {k : κ} {d : D} {v : V} {kvs : List (κ × D)} {ws : List (κ × V)} (h : PKV K r H kvs ws) (hv : RV K r H d v) : PKV K r H (putD kvs k d) (putK ws k v) := by
  unfold putD putK
  rw [PKV.any h]
  split
  · exact PKV.map_if hv h
  · exact PKV.append h (.cons ⟨rfl, hv⟩ .nil)
theorem PKV.drop {K : PySem.W.Frag} {r : List Addr} {H : Hp} {κ : Type} [DecidableEq κ] {k : κ} : ∀ {kvs : List (κ × D)} {ws : List (κ × V)}, PKV K r H kvs ws → PKV K r H (dropD kvs k) (dropK ws k)
  | _, _, .nil => .nil
  | (a, d) :: kvs, (b, v) :: ws, .cons ⟨h1, h2⟩ t => by
    have h1' : a = b := h1
    subst h1'
    have ih := PKV.drop (k := k) t
    unfold dropD dropK at ih ⊢
    by_cases hk : a = k
    · rw [List.filter_cons_of_neg (by simpa using hk), List.filter_cons_of_neg (by simpa using hk)]; exact ih
    · rw [List.filter_cons_of_pos (by simpa using hk), List.filter_cons_of_pos (by simpa using hk)]; exact .cons ⟨rfl, h2⟩ ih
theorem PKV.len {K : PySem.W.Frag} {r : List Addr} {H : Hp} {κ : Type} {kvs : List (κ × D)} {ws : List (κ × V)} (h : PKV K r H kvs ws) : kvs.length = ws.length := Paired.length h
/-- what a dict holds at a key; none: it is no dict, or the key's form isn't its own -/
def dGetD (o k : D) (S : Sto) : Option (Option D) := match o with
  | .loc n => match S[n]? with
    | some (.dK kvs) => (key1? k).map (lookD kvs)
    | some (.rK kvs) => (key1? k).map (lookD kvs)
    | some (.dT kvs) => (keyT? k).map (lookD kvs)
    | some (.rT kvs) => (keyT? k).map (lookD kvs)
    | _ => none
  | _ => none
theorem dget_of {K : PySem.W.Frag} {r : List Addr} {H : Hp} {S : Sto} {o k : D} {x y : V} {res : Option D} (R : RSt K r H S) (h1 : RV K r H o x) (h2 : RV K r H k y) (e : dGetD o k S = some res) :
    ∃ a w, x = .ref a ∧ DGet H a y w ∧ (∀ d, res = some d → ∃ v, w = some v ∧ RV K r H d v) ∧ (res = none → w = none) := by
  cases h1 with
  | @loc n a h1 =>
    simp only [dGetD] at e
    split at e
    · rename_i kvs e2
      obtain ⟨b, e3, ws, e4, q4⟩ := R.at_ n _ e2
      rw [h1] at e3; cases e3
      cases hk : key1? k with
      | none => rw [hk] at e; cases e
      | some kk =>
        rw [hk] at e; cases e
        have := h2.key1 hk; subst this
        have z := PKV.look (k := kk) q4
        exact ⟨a, _, rfl, .inl ⟨ws, kk, .inl e4, rfl, rfl⟩, fun d hd => z.1 d hd, z.2⟩
    · rename_i kvs e2
      obtain ⟨b, e3, o, ws, e4, q4⟩ := R.at_ n _ e2
      rw [h1] at e3; cases e3
      cases hk : key1? k with
      | none => rw [hk] at e; cases e
      | some kk =>
        rw [hk] at e; cases e
        have := h2.key1 hk; subst this
        have z := PKV.look (k := kk) q4
        exact ⟨a, _, rfl, .inl ⟨ws, kk, .inr ⟨o, e4⟩, rfl, rfl⟩, fun d hd => z.1 d hd, z.2⟩
    · rename_i kvs e2
      obtain ⟨b, e3, ws, e4, q4⟩ := R.at_ n _ e2
      rw [h1] at e3; cases e3
      cases hk : keyT? k with
      | none => rw [hk] at e; cases e
      | some kk =>
        rw [hk] at e; cases e
        obtain ⟨b, rfl, hb⟩ := h2.keyT hk
        have z := PKV.look (k := kk) q4
        exact ⟨a, _, rfl, .inr ⟨ws, kk, b, .inl e4, rfl, hb, rfl⟩, fun d hd => z.1 d hd, z.2⟩
    · rename_i kvs e2
      obtain ⟨b, e3, o, ws, e4, q4⟩ := R.at_ n _ e2
      rw [h1] at e3; cases e3
      cases hk : keyT? k with
      | none => rw [hk] at e; cases e
      | some kk =>
        rw [hk] at e; cases e
        obtain ⟨b, rfl, hb⟩ := h2.keyT hk
        have z := PKV.look (k := kk) q4
        exact ⟨a, _, rfl, .inr ⟨ws, kk, b, .inr ⟨o, e4⟩, rfl, hb, rfl⟩, fun d hd => z.1 d hd, z.2⟩
    · cases e
  | _ => simp [dGetD] at e
@[simp] def eGet (fa fb : EvE) : EvE := fun env S => (fa env S).bind fun d1 S1 => (fb env S1).bind fun d2 S2 => ofO ((dGetD d1 d2 S2).bind id) S2
theorem d_dget (hu : X.A.units + 1 < cLine) (ha : DE X W a fa) (hb : DE X W b fb) (hs : NoSl b := by exact fun _ _ => rfl) : DE X W (.Subscript a b pos) (eGet fa fb) :=
  d_pe (pe_dget hu ha.pe hb.pe hs) fun s H Q h => bin_liftS (g := fun d1 d2 S => (dGetD d1 d2 S).bind id) h fun x y H2 ⟨r, S, d1, d2, R, r1, r2, q⟩ => by
    cases hg : dGetD d1 d2 S with
    | none => rw [hg] at q; exact q.elim
    | some res =>
      rw [hg] at q
      obtain ⟨d, e, q⟩ := out_some q
      obtain ⟨a, w, rfl, hw, h1, h2⟩ := dget_of R r1 r2 hg
      obtain ⟨v, rfl, rv⟩ := h1 d e
      exact ⟨a, v, rfl, hw, q.now R rv⟩
@[simp] def tIn (fa fb : EvE) : EvE := fun env S => (fa env S).bind fun d1 S1 => (fb env S1).bind fun d2 S2 => ofO ((dGetD d2 d1 S2).map fun o => .bl o.isSome) S2
@[simp] def tNotIn (fa fb : EvE) : EvE := fun env S => (fa env S).bind fun d1 S1 => (fb env S1).bind fun d2 S2 => ofO ((dGetD d2 d1 S2).map fun o => .bl (!o.isSome)) S2
/-- d.get(k, x) -/
@[simp] def eGet2 (fa fb fc : EvE) : EvE := fun env S => (fa env S).bind fun d1 S1 => (fb env S1).bind fun d2 S2 => (fc env S2).bind fun d3 S3 => ofO ((dGetD d1 d2 S3).map fun o => o.getD d3) S3
/-- it is a dict -/
def isDc (o : D) (S : Sto) : Bool := match o with
  | .loc n => match S[n]? with
    | some (.dK _) => true
    | some (.rK _) => true
    | some (.dT _) => true
    | some (.rT _) => true
    | _ => false
  | _ => false
theorem isD_of {K : PySem.W.Frag} {r : List Addr} {H : Hp} {S : Sto} {o : D} {x : V} (R : RSt K r H S) (h1 : RV K r H o x) (e : isDc o S = true) : ∃ a, x = .ref a ∧ IsD H a := by
  cases h1 with
  | @loc n a h1 =>
    simp only [isDc] at e
    split at e
    · rename_i kvs e2; obtain ⟨b, e3, ws, e4, q4⟩ := R.at_ n _ e2; rw [h1] at e3; cases e3; exact ⟨a, rfl, .inl ⟨ws, .inl e4⟩⟩
    · rename_i kvs e2; obtain ⟨b, e3, o, ws, e4, q4⟩ := R.at_ n _ e2; rw [h1] at e3; cases e3; exact ⟨a, rfl, .inl ⟨ws, .inr ⟨o, e4⟩⟩⟩
    · rename_i kvs e2; obtain ⟨b, e3, ws, e4, q4⟩ := R.at_ n _ e2; rw [h1] at e3; cases e3; exact ⟨a, rfl, .inr ⟨ws, .inl e4⟩⟩
    · rename_i kvs e2; obtain ⟨b, e3, o, ws, e4, q4⟩ := R.at_ n _ e2; rw [h1] at e3; cases e3; exact ⟨a, rfl, .inr ⟨ws, .inr ⟨o, e4⟩⟩⟩
    · cases e
  | _ => simp [isDc] at e
@[simp] def eGet2' (fa fb fc : EvE) : EvE := fun env S => (fa env S).bind fun d1 S1 => if isDc d1 S1 then (fb env S1).bind fun d2 S2 => (fc env S2).bind fun d3 S3 => ofO ((dGetD d1 d2 S3).map fun o => o.getD d3) S3 else .bad
theorem d_get2 {apos cpos : Pos} (hu : X.A.units + 1 < cLine) (ha : DE X W a fa) (hb : DE X W b fb) (hc : DE X W c fc) (m : M2 X a "get" apos b c cpos := by exact ⟨rfl, rfl, rfl, rfl⟩) : DE X W (.Call (.Attribute a "get" apos) [b, c] [] cpos) (eGet2' fa fb fc) :=
  d_pe (pe_dget2 hu ha.pe hb.pe hc.pe m) fun s H Q ⟨r, env, S, R, q⟩ => by
    refine lift_bind (g := fun d1 env S1 => (if isDc d1 S1 then (fb env S1).bind fun d2 S2 => (fc env S2).bind fun d3 S3 => ofO ((dGetD d1 d2 S3).map fun o => o.getD d3) S3 else Res.bad : Res D)) anti_E R q fun d1 S1 r1 H1 x e1 R1 rx q1 => ?_
    by_cases hd : isDc d1 S1 = true
    · rw [if_pos hd] at q1
      obtain ⟨a, rfl, hD⟩ := isD_of R1.st rx hd
      refine ⟨a, rfl, hD, ?_⟩
      refine lift_bind (g := fun d2 env S2 => (fc env S2).bind fun d3 S3 => ofO ((dGetD d1 d2 S3).map fun o => o.getD d3) S3) anti_E R1 q1 fun d2 S2 r2 H2 y e2 R2 ry q2 => ?_
      refine lift_bind (g := fun d3 env S3 => ofO ((dGetD d1 d2 S3).map fun o => o.getD d3) S3) anti_E R2 q2 fun d3 S3 r3 H3 z e3 R3 rz q3 => ?_
      cases hg : dGetD d1 d2 S3 with
      | none => rw [hg] at q3; exact q3.elim
      | some res =>
        rw [hg] at q3
        have q' : OutD X.K r3 H3 S3 (some (res.getD d3)) Q := ofO_out q3
        obtain ⟨a', w, ea, hw, h1, h2⟩ := dget_of R3.st (RV.ext (RV.ext rx R1.st e2) R2.st e3) (RV.ext ry R2.st e3) hg
        cases ea
        refine ⟨w, hw, ?_⟩
        cases res with
        | none => rw [h2 rfl]; exact q'.now R3.st rz
        | some d => obtain ⟨v, rfl, rv⟩ := h1 d rfl; exact q'.now R3.st rv
    · rw [if_neg hd] at q1; exact q1.elim
/-- {} that will have tuples, or plain keys -/
@[simp] def eNewT : EvE := fun _ S => .ok (.loc S.length) (S ++ [.dT []])
@[simp] def eNewK : EvE := fun _ S => .ok (.loc S.length) (S ++ [.dK []])
theorem d_newT : DE X W (.Dict [] [] pos) eNewT :=
  d_pe pe_dnewT fun s H Q ⟨r, env, S, R, q⟩ p hp => by
    obtain ⟨R2, e2⟩ := R.st.alloc (o := .dT []) (m := .dT []) hp ⟨[], upd_same, .nil⟩
    exact q _ _ _ e2 R2 (.loc (by rw [← R.st.len]; simp))
theorem d_newK : DE X W (.Dict [] [] pos) eNewK :=
  d_pe pe_dnewK fun s H Q ⟨r, env, S, R, q⟩ p hp => by
    obtain ⟨R2, e2⟩ := R.st.alloc (o := .dK []) (m := .dK []) hp ⟨[], upd_same, .nil⟩
    exact q _ _ _ e2 R2 (.loc (by rw [← R.st.len]; simp))
/-- the store behind o[k] = v of a dict -/
def dPutD (o k v : D) (S : Sto) : Option Sto := match o with
  | .loc n => match S[n]? with
    | some (.dK kvs) => if kvs.length < LN then (key1? k).map fun kk => S.set n (.dK (putD kvs kk v)) else none
    | some (.dT kvs) => if kvs.length < LN then (keyT? k).map fun kk => S.set n (.dT (putD kvs kk v)) else none
    | _ => none
  | _ => none
theorem dput_of {K : PySem.W.Frag} {r : List Addr} {H : Hp} {S S' : Sto} {o k d : D} {x y v : V} (R : RSt K r H S) (h1 : RV K r H o x) (h2 : RV K r H k y) (h3 : RV K r H d v) (e : dPutD o k d S = some S') :
    ∃ a H', x = .ref a ∧ DPut H a y v H' ∧ RSt K r H' S' ∧ Ext r H r H' := by
  cases h1 with
  | @loc n a h1 =>
    simp only [dPutD] at e
    split at e
    · rename_i kvs e2
      obtain ⟨b, e3, ws, e4, q4⟩ := R.at_ n _ e2
      rw [h1] at e3; cases e3
      split at e
      · rename_i hl
        cases hk : key1? k with
        | none => rw [hk] at e; cases e
        | some kk =>
          rw [hk] at e; cases e
          have := h2.key1 hk; subst this
          have hf : ∀ o u, H a ≠ some (.frz o u) := fun o u z => by rw [e4] at z; cases z
          have pre : RSt K r (upd H a (.dK (putK ws kk v))) (S.set n (.dK (putD kvs kk d))) ∧ Ext r H r (upd H a (.dK (putK ws kk v))) := by
            refine R.put h1 hf ⟨_, upd_same, ?_⟩
            exact PKV.mono (H := H) (r := r) (TGrow.upd e4 (fun _ z => nomatch z) (fun _ _ z => nomatch z)) (fun _ _ z => z) (PKV.put q4 h3)
          exact ⟨a, _, rfl, .inl ⟨ws, kk, e4, rfl, by rw [← q4.len, sizeLine_eq]; exact hl, rfl⟩, pre.1, pre.2⟩
      · cases e
    · rename_i kvs e2
      obtain ⟨b, e3, ws, e4, q4⟩ := R.at_ n _ e2
      rw [h1] at e3; cases e3
      split at e
      · rename_i hl
        cases hk : keyT? k with
        | none => rw [hk] at e; cases e
        | some kk =>
          rw [hk] at e; cases e
          obtain ⟨b, rfl, hb⟩ := h2.keyT hk
          have hf : ∀ o u, H a ≠ some (.frz o u) := fun o u z => by rw [e4] at z; cases z
          have pre : RSt K r (upd H a (.dT (putK ws kk v))) (S.set n (.dT (putD kvs kk d))) ∧ Ext r H r (upd H a (.dT (putK ws kk v))) := by
            refine R.put h1 hf ⟨_, upd_same, ?_⟩
            exact PKV.mono (H := H) (r := r) (TGrow.upd e4 (fun _ z => nomatch z) (fun _ _ z => nomatch z)) (fun _ _ z => z) (PKV.put q4 h3)
          exact ⟨a, _, rfl, .inr ⟨ws, kk, b, e4, rfl, hb, by rw [← q4.len, sizeLine_eq]; exact hl, rfl⟩, pre.1, pre.2⟩
      · cases e
    · cases e
  | _ => simp [dPutD] at e
end
end DV
/-! DV5: built-in functions, methods, calls of defs, over D. -/
namespace DV
open PySem PySem.Spec PyProof.Rows L2

section
variable {X : Cx} {W : WX} {a b c e : Expr} {es : List Expr} {fa fb fc : EvE} {ga gb : AEnv → Sto → Res (List D)} {pos p p2 : Pos} {x : Str}
/-! ### tuples that are known to their object -/
def tTupF (t : TA) : TE := fun σ H Q => t σ H fun xs H1 => xs.length ≤ sizeLine ∧ ∀ p o, H1 p = none → o.dict = none → Q (.ref p) (upd H1 p (.frz o (.tup xs)))
theorem pe_tupF {k : Nat} {t : TA} (h : PA X es t) : PE X (.Tuple es k pos) (tTupF t) := by
  refine ⟨fun pins s σ H Q I hq => ?_⟩
  refine wpAny_Tuple_spliced (thn (h.run pos pins s σ H _ I hq) fun us s1 ⟨xs, H1, I1, r, z, q⟩ => ⟨by rw [← r.length]; exact z, ?_⟩)
  exact ⟨.ref s1.heap.objs.size, _, I1.laid (o := .frz _ (.tup xs)) (t' := s1.toks) (fun b u e => Heap.get?_push_of_some _ e) (Nat.le_refl _)
    ⟨Heap.get?_push_size _ rfl, z, us, r, ⟨_, Heap.get?_push_size _ rfl, rfl, _, rfl⟩⟩, rfl, q _ _ I1.fresh rfl⟩
@[simp] def eTupF (g : AEnv → Sto → Res (List D)) : EvE := fun env S => (g env S).bind fun ds S1 => if ds.length ≤ LN then .ok (.fup ds) S1 else .bad
theorem RSt.newF {K : PySem.W.Frag} {r : List Addr} {H : Hp} {S : Sto} {ds : List D} {vs : List V} {p : Addr} {o : Obj} (R : RSt K r H S) (rv : RVs K r H ds vs) (hp : H p = none) (hd : o.dict = none) :
    RSt K r (upd H p (.frz o (.tup vs))) S ∧ Ext r H r (upd H p (.frz o (.tup vs))) ∧ RV K r (upd H p (.frz o (.tup vs))) (.fup ds) (.ref p) := by
  obtain ⟨R2, e2⟩ := R.new (o := .frz o (.tup vs)) hp
  exact ⟨R2, e2, .fup upd_same hd (RVs.ext rv R e2)⟩
theorem d_tupF {k} (h : DA X W es ga) : DE X W (.Tuple es k pos) (eTupF ga) :=
  d_pe (pe_tupF h.pa) fun s H Q ⟨r, env, S, R, z⟩ => by
    refine lift_bind (g := fun ds env S1 => (if ds.length ≤ LN then Res.ok (D.fup ds) S1 else Res.bad : Res D)) anti_E R z fun ds S1 r1 H1 xs e1 R1 rxs z1 => ?_
    by_cases hl : ds.length ≤ LN
    · rw [if_pos hl] at z1
      refine ⟨by rw [← rxs.length]; exact LN_line hl, fun p o hp hd => ?_⟩
      obtain ⟨R2, e2, q2⟩ := R1.st.newF rxs hp hd
      exact z1 r1 _ _ e2 R2 q2
    · rw [if_neg hl] at z1; exact z1.elim
theorem call_tupleF : CallR X (.type "tuple") (fun xs H Q => ∃ p ys, xs = [.ref p] ∧ SqL X.K H p ys ∧ ∀ l o, H l = none → o.dict = none → Q (.ref l) (upd H l (.frz o (.tup ys)))) := by
  intro pins s σ H xs us Q I r h
  obtain ⟨p, ys, rfl, hq, q⟩ := h
  obtain ⟨u, rfl, rx⟩ := vals1 r
  cases rx
  obtain ⟨its, r', pl, hz⟩ := I.list hq
  have hlen := r'.length
  refine call_tuple_list pl.isList (fun h' kp => ?_) (by simp only [List.size_toArray] <;> omega)
  have I1 : Inv X pins σ H { s with heap := h' } := I.kept (t' := s.toks) kp
  exact ⟨.ref h'.objs.size, _, I1.laid (o := .frz _ (.tup ys)) (t' := s.toks) (fun b o e => Heap.get?_push_of_some _ e) (Nat.le_refl _) ⟨Heap.get?_push_size _ rfl, hz, its, r', IsTup.new _ _⟩, rfl, q _ _ I1.fresh rfl⟩
/-! ### a built-in function of one list that was made on the spot -/
def OneL (K : PySem.W.Frag) (xs : List V) (H : Hp) (k : List Addr → Sto → List D → List V → Addr → Prop) : Prop := ∃ r S a vs ds, xs = [.ref a] ∧ RSt K r H S ∧ a ∉ r ∧ H a = some (.lst vs) ∧ RVs K r H ds vs ∧ k r S ds vs a
def CallL (X : Cx) (f : Value) (g : List D → Option D) : Prop := CallR X f fun xs H Q => OneL X.K xs H fun r S ds _ _ => OutD X.K r H S (g ds) Q
@[simp] def eOfL (g : List D → Option D) (ga : AEnv → Sto → Res (List D)) : EvE := fun env S => (ga env S).bind fun ds S1 => ofO (g ds) S1
theorem oneL_lift {s : L2.St} {H : Hp} {Q : VK} {g : List D → Option D} (h : liftE X.K W (eOfL g ga) s H Q) :
    tCB (fun xs H Q => OneL X.K xs H fun r S ds _ _ => OutD X.K r H S (g ds) Q) (tCons (liftL X.K W ga) tNil) s H Q := by
  obtain ⟨r, env, S, R, z⟩ := h
  refine lift_bind (RR := RVL X.K) (g := fun ds env S1 => ofO (g ds) S1) anti_E R z fun ds S1 r1 H1 v e1 R1 rv z1 => ?_
  obtain ⟨a, vs, rfl, _, na, ha, q⟩ := rv
  exact ⟨r1, S1, a, vs, ds, rfl, R1.st, na, ha, q, ofO_out z1⟩
theorem d_callL {id : String} {g : List D → Option D} (hc : CallL X (.builtin id) g) (hg : Gl X x) (hm : X.mg x = none) (hv : bootBuiltins x = some (.builtin id)) (ha : DL X W e ga) (hn : x ≠ "__name__" := by decide) (hdb : (x == ("__debug__" : Str)) = false := by decide)
    (hs : starEach [e] X.env = (false, eval e X.env) :: starEach [] X.env := by rfl) (hpl : (backTo pos (starEach [] X.env)).any (·.1) = false := by rfl) : DE X W (.Call (.Name x p) [e] [] pos) (eOfL g ga) :=
  d_pe (pe_callB hc hg hm hv (pa_cons ha.pe pa_nil hs) hn hdb hs hpl) fun s H Q h => oneL_lift h
theorem d_callLTy {T : String} {g : List D → Option D} (hc : CallL X (.type T) g) (hg : Gl X x) (hm : X.mg x = none) (hv : bootBuiltins x = some (.type T)) (ha : DL X W e ga) (hn : x ≠ "__name__" := by decide) (hdb : (x == ("__debug__" : Str)) = false := by decide)
    (hs : starEach [e] X.env = (false, eval e X.env) :: starEach [] X.env := by rfl) (hpl : (backTo pos (starEach [] X.env)).any (·.1) = false := by rfl) : DE X W (.Call (.Name x p) [e] [] pos) (eOfL g ga) :=
  d_pe (pe_callTy hc hg hm hv (pa_cons ha.pe pa_nil hs) hn hdb hs hpl) fun s H Q h => oneL_lift h
def gTup (ds : List D) : Option D := some (.tup ds)
def gFup (ds : List D) : Option D := some (.fup ds)
def bls? : List D → Option (List Bool)
  | [] => some []
  | .bl i :: ds => (bls? ds).map (i :: ·)
  | _ => none
theorem bls?_eq : ∀ {ds : List D} {ns : List Bool}, bls? ds = some ns → ds = ns.map .bl
  | [], ns, h => by simp [bls?] at h; subst h; rfl
  | .bl i :: ds, ns, h => by
    cases hr : bls? ds with
    | none => simp [bls?, hr] at h
    | some ms => simp [bls?, hr] at h; subst h; rw [bls?_eq hr]; rfl
@[simp] theorem bls?_map : ∀ ns : List Bool, bls? (ns.map D.bl) = some ns
  | [] => rfl
  | n :: ns => by simp [bls?, bls?_map ns]
def gAll (ds : List D) : Option D := (bls? ds).map fun bs => .bl (bs.all id)
def gAny (ds : List D) : Option D := (bls? ds).map fun bs => .bl (bs.any id)
def gSum (ds : List D) : Option D := (ints? ds).map fun ns => .int ns.sum
def gLen (ds : List D) : Option D := some (.int ds.length)
/-- the greatest -/
def maxI : Int → List Int → Int
  | m, [] => m
  | m, n :: ns => maxI (if m < n then n else m) ns
theorem maxI_le : ∀ (ns : List Int) (m : Int), m ≤ maxI m ns ∧ ∀ y ∈ ns, y ≤ maxI m ns
  | [], m => ⟨Int.le_refl _, fun _ h => nomatch h⟩
  | n :: ns, m => by
    have ih := maxI_le ns (if m < n then n else m)
    unfold maxI
    refine ⟨?_, fun y hy => ?_⟩
    · refine Int.le_trans ?_ ih.1; split <;> omega
    · rcases List.mem_cons.mp hy with rfl | hy
      · refine Int.le_trans ?_ ih.1; split <;> omega
      · exact ih.2 y hy
theorem maxI_mem : ∀ (ns : List Int) (m : Int), maxI m ns ∈ m :: ns
  | [], m => List.mem_cons_self
  | n :: ns, m => by
    have ih := maxI_mem ns (if m < n then n else m)
    unfold maxI
    rcases List.mem_cons.mp ih with h | h
    · rw [h]; split <;> simp
    · exact List.mem_cons_of_mem _ (List.mem_cons_of_mem _ h)
def gMax (ds : List D) : Option D := match ints? ds with
  | some (n :: ns) => some (.int (maxI n ns))
  | _ => none
theorem c_tup : CallL X (.type "tuple") gTup := CallR.imp call_tuple_of fun xs H Q ⟨r, S, a, vs, ds, e, R, na, ha, rv, q⟩ =>
  ⟨a, vs, e, .inl ⟨SqL.of ha, fun l hl => OutD.new q R rv hl⟩⟩
theorem c_fup : CallL X (.type "tuple") gFup := CallR.imp call_tupleF fun xs H Q ⟨r, S, a, vs, ds, e, R, na, ha, rv, q⟩ =>
  ⟨a, vs, e, SqL.of ha, fun l o hl hd => by
    obtain ⟨R2, e2, q2⟩ := R.newF rv hl hd
    exact q _ _ e2 R2 q2⟩
theorem c_all (hc : X.calm = true) : CallL X (.builtin "all") gAll := CallR.imp (cr_all hc) fun xs H Q ⟨r, S, a, vs, ds, e, R, na, ha, rv, q⟩ => by
  have qq : OutD X.K r H S (gAll ds) Q := q
  clear q
  cases hb : bls? ds with
  | none => rw [gAll, hb] at qq; exact qq.elim
  | some bs =>
    rw [gAll, hb] at qq
    rw [bls?_eq hb] at rv
    have hv := RVs.bls_inv rv
    subst hv
    exact ⟨a, bs, e, SqL.of ha, OutD.now qq R (.bl _)⟩
theorem c_any (hc : X.calm = true) : CallL X (.builtin "any") gAny := CallR.imp (cr_any hc) fun xs H Q ⟨r, S, a, vs, ds, e, R, na, ha, rv, q⟩ => by
  have qq : OutD X.K r H S (gAny ds) Q := q
  clear q
  cases hb : bls? ds with
  | none => rw [gAny, hb] at qq; exact qq.elim
  | some bs =>
    rw [gAny, hb] at qq
    rw [bls?_eq hb] at rv
    have hv := RVs.bls_inv rv
    subst hv
    exact ⟨a, bs, e, SqL.of ha, OutD.now qq R (.bl _)⟩
theorem c_sumL (hc : X.calm = true) : CallL X (.builtin "sum") gSum := CallR.imp (cr_sum hc) fun xs H Q ⟨r, S, a, vs, ds, e, R, na, ha, rv, q⟩ => by
  have qq : OutD X.K r H S (gSum ds) Q := q
  clear q
  cases hb : ints? ds with
  | none => rw [gSum, hb] at qq; exact qq.elim
  | some bs =>
    rw [gSum, hb] at qq
    rw [ints?_eq hb] at rv
    have hv := RVs.ints_inv rv
    subst hv
    exact ⟨a, bs, e, SqL.of ha, OutD.now qq R (.int _)⟩
theorem c_maxL (hc : X.calm = true) : CallL X (.builtin "max") gMax := CallR.imp (cr_max hc) fun xs H Q ⟨r, S, a, vs, ds, e, R, na, ha, rv, q⟩ => by
  have qq : OutD X.K r H S (gMax ds) Q := q
  clear q
  cases hb : ints? ds with
  | none => rw [gMax, hb] at qq; exact qq.elim
  | some bs =>
    cases bs with
    | nil => rw [gMax, hb] at qq; exact qq.elim
    | cons n ns =>
      rw [gMax, hb] at qq
      rw [ints?_eq hb] at rv
      have hv := RVs.ints_inv rv
      subst hv
      refine ⟨a, n :: ns, e, SqL.of ha, by simp, fun m hm hle => ?_⟩
      have h1 := maxI_le ns n
      have h2 := hle _ (maxI_mem ns n)
      have h3 : m ≤ maxI n ns := by
        rcases List.mem_cons.mp hm with rfl | hm
        · exact h1.1
        · exact h1.2 m hm
      have h4 : m = maxI n ns := by omega
      subst h4
      exact OutD.now qq R (.int _)
theorem c_lenL : CallL X (.builtin "len") gLen := CallR.imp call_len_seq fun xs H Q ⟨r, S, a, vs, ds, e, R, na, ha, rv, q⟩ =>
  ⟨a, vs, e, .inl (SqL.of ha), by rw [← rv.length]; exact OutD.now q R (.int _)⟩
/-! ### built-in functions by values -/
def CallD (X : Cx) (f : Value) (g : List D → Sto → Option D) : Prop := CallR X f fun xs H Q => ∃ r S ds, RSt X.K r H S ∧ RVs X.K r H ds xs ∧ OutD X.K r H S (g ds S) Q
@[simp] def eCB (g : List D → Sto → Option D) (ga : AEnv → Sto → Res (List D)) : EvE := fun env S => (ga env S).bind fun ds S1 => ofO (g ds S1) S1
theorem cb_lift {s : L2.St} {H : Hp} {Q : VK} {g : List D → Sto → Option D} (h : liftE X.K W (eCB g ga) s H Q) :
    tCB (fun xs H Q => ∃ r S ds, RSt X.K r H S ∧ RVs X.K r H ds xs ∧ OutD X.K r H S (g ds S) Q) (liftA X.K W ga) s H Q := by
  obtain ⟨r, env, S, R, z⟩ := h
  refine lift_bind (g := fun ds env S1 => ofO (g ds S1) S1) anti_E R z fun ds S1 r1 H1 v e1 R1 rv z1 => ?_
  exact ⟨r1, S1, ds, R1.st, rv, ofO_out z1⟩
theorem d_callB {id : String} {g : List D → Sto → Option D} (hc : CallD X (.builtin id) g) (hg : Gl X x) (hm : X.mg x = none) (hv : bootBuiltins x = some (.builtin id)) (ha : DA X W (e :: es) ga) (hn : x ≠ "__name__" := by decide) (hdb : (x == ("__debug__" : Str)) = false := by decide)
    (hs : starEach (e :: es) X.env = (false, eval e X.env) :: starEach es X.env := by rfl) (hpl : (backTo pos (starEach es X.env)).any (·.1) = false := by rfl) : DE X W (.Call (.Name x p) (e :: es) [] pos) (eCB g ga) :=
  d_pe (pe_callB hc hg hm hv ha.pa hn hdb hs hpl) fun s H Q h => cb_lift h
theorem d_callTy {T : String} {g : List D → Sto → Option D} (hc : CallD X (.type T) g) (hg : Gl X x) (hm : X.mg x = none) (hv : bootBuiltins x = some (.type T)) (ha : DA X W (e :: es) ga) (hn : x ≠ "__name__" := by decide) (hdb : (x == ("__debug__" : Str)) = false := by decide)
    (hs : starEach (e :: es) X.env = (false, eval e X.env) :: starEach es X.env := by rfl) (hpl : (backTo pos (starEach es X.env)).any (·.1) = false := by rfl) : DE X W (.Call (.Name x p) (e :: es) [] pos) (eCB g ga) :=
  d_pe (pe_callTy hc hg hm hv ha.pa hn hdb hs hpl) fun s H Q h => cb_lift h
theorem RVs.one {K : PySem.W.Frag} {r : List Addr} {H : Hp} {d : D} {vs : List V} (h : RVs K r H [d] vs) : ∃ v, vs = [v] ∧ RV K r H d v := by
  cases h with
  | cons h t => cases t; exact ⟨_, rfl, h⟩
theorem RVs.two {K : PySem.W.Frag} {r : List Addr} {H : Hp} {d d' : D} {vs : List V} (h : RVs K r H [d, d'] vs) : ∃ v v', vs = [v, v'] ∧ RV K r H d v ∧ RV K r H d' v' := by
  cases h with
  | cons h t =>
    obtain ⟨v, rfl, h2⟩ := RVs.one t
    exact ⟨_, _, rfl, h, h2⟩
def gAbs (ds : List D) (_ : Sto) : Option D := match ds with
  | [.int i] => some (.int (if i < 0 then -i else i))
  | _ => none
theorem c_abs : CallD X (.builtin "abs") gAbs := CallR.imp call_abs fun xs H Q ⟨r, S, ds, R, rv, q⟩ => by
  unfold gAbs at q
  split at q
  · obtain ⟨v, rfl, h⟩ := rv.one
    cases h
    exact ⟨_, rfl, OutD.now q R (.int _)⟩
  · exact q.elim
def gMax2 (ds : List D) (_ : Sto) : Option D := match ds with
  | [.int i, .int j] => some (.int (if j > i then j else i))
  | _ => none
theorem c_max2 (hc : X.calm = true) : CallD X (.builtin "max") gMax2 := CallR.imp (call_max2 hc) fun xs H Q ⟨r, S, ds, R, rv, q⟩ => by
  unfold gMax2 at q
  split at q
  · obtain ⟨v, v', rfl, h, h'⟩ := rv.two
    cases h; cases h'
    exact ⟨_, _, rfl, OutD.now q R (.int _)⟩
  · exact q.elim
def gInt (ds : List D) (_ : Sto) : Option D := match ds with
  | [.int i] => some (.int i)
  | [.bl k] => some (.int (if k then 1 else 0))
  | _ => none
theorem c_int : CallD X (.type "int") gInt := CallR.imp call_int1 fun xs H Q ⟨r, S, ds, R, rv, q⟩ => by
  unfold gInt at q
  split at q
  · obtain ⟨v, rfl, h⟩ := rv.one
    cases h
    exact .inl ⟨_, rfl, OutD.now q R (.int _)⟩
  · obtain ⟨v, rfl, h⟩ := rv.one
    cases h
    exact .inr ⟨_, rfl, OutD.now q R (.int _)⟩
  · exact q.elim
def lenD (d : D) (S : Sto) : Option Nat := match d with
  | .tup xs => some xs.length
  | .cst xs => some xs.length
  | .fup xs => some xs.length
  | .str z => if z.length ≤ LN then some z.length else none
  | .loc n => match S[n]? with
    | some (.lst xs) => some xs.length
    | some (.ro xs) => some xs.length
    | some (.dK xs) => some xs.length
    | some (.dT xs) => some xs.length
    | _ => none
  | _ => none
def gLenD (ds : List D) (S : Sto) : Option D := match ds with
  | [d] => (lenD d S).map fun n => .int n
  | _ => none
theorem c_len : CallD X (.builtin "len") gLenD := CallR.imp (CallR.or call_len_seq (CallR.or call_len_str (CallR.or call_lenD call_len_dT))) fun xs H Q ⟨r, S, ds, R, rv, q⟩ => by
  unfold gLenD at q
  split at q
  · rename_i d
    obtain ⟨v, rfl, h⟩ := rv.one
    cases hl : lenD d S with
    | none => rw [hl] at q; exact q.elim
    | some n =>
      rw [hl] at q
      have qn : Q (.int n) H := OutD.now q R (.int _)
      clear q
      cases h with
      | tup h q => cases hl; exact .inl ⟨_, _, rfl, .inr (.inl (.inl h)), by rw [← q.length]; exact qn⟩
      | cst h q => cases hl; exact .inl ⟨_, _, rfl, .inr h.sq, by rw [← q.length]; exact qn⟩
      | fup h hd q => cases hl; exact .inl ⟨_, _, rfl, .inr (.inl (.inr ⟨_, h⟩)), by rw [← q.length]; exact qn⟩
      | str z =>
        simp only [lenD] at hl
        split at hl
        · rename_i hz; cases hl; exact .inr (.inl ⟨z, rfl, LN_line hz, qn⟩)
        · cases hl
      | @loc k a h1 =>
        simp only [lenD] at hl
        split at hl
        · rename_i ys e2
          obtain ⟨b, e3, vs, e4, q4⟩ := R.at_ k _ e2
          rw [h1] at e3; cases e3; cases hl
          exact .inl ⟨_, _, rfl, .inl (.inl (.inl e4)), by rw [← q4.length]; exact qn⟩
        · rename_i ys e2
          obtain ⟨b, e3, o, vs, e4, q4⟩ := R.at_ k _ e2
          rw [h1] at e3; cases e3; cases hl
          exact .inl ⟨_, _, rfl, .inl (.inl (.inr ⟨o, e4⟩)), by rw [← q4.length]; exact qn⟩
        · rename_i ys e2
          obtain ⟨b, e3, vs, e4, q4⟩ := R.at_ k _ e2
          rw [h1] at e3; cases e3; cases hl
          exact .inr (.inr (.inl ⟨_, _, rfl, e4, by rw [← q4.len]; exact qn⟩))
        · rename_i ys e2
          obtain ⟨b, e3, vs, e4, q4⟩ := R.at_ k _ e2
          rw [h1] at e3; cases e3; cases hl
          exact .inr (.inr (.inr ⟨_, _, rfl, e4, by rw [← q4.len]; exact qn⟩))
        · cases hl
      | _ => simp [lenD] at hl
  · exact q.elim
/-- sum of a tuple or a list of ints -/
def gSumD (ds : List D) (S : Sto) : Option D := match ds with
  | [d] => match d.seq? with
    | some xs => gSum xs
    | none => (lstOf d S).bind gSum
  | _ => none
theorem cr_sumT (hc : X.calm = true) : CallR X (.builtin "sum") (fun vs H Q => ∃ (a : Addr) (ns : List Int), vs = [V.ref a] ∧ SqT X.K H a (ns.map V.int) ∧ Q (.int ns.sum) H) := by
  intro pins s σ H xs us Q I r h
  obtain ⟨a, ns, rfl, hs, q⟩ := h
  obtain ⟨its, rv, hl, _⟩ := I.tuple hs
  obtain ⟨u, rfl, rx⟩ := vals1 r
  cases rx
  have hi := rv.ints
  obtain ⟨ys, e⟩ := hi.allInts.items
  have hn : numsOf (intItems ys).toList = ns := by rw [← e]; exact hi.numsOf
  rw [nums_intItems] at hn
  rw [e] at hl
  refine PySem.W.ktm_sumG (I.ok.hd hc) hl fun h' tk t' hk => ?_
  rw [preSum_eq, List.take_of_length_le (by simp), hn]
  exact ⟨.int ns.sum, H, I.kept hk, ⟨_, rfl⟩, q⟩
theorem gSum_some {ds : List D} {d : D} (h : gSum ds = some d) : ∃ ns : List Int, ds = ns.map D.int ∧ d = D.int ns.sum := by
  unfold gSum at h
  cases hb : ints? ds with
  | none => rw [hb] at h; cases h
  | some ns => rw [hb] at h; cases h; exact ⟨ns, ints?_eq hb, rfl⟩
theorem c_sum (hc : X.calm = true) : CallD X (.builtin "sum") gSumD := CallR.imp (CallR.or (cr_sum hc) (cr_sumT hc)) fun xs H Q ⟨r, S, ds, R, rv, q⟩ => by
  unfold gSumD at q
  split at q
  · rename_i d
    obtain ⟨v, rfl, h⟩ := rv.one
    split at q
    · rename_i ys e
      obtain ⟨d', e', q⟩ := out_some q
      obtain ⟨ns, rfl, rfl⟩ := gSum_some e'
      obtain ⟨a, vs, rfl, s1, q1⟩ := h.seq e
      rw [RVs.ints_inv q1] at s1
      exact .inr ⟨a, ns, rfl, s1, OutD.now q R (.int _)⟩
    · cases hl : lstOf d S with
      | none => rw [hl] at q; exact q.elim
      | some ys =>
        rw [hl] at q
        obtain ⟨d', e', q⟩ := out_some q
        obtain ⟨ns, rfl, rfl⟩ := gSum_some e'
        obtain ⟨a, vs, rfl, s1, q1⟩ := h.lst R hl
        rw [RVs.ints_inv q1] at s1
        exact .inl ⟨a, ns, rfl, s1, OutD.now q R (.int _)⟩
  · exact q.elim
/-- tuple(..) of a list of the store -/
def gTupD (ds : List D) (S : Sto) : Option D := match ds with
  | [d] => (lstOf d S).map .tup
  | _ => none
theorem c_tupD : CallD X (.type "tuple") gTupD := CallR.imp call_tuple_of fun xs H Q ⟨r, S, ds, R, rv, q⟩ => by
  unfold gTupD at q
  split at q
  · rename_i d
    obtain ⟨v, rfl, h⟩ := rv.one
    cases hl : lstOf d S with
    | none => rw [hl] at q; exact q.elim
    | some ys =>
      rw [hl] at q
      obtain ⟨a, vs, rfl, s1, q1⟩ := h.lst R hl
      exact ⟨a, vs, rfl, .inl ⟨s1, fun l hl => OutD.new q R q1 hl⟩⟩
  · exact q.elim
def gFupD (ds : List D) (S : Sto) : Option D := match ds with
  | [d] => (lstOf d S).map .fup
  | _ => none
theorem c_fupD : CallD X (.type "tuple") gFupD := CallR.imp call_tupleF fun xs H Q ⟨r, S, ds, R, rv, q⟩ => by
  unfold gFupD at q
  split at q
  · rename_i d
    obtain ⟨v, rfl, h⟩ := rv.one
    cases hl : lstOf d S with
    | none => rw [hl] at q; exact q.elim
    | some ys =>
      rw [hl] at q
      obtain ⟨a, vs, rfl, s1, q1⟩ := h.lst R hl
      refine ⟨a, vs, rfl, s1, fun l o hl hd => ?_⟩
      obtain ⟨R2, e2, q2⟩ := R.newF q1 hl hd
      exact q _ _ e2 R2 q2
  · exact q.elim
/-! ### isinstance -/
def tyN (d : D) (S : Sto) : Option String := match d with
  | .non => some "NoneType"
  | .bl _ => some "bool"
  | .int _ => some "int"
  | .str _ => some "str"
  | .tup _ => some "tuple"
  | .cst _ => some "tuple"
  | .fup _ => some "tuple"
  | .loc n => match S[n]? with
    | some (.lst _) => some "list"
    | some (.ro _) => some "list"
    | some (.dK _) => some "dict"
    | some (.dT _) => some "dict"
    | _ => none
theorem tyN_of {K : PySem.W.Frag} {r : List Addr} {H : Hp} {S : Sto} {d : D} {v : V} {t : String} (R : RSt K r H S) (h : RV K r H d v) (e : tyN d S = some t) : TyX K H v (.type t) := by
  cases h with
  | non => cases e; exact .base .non
  | bl b => cases e; exact .base (.bl b)
  | int i => cases e; exact .base (.int i)
  | str z => cases e; exact .base (.str z)
  | tup h q => cases e; exact .base (.tup h)
  | cst h q =>
    cases e
    rcases h with h | ⟨o, h⟩ | h
    · exact .base (.tup h)
    · exact .fTuple h
    · rcases h with (h | ⟨o, h⟩) | ⟨o, its, n, hk, hc, _⟩
      · cases h
      · cases h
      · exact .kTuple hk hc
  | fup h hd q => cases e; exact .fTuple h
  | @loc k a h1 =>
    simp only [tyN] at e
    split at e
    · rename_i ys e2; obtain ⟨b, e3, vs, e4, q4⟩ := R.at_ k _ e2; rw [h1] at e3; cases e3; cases e; exact .base (.lst e4)
    · rename_i ys e2; obtain ⟨b, e3, o, vs, e4, q4⟩ := R.at_ k _ e2; rw [h1] at e3; cases e3; cases e; exact .base (.frz e4)
    · rename_i ys e2; obtain ⟨b, e3, vs, e4, q4⟩ := R.at_ k _ e2; rw [h1] at e3; cases e3; cases e; exact .base (.dK e4)
    · rename_i ys e2; obtain ⟨b, e3, vs, e4, q4⟩ := R.at_ k _ e2; rw [h1] at e3; cases e3; cases e; exact .base (.dT e4)
    · cases e
def isiD (T : String) (d : D) (S : Sto) : Option D := (tyN d S).bind fun t => (kitB t T).map .bl
@[simp] def eIsi (T : String) (fa : EvE) : EvE := fun env S => (fa env S).bind fun d S1 => ofO (isiD T d S1) S1
theorem d_isi {T : String} {y : Str} {pi : Pos} (hg : Gl X "isinstance") (hm : X.mg "isinstance" = none) (hgy : Gl X y) (hmy : X.mg y = none) (hvy : bootBuiltins y = some (.type T)) (ha : DE X W e fa) (hny : y ≠ "__name__" := by decide) (hdy : (y == ("__debug__" : Str)) = false := by decide)
    (hs : starEach [e, .Name y pi] X.env = (false, eval e X.env) :: starEach [.Name y pi] X.env := by rfl) (hs2 : starEach [.Name y pi] X.env = (false, eval (.Name y pi) X.env) :: starEach [] X.env := by rfl)
    (hpl : (backTo pos (starEach [.Name y pi] X.env)).any (·.1) = false := by rfl) : DE X W (.Call (.Name "isinstance" p) [e, .Name y pi] [] pos) (eIsi T fa) :=
  d_pe (pe_callB call_isi hg hm (by decide +kernel) (pa_cons ha.pe (pa_cons (pe_bltn (v := .ty T) hgy hmy hvy rfl hny hdy) pa_nil hs2) hs) (by decide) (by decide) hs hpl) fun s H Q ⟨r, env, S, R, z⟩ => by
    refine lift_bind (g := fun d env S1 => ofO (isiD T d S1) S1) anti_E R z fun d S1 r1 H1 v e1 R1 rv z1 => ?_
    obtain ⟨d', e', q⟩ := out_some (ofO_out z1)
    unfold isiD at e'
    cases ht : tyN d S1 with
    | none => rw [ht] at e'; cases e'
    | some t =>
      rw [ht] at e'
      cases hk : kitB t T with
      | none => simp [hk] at e'
      | some k =>
        simp [hk] at e'
        subst e'
        exact ⟨v, .ty T, _, _, k, rfl, .ty T, tyN_of R1.st rv ht, kit_ty hk, q.now R1.st (.bl _)⟩
/-! ### list(..) -/
def CallDL (X : Cx) (f : Value) (g : List D → Sto → Option (List D)) : Prop := CallR X f fun xs H Q => ∃ r S ds ds', RSt X.K r H S ∧ RVs X.K r H ds xs ∧ g ds S = some ds' ∧ ∀ H' p vs, Ext r H r H' → RSt X.K r H' S → H p = none → p ∉ r → H' p = some (.lst vs) → RVs X.K r H' ds' vs → Q (.ref p) H'
@[simp] def lCB (g : List D → Sto → Option (List D)) (ga : AEnv → Sto → Res (List D)) : AEnv → Sto → Res (List D) := fun env S => (ga env S).bind fun ds S1 => ofL (g ds S1) S1
theorem lcb_lift {s : L2.St} {H : Hp} {Q : VK} {g : List D → Sto → Option (List D)} (h : liftL X.K W (lCB g ga) s H Q) :
    tCB (fun xs H Q => ∃ r S ds ds', RSt X.K r H S ∧ RVs X.K r H ds xs ∧ g ds S = some ds' ∧ ∀ H' p vs, Ext r H r H' → RSt X.K r H' S → H p = none → p ∉ r → H' p = some (.lst vs) → RVs X.K r H' ds' vs → Q (.ref p) H') (liftA X.K W ga) s H Q := by
  obtain ⟨r, env, S, R, z⟩ := h
  refine lift_map (g := fun ds env S1 => ofL (g ds S1) S1) R z fun ds S1 r1 H1 v e1 R1 rv z1 => ?_
  cases hg : g ds S1 with
  | none => rw [hg] at z1; exact z1.elim
  | some ds' =>
    rw [hg] at z1
    exact ⟨r1, S1, ds, ds', R1.st, rv, hg, fun H' p vs e2 R2 h0 np hp rvs => z1 r1 H' _ (e1.trans e2) R2 ⟨p, vs, rfl, e1.fr p h0, np, hp, rvs⟩⟩
theorem dl_callTy {T : String} {g : List D → Sto → Option (List D)} (hc : CallDL X (.type T) g) (hg : Gl X x) (hm : X.mg x = none) (hv : bootBuiltins x = some (.type T)) (ha : DA X W (e :: es) ga) (hn : x ≠ "__name__" := by decide) (hdb : (x == ("__debug__" : Str)) = false := by decide)
    (hs : starEach (e :: es) X.env = (false, eval e X.env) :: starEach es X.env := by rfl) (hpl : (backTo pos (starEach es X.env)).any (·.1) = false := by rfl) : DL X W (.Call (.Name x p) (e :: es) [] pos) (lCB g ga) :=
  dl_pe (pe_callTy hc hg hm hv ha.pa hn hdb hs hpl) fun s H Q h => lcb_lift h
theorem dl_callB {id : String} {g : List D → Sto → Option (List D)} (hc : CallDL X (.builtin id) g) (hg : Gl X x) (hm : X.mg x = none) (hv : bootBuiltins x = some (.builtin id)) (ha : DA X W (e :: es) ga) (hn : x ≠ "__name__" := by decide) (hdb : (x == ("__debug__" : Str)) = false := by decide)
    (hs : starEach (e :: es) X.env = (false, eval e X.env) :: starEach es X.env := by rfl) (hpl : (backTo pos (starEach es X.env)).any (·.1) = false := by rfl) : DL X W (.Call (.Name x p) (e :: es) [] pos) (lCB g ga) :=
  dl_pe (pe_callB hc hg hm hv ha.pa hn hdb hs hpl) fun s H Q h => lcb_lift h
def gLst (ds : List D) (S : Sto) : Option (List D) := match ds with
  | [d] => match d.seq? with
    | some xs => some xs
    | none => lstOf d S
  | _ => none
theorem c_lst : CallDL X (.type "list") gLst := CallR.imp call_list_of fun xs H Q ⟨r, S, ds, ds', R, rv, hg, q⟩ => by
  unfold gLst at hg
  split at hg
  · rename_i d
    obtain ⟨v, rfl, h⟩ := rv.one
    split at hg
    · rename_i ys e
      cases hg
      obtain ⟨a, vs, rfl, s1, q1⟩ := h.seq e
      refine ⟨a, vs, rfl, .inr s1, fun l hl => ?_⟩
      obtain ⟨R2, e2⟩ := R.new (o := .lst vs) hl
      exact q _ l vs e2 R2 hl (R.nmem hl) upd_same (RVs.ext q1 R e2)
    · obtain ⟨a, vs, rfl, s1, q1⟩ := h.lst R hg
      refine ⟨a, vs, rfl, .inl s1, fun l hl => ?_⟩
      obtain ⟨R2, e2⟩ := R.new (o := .lst vs) hl
      exact q _ l vs e2 R2 hl (R.nmem hl) upd_same (RVs.ext q1 R e2)
  · cases hg
/-- [..] + [..] -/
theorem op_cat' : OpR X (binaryOp .Add) rCat := op_cat
@[simp] def lCat (ga gb : AEnv → Sto → Res (List D)) : AEnv → Sto → Res (List D) := fun env S => (ga env S).bind fun xs S1 => (gb env S1).bind fun ys S2 => if xs.length + ys.length ≤ LN then .ok (xs ++ ys) S2 else .bad
theorem dl_cat (ha : DL X W a ga) (hb : DL X W b gb) : DL X W (.BinOp a .Add b pos) (lCat ga gb) :=
  dl_pe (pe_op op_cat ha.pe hb.pe) fun s H Q ⟨r, env, S, R, z⟩ => by
    refine lift_map (RR := RVL X.K) (g := fun xs env S1 => (gb env S1).bind fun ys S2 => (if xs.length + ys.length ≤ LN then Res.ok (xs ++ ys) S2 else Res.bad : Res (List D))) R z fun xs S1 r1 H1 v e1 R1 rv z1 => ?_
    obtain ⟨a, vs, rfl, h0, na, ha, q⟩ := rv
    have z1' : resP X.K W (RVL X.K) r1 H1 s ((gb env S1).bind fun ys S2 => (if xs.length + ys.length ≤ LN then Res.ok (xs ++ ys) S2 else Res.bad : Res (List D))) Q := resP.ext anti_L z1 e1
    refine lift_map (RR := RVL X.K) (g := fun ys env S2 => (if xs.length + ys.length ≤ LN then Res.ok (xs ++ ys) S2 else Res.bad : Res (List D))) R1 z1' fun ys S2 r2 H2 w e2 R2 rw' z2 => ?_
    obtain ⟨b, us, rfl, h0', nb, hb, q'⟩ := rw'
    by_cases hl : xs.length + ys.length ≤ LN
    · rw [if_pos hl] at z2
      refine ⟨a, b, vs, us, rfl, rfl, (e2.keep a _ na ha).1, hb, by rw [← q.length, ← q'.length]; exact LN_line hl, fun p hp => ?_⟩
      exact new_lst z2 e2 R2.st (RVs.append (RVs.ext q R1.st e2) q') hp
    · rw [if_neg hl] at z2; exact z2.elim
/-! ### methods of lists -/
/-- a method call that may change the store: the receiver, the arguments, the store give the result and the store -/
def MetD (X : Cx) (T id : String) (g : D → List D → Sto → Option (D × Sto)) : Prop :=
  MtR X id (fun x xs H Q => ∃ r S d ds d' S', RSt X.K r H S ∧ RV X.K r H d x ∧ RVs X.K r H ds xs ∧ g d ds S = some (d', S') ∧ ∀ H' v, Ext r H r H' → RSt X.K r H' S' → RV X.K r H' d' v → Q v H')
/-- what the receiver is -/
def tyD (T : String) (d : D) (S : Sto) : Bool := match d with
  | .loc n => match S[n]? with
    | some (.lst _) => T == "list"
    | some (.dK _) => T == "dict"
    | some (.dT _) => T == "dict"
    | _ => false
  | .str _ => T == "str"
  | .int _ => T == "int"
  | _ => false
theorem tyD_of {K : PySem.W.Frag} {T : String} {r : List Addr} {H : Hp} {S : Sto} {d : D} {v : V} (R : RSt K r H S) (h : RV K r H d v) (e : tyD T d S = true) : tyV K T v H := by
  cases h with
  | @loc k a h1 =>
    simp only [tyD] at e
    split at e
    · rename_i ys e2; obtain ⟨b, e3, vs, e4, q4⟩ := R.at_ k _ e2; rw [h1] at e3; cases e3; exact .inl ⟨eq_of_beq e, _, .inl (.inl e4)⟩
    · rename_i ys e2; obtain ⟨b, e3, vs, e4, q4⟩ := R.at_ k _ e2; rw [h1] at e3; cases e3; exact .inr (.inr (.inl ⟨eq_of_beq e, .inl ⟨_, e4⟩⟩))
    · rename_i ys e2; obtain ⟨b, e3, vs, e4, q4⟩ := R.at_ k _ e2; rw [h1] at e3; cases e3; exact .inr (.inr (.inl ⟨eq_of_beq e, .inr ⟨_, e4⟩⟩))
    · cases e
  | str z => exact eq_of_beq e
  | int z => exact eq_of_beq e
  | _ => simp [tyD] at e
@[simp] def ofP (o : Option (D × Sto)) : Res D := match o with
  | some p => .ok p.1 p.2
  | none => .bad
@[simp] def eMet (T : String) (g : D → List D → Sto → Option (D × Sto)) (fa : EvE) (ga : AEnv → Sto → Res (List D)) : EvE := fun env S => (fa env S).bind fun d S1 => if tyD T d S1 then (ga env S1).bind fun ds S2 => ofP (g d ds S2) else .bad
@[simp] def eMet0 (T : String) (g : D → List D → Sto → Option (D × Sto)) (fa : EvE) : EvE := fun env S => (fa env S).bind fun d S1 => if tyD T d S1 then ofP (g d [] S1) else .bad
theorem d_met {T id : String} {name : Str} {apos cpos : Pos} {g : D → List D → Sto → Option (D × Sto)} (pa : PlainAttrs T) (slot : Slot T name id) (hty : typeOf (.builtin id) = pure (.type "method_descriptor")) (hm : MetD X T id g) (ho : DE X W a fa) (ha : DA X W (e :: es) ga)
    (hbase : attributeBase a name X.env (eval a X.env) = eval a X.env := by rfl)
    (hfew : ((backTo cpos (starEach (e :: es) X.env)).all (fun x => !x.1) && (backToKw cpos (keywordEach [] X.env)).all (fun x => x.1.isSome)
      && decide ((e :: es).length + ([] : List Keyword).length + (if ([] : List Keyword).isEmpty then 0 else 1) < 30)) = true := by rfl)
    (hline : (apos.endLine == cpos.line) = true := by rfl) (hs : starEach (e :: es) X.env = (false, eval e X.env) :: starEach es X.env := by rfl) (hplain : (backTo cpos (starEach es X.env)).any (·.1) = false := by rfl) :
    DE X W (.Call (.Attribute a name apos) (e :: es) [] cpos) (eMet T g fa ga) :=
  d_pe (pe_bm pa slot hty hm ho.pe ha.pa hbase hfew hline hs hplain) fun s H Q ⟨r, env, S, R, z⟩ => by
    refine lift_bind (g := fun d env S1 => (if tyD T d S1 then (ga env S1).bind fun ds S2 => ofP (g d ds S2) else Res.bad : Res D)) anti_E R z fun d S1 r1 H1 v e1 R1 rv z1 => ?_
    by_cases ht : tyD T d S1 = true
    · rw [if_pos ht] at z1
      refine ⟨tyD_of R1.st rv ht, ?_⟩
      refine lift_bind (g := fun ds env S2 => ofP (g d ds S2)) anti_E R1 z1 fun ds S2 r2 H2 vs e2 R2 rvs z2 => ?_
      cases hg : g d ds S2 with
      | none => rw [hg] at z2; exact z2.elim
      | some p =>
        rw [hg] at z2
        exact ⟨r2, S2, d, ds, p.1, p.2, R2.st, RV.ext rv R1.st e2, rvs, hg, fun H' v e3 R3 rv3 => z2 r2 H' v e3 R3 rv3⟩
    · rw [if_neg ht] at z1; exact z1.elim
theorem d_met0 {T id : String} {name : Str} {apos cpos : Pos} {g : D → List D → Sto → Option (D × Sto)} (pa : PlainAttrs T) (slot : Slot T name id) (hty : typeOf (.builtin id) = pure (.type "method_descriptor")) (hm : MetD X T id g) (ho : DE X W a fa)
    (hbase : attributeBase a name X.env (eval a X.env) = eval a X.env := by rfl) (hline : (apos.endLine == cpos.line) = true := by rfl) : DE X W (.Call (.Attribute a name apos) [] [] cpos) (eMet0 T g fa) :=
  d_pe (pe_bm0 pa slot hty hm ho.pe hbase hline) fun s H Q ⟨r, env, S, R, z⟩ => by
    refine lift_bind (g := fun d env S1 => (if tyD T d S1 then ofP (g d [] S1) else Res.bad : Res D)) anti_E R z fun d S1 r1 H1 v e1 R1 rv z1 => ?_
    by_cases ht : tyD T d S1 = true
    · rw [if_pos ht] at z1
      refine ⟨tyD_of R1.st rv ht, ?_⟩
      cases hg : g d [] S1 with
      | none => rw [hg] at z1; exact z1.elim
      | some p =>
        rw [hg] at z1
        exact ⟨r1, S1, d, [], p.1, p.2, R1.st, rv, .nil, hg, fun H' v e3 R3 rv3 => z1 r1 H' v e3 R3 rv3⟩
    · rw [if_neg ht] at z1; exact z1.elim
theorem MtR.imp {id : String} {r r' : V → List V → Hp → VK → Prop} (h : MtR X id r) (k : ∀ x xs H Q, r' x xs H Q → r x xs H Q) : MtR X id r' := fun pins s σ H x xs v us Q I rx rs q => h pins s σ H x xs v us Q I rx rs (k _ _ _ _ q)
/-- the number of a list that may be changed, and its items -/
def mutL (d : D) (S : Sto) : Option (Nat × List D) := match d with
  | .loc n => match S[n]? with
    | some (.lst xs) => some (n, xs)
    | _ => none
  | _ => none
theorem mutL_of {K : PySem.W.Frag} {r : List Addr} {H : Hp} {S : Sto} {d : D} {v : V} {n : Nat} {xs : List D} (R : RSt K r H S) (h : RV K r H d v) (e : mutL d S = some (n, xs)) : ∃ a vs, v = .ref a ∧ r[n]? = some a ∧ H a = some (.lst vs) ∧ RVs K r H xs vs ∧
    ∀ ys us, RVs K r H ys us → RSt K r (upd H a (.lst us)) (S.set n (.lst ys)) ∧ Ext r H r (upd H a (.lst us)) := by
  cases h with
  | @loc k a h1 =>
    simp only [mutL] at e
    split at e
    · rename_i ys e2
      obtain ⟨b, e3, vs, e4, q4⟩ := R.at_ k _ e2
      rw [h1] at e3; cases e3; cases e
      refine ⟨a, vs, rfl, h1, e4, q4, fun ys us q => R.put h1 (fun o u z => by rw [e4] at z; cases z) ⟨us, upd_same, ?_⟩⟩
      exact RVs.mono (TGrow.upd e4 (fun _ z => nomatch z) (fun _ _ z => nomatch z)) (fun _ _ z => z) q
    · cases e
  | _ => simp [mutL] at e
def gApp (d : D) (ds : List D) (S : Sto) : Option (D × Sto) := match ds, mutL d S with
  | [y], some (n, xs) => if xs.length < LN then some (.non, S.set n (.lst (xs ++ [y]))) else none
  | _, _ => none
theorem m_app : MetD X "list" "list.append" gApp := MtR.imp mt_append fun x xs H Q ⟨r, S, d, ds, d', S', R, rv, rvs, hg, q⟩ => by
  unfold gApp at hg
  split at hg
  · rename_i y n ys hm
    split at hg
    · rename_i hl
      cases hg
      obtain ⟨a, vs, rfl, h1, h2, h3, h4⟩ := mutL_of R rv hm
      obtain ⟨u, rfl, ru⟩ := rvs.one
      obtain ⟨R2, e2⟩ := h4 (ys ++ [y]) (vs ++ [u]) (RVs.append h3 (.cons ru .nil))
      exact ⟨a, vs, u, rfl, rfl, h2, by rw [← h3.length, sizeLine_eq]; exact hl, q _ _ e2 R2 .non⟩
    · cases hg
  · cases hg
def gPopAt (d : D) (ds : List D) (S : Sto) : Option (D × Sto) := match ds, mutL d S with
  | [.int i], some (n, xs) => if 0 ≤ i ∧ xs.length ≤ LN then match xs[i.toNat]? with
    | some y => some (y, S.set n (.lst (xs.eraseIdx i.toNat)))
    | none => none
    else none
  | _, _ => none
theorem m_popAt : MetD X "list" "list.pop" gPopAt := MtR.imp mt_popAt fun x xs H Q ⟨r, S, d, ds, d', S', R, rv, rvs, hg, q⟩ => by
  unfold gPopAt at hg
  split at hg
  · rename_i i n ys hm
    split at hg
    · rename_i hi
      split at hg
      · rename_i y hy
        cases hg
        obtain ⟨a, vs, rfl, h1, h2, h3, h4⟩ := mutL_of R rv hm
        obtain ⟨u, rfl, ru⟩ := rvs.one
        cases ru
        obtain ⟨v, hv, rv'⟩ := RVs.get h3 hy
        obtain ⟨R2, e2⟩ := h4 (ys.eraseIdx i.toNat) (vs.eraseIdx i.toNat) (RVs.erase _ h3)
        have hlt : i.toNat < ys.length := (List.getElem?_eq_some_iff.mp hy).1
        refine ⟨a, vs, i, i.toNat, v, rfl, rfl, h2, by omega, by have := hi.2; show i < 9223372036854775808; unfold LN at this; omega, ?_, hv, q _ _ e2 R2 (RV.ext rv' R e2)⟩
        have hx : ixN vs.length i = some i.toNat := by unfold ixN; rw [if_pos hi.1, if_pos (by rw [← h3.length]; omega)]
        exact (ixN_seq hx).1
      · cases hg
    · cases hg
  · cases hg
/-- d.pop(k, x) of tuple keys -/
def gPopT (d : D) (ds : List D) (S : Sto) : Option (D × Sto) := match ds, d with
  | [k, x], .loc n => match S[n]?, keyT? k with
    | some (.dT kvs), some kk => match lookD kvs kk with
      | some v => some (v, S.set n (.dT (dropD kvs kk)))
      | none => some (x, S)
    | _, _ => none
  | _, _ => none
theorem m_popT (hu : X.A.units + 1 < cLine) : MetD X "dict" "dict.pop" gPopT := MtR.imp (L2.DX.mt_popT hu) fun x xs H Q ⟨r, S, d, ds, d', S', R, rv, rvs, hg, q⟩ => by
  unfold gPopT at hg
  split at hg
  · rename_i k y n
    obtain ⟨v, w, rfl, r1, r2⟩ := rvs.two
    split at hg
    · rename_i kvs kk e2 hk
      obtain ⟨b, rfl, hb⟩ := r1.keyT hk
      cases rv with
      | @loc _ a h1 =>
        obtain ⟨a', e3, ws, e4, q4⟩ := R.at_ n _ e2
        rw [h1] at e3; cases e3
        have lk := PKV.look (k := kk) q4
        refine ⟨a, ws, kk, b, w, rfl, rfl, e4, hb, fun u hu' => ?_, fun hn => ?_⟩
        · split at hg
          · rename_i v' hv
            cases hg
            obtain ⟨u', e5, ru⟩ := lk.1 _ hv
            rw [hu'] at e5; cases e5
            have pre : RSt X.K r (upd H a (.dT (dropK ws kk))) (S.set n (.dT (dropD kvs kk))) ∧ Ext r H r (upd H a (.dT (dropK ws kk))) := by
              refine R.put h1 (fun o u z => by rw [e4] at z; cases z) ⟨_, upd_same, ?_⟩
              exact PKV.mono (H := H) (r := r) (TGrow.upd e4 (fun _ z => nomatch z) (fun _ _ z => nomatch z)) (fun _ _ z => z) (PKV.drop q4)
            exact q _ _ pre.2 pre.1 (RV.ext ru R pre.2)
          · rename_i hv
            rw [lk.2 hv] at hu'; cases hu'
        · split at hg
          · rename_i v' hv
            obtain ⟨u', e5, ru⟩ := lk.1 _ hv
            rw [hn] at e5; cases e5
          · cases hg
            exact q _ _ (Ext.refl r H) R r2
    · cases hg
  · cases hg
end
end DV
/-! DV6: dict(..) of a tuple of pairs, sorted(..). -/
namespace DV
open PySem PySem.Spec PyProof.Rows L2

section
variable {X : Cx} {W : WX} {a b c e : Expr} {es : List Expr} {fa fb fc : EvE} {ga gb : AEnv → Sto → Res (List D)} {pos p p2 : Pos} {x : Str}
/-! ### dict(a tuple of pairs), the keys unlike -/
def pairsT? : List D → Option (List (List Key × D))
  | [] => some []
  | .tup [k, v] :: ds => match keyT? k, pairsT? ds with
    | some kk, some r => some ((kk, v) :: r)
    | _, _ => none
  | _ => none
theorem pairsT_of {K : PySem.W.Frag} {r : List Addr} {H : Hp} : ∀ {ds : List D} {kvs : List (List Key × D)} {vs : List V}, pairsT? ds = some kvs → RVs K r H ds vs →
    ∃ (T : List Addr) (xs : List (List Key × Addr × V)), vs = T.map V.ref ∧ PKV K r H kvs (xs.map fun x => (x.1, x.2.2)) ∧ Paired (fun (t : Addr) (x : List Key × Addr × V) => H t = some (.tup [.ref x.2.1, x.2.2]) ∧ H x.2.1 = some (.tup (x.1.map kV))) T xs
  | [], kvs, _, h, .nil => by simp [pairsT?] at h; subst h; exact ⟨[], [], rfl, .nil, .nil⟩
  | .tup [k, v] :: ds, kvs, _, h, .cons (vs := vs) (v := pv) hr t => by
    cases hk : keyT? k with
    | none => simp [pairsT?, hk] at h
    | some kk =>
      cases hp : pairsT? ds with
      | none => simp [pairsT?, hk, hp] at h
      | some rest =>
        simp [pairsT?, hk, hp] at h
        subst h
        obtain ⟨T, xs, e1, e2, e3⟩ := pairsT_of hp t
        cases hr with
        | @tup _ us a ha q =>
          obtain ⟨u, w, rfl, q1, q2⟩ := RVs.two q
          obtain ⟨b, rfl, hb⟩ := q1.keyT hk
          exact ⟨a :: T, (kk, b, w) :: xs, by rw [e1]; rfl, .cons ⟨rfl, q2⟩ e2, .cons ⟨ha, hb⟩ e3⟩
  | .tup [] :: ds, kvs, _, h, _ => by simp [pairsT?] at h
  | .tup [_] :: ds, kvs, _, h, _ => by simp [pairsT?] at h
  | .tup (_ :: _ :: _ :: _) :: ds, kvs, _, h, _ => by simp [pairsT?] at h
  | .non :: ds, kvs, _, h, _ => by simp [pairsT?] at h
  | .bl _ :: ds, kvs, _, h, _ => by simp [pairsT?] at h
  | .int _ :: ds, kvs, _, h, _ => by simp [pairsT?] at h
  | .str _ :: ds, kvs, _, h, _ => by simp [pairsT?] at h
  | .cst _ :: ds, kvs, _, h, _ => by simp [pairsT?] at h
  | .fup _ :: ds, kvs, _, h, _ => by simp [pairsT?] at h
  | .loc _ :: ds, kvs, _, h, _ => by simp [pairsT?] at h
/-- the pairs as they stand in memory -/
theorem pairs_heap {pins : List (Addr × Obj)} {σ : L2.St} {H : Hp} {s : Shared} (I : Inv X pins σ H s) : ∀ {T : List Addr} {xs : List (List Key × Addr × V)}, Paired (fun (t : Addr) (x : List Key × Addr × V) => H t = some (.tup [.ref x.2.1, x.2.2]) ∧ H x.2.1 = some (.tup (x.1.map kV))) T xs →
    ∃ ys : List (List Key × Addr × Value), Paired (fun (x : List Key × Addr × V) (y : List Key × Addr × Value) => x.1 = y.1 ∧ x.2.1 = y.2.1 ∧ H x.2.1 = some (.tup (x.1.map kV)) ∧ RelV x.2.2 y.2.2) xs ys ∧
      Paired (fun (t : Addr) (y : List Key × Addr × Value) => PairAt s.heap t (.ref y.2.1) y.2.2) T ys
  | _, _, .nil => ⟨[], .nil, .nil⟩
  | _, _, .cons (a := t) (b := x) ⟨h1, h2⟩ tl => by
    obtain ⟨ys, q1, q2⟩ := pairs_heap I tl
    obtain ⟨its, rv, ht, _⟩ := I.tuple (.inl (.inl h1))
    obtain ⟨u, w, rfl, r1, r2⟩ := Vals.two rv
    cases r1
    exact ⟨(x.1, x.2.1, w) :: ys, .cons ⟨rfl, rfl, h2, r2⟩ q1, .cons (.inl ht) q2⟩
theorem refs_of {T : List Addr} {us : List Value} (h : Vals (T.map V.ref) us) : us = T.map Value.ref := by
  induction T generalizing us with
  | nil => cases h; rfl
  | cons t T ih =>
    cases h with
    | cons h t => cases h; rw [ih t]; rfl
theorem paired_get {α β : Type} {F : α → β → Prop} : ∀ {l : List α} {m : List β} {j : Nat} {y : β}, Paired F l m → m[j]? = some y → ∃ x, l[j]? = some x ∧ F x y
  | _, _, _, _, .nil, e => by simp at e
  | _, _, 0, _, .cons h _, e => by simp at e; subst e; exact ⟨_, rfl, h⟩
  | _, _, j + 1, y, .cons _ t, e => by
    obtain ⟨x, h1, h2⟩ := paired_get (j := j) (y := y) t (by simpa using e)
    exact ⟨x, by simpa using h1, h2⟩
theorem call_dictF (hc : X.calm = true) (hu : X.A.units + 64 < cLine) : CallR X (.type "dict") (fun vs H Q => ∃ (a : Addr) (o : Obj) (T : List Addr) (xs : List (List Key × Addr × V)), vs = [.ref a] ∧ H a = some (.frz o (.tup (T.map V.ref))) ∧ o.dict = none ∧
    Paired (fun (t : Addr) (x : List Key × Addr × V) => H t = some (.tup [.ref x.2.1, x.2.2]) ∧ H x.2.1 = some (.tup (x.1.map kV))) T xs ∧ (xs.map (·.1)).Nodup ∧ ∀ p, H p = none → Q (.ref p) (upd H p (.dT (xs.map fun x => (x.1, x.2.2))))) := by
  intro pins s σ H vs us Q I r h
  obtain ⟨a, o, T, xs, rfl, ha, hd, hp, hn, q⟩ := h
  obtain ⟨u, rfl, rx⟩ := vals1 r
  cases rx
  obtain ⟨ho, hz, its, rv, o', ho', hc', n, hdat⟩ := (show ObjOk X.prog X.w H s.heap a (.frz o (.tup (T.map V.ref))) from I.hok a _ ha)
  rw [ho] at ho'
  cases ho'
  obtain ⟨ys, p1, p2⟩ := pairs_heap I hp
  have hT := refs_of rv
  subst hT
  have l1 : xs.length = ys.length := Paired.length p1
  have l2 : T.length = ys.length := Paired.length p2
  have kx : xs.map (·.1) = ys.map (·.1) := by
    clear hp p2 l2 l1 hn q
    induction p1 with
    | nil => rfl
    | cons h _ ih => simp only [List.map_cons, ih, h.1]
  have hny : (ys.map (·.1)).Nodup := by rw [← kx]; exact hn
  have P := PairArg.tuple (prog := X.prog) (w := X.w) a (T.map Value.ref).toArray (fun j => T.getD j 0) (ys.map fun y => (Value.ref y.2.1, y.2.2))
  have ok : PlainSeq "tuple" s.heap a (T.map Value.ref).toArray ∧ PairItems s.heap (T.map Value.ref).toArray (fun j => T.getD j 0) (ys.map fun y => (Value.ref y.2.1, y.2.2)) := by
    refine ⟨⟨o, n, ho, hc', hd, hdat⟩, by simp [l2], fun j k v e => ?_⟩
    rw [List.getElem?_map] at e
    cases hy : ys[j]? with
    | none => rw [hy] at e; cases e
    | some y =>
      rw [hy] at e
      cases e
      obtain ⟨t, ht, hpa⟩ := paired_get p2 hy
      have hg : (fun j => T.getD j 0) j = t := by show T.getD j 0 = t; rw [List.getD_eq_getElem?_getD, ht]; rfl
      refine ⟨?_, by rw [hg]; exact hpa⟩
      rw [hg, List.getElem?_toArray, List.getElem?_map, ht]; rfl
  have kin : ∀ y ∈ ys, (tupleKind (mixKind X.prog X.w)).is s.heap y.1 y.2.1 := fun y hy => by
    obtain ⟨j, hj, e⟩ := List.mem_iff_getElem.mp hy
    obtain ⟨x, hx, h1, h2, h3, _⟩ := paired_get p1 (show ys[j]? = some y by rw [List.getElem?_eq_getElem hj, e])
    rw [← h1, ← h2]
    exact key_of I.hok h3
  have hlen : (ys.map fun y => (Value.ref y.2.1, y.2.2)).length ≤ sizeLine := by rw [List.length_map, ← l2]; rw [List.length_map] at hz; exact hz
  refine call_dict_pairsH (knd := tupleKind (mixKind X.prog X.w)) (ps := ys) P (I.ok.hd hc) (tupleKind_room_in1 (A := X.A.in1) (by show X.A.units + 1 + 1 < cLine; omega)) ok ⟨by simp, fun i key v e => ?_⟩ (fun h' hk y hy => ?_) hlen fun h' tk hd' hk => ?_
  · have e : (ys.map fun y => (Value.ref y.2.1, y.2.2))[i]? = some (key, v) := e
    rw [List.getElem?_map] at e
    cases hy : ys[i]? with
    | none => rw [hy] at e; cases e
    | some y => rw [hy] at e; cases e; exact ⟨y.1, y.2.1, rfl, rfl⟩
  · obtain ⟨oy, iy, ny, g1, g2, g3, g4⟩ := kin y hy
    exact ⟨oy, iy, ny, hk _ _ (Nat.ne_of_lt (Heap.lt_size g1)) (by simp) g1, g2, g3, g4⟩
  · rw [storedAllH_nil_of_nodup _ hny] at hd'
    have k' : ∀ b u, s.heap.get? b = some u → h'.get? b = some u := fun b u z => hk b u (by simp) z
    have hf : H s.heap.objs.size = none := I.fresh
    refine ⟨.ref s.heap.objs.size, _, I.laid (t' := tk) (o := .dT (xs.map fun x => (x.1, x.2.2))) k' (Nat.le_refl _) ?_, rfl, q _ hf⟩
    obtain ⟨od, es, ep, g1, g2, g3, g4, g5, g6⟩ := hd'
    refine ⟨by rw [List.length_map, l1, ← l2]; rw [List.length_map] at hz; exact hz, ?_, ys, ?_, od, es, ep, g1, g2, g3, g4, hny⟩
    · have := I.big
      exact beq_eq_false_iff_ne.mpr (Nat.ne_of_gt this)
    · have tup : ∀ b zs, H b = some (.tup zs) → (upd H s.heap.objs.size (.dT (xs.map fun x => (x.1, x.2.2)))) b = some (.tup zs) := fun b zs z => by rw [upd_ne (ne_of_none z hf)]; exact z
      generalize upd H s.heap.objs.size (.dT (xs.map fun x => (x.1, x.2.2))) = H2 at tup ⊢
      clear q hp p2 l2 l1 hn hny P ok kin hlen kx g4 g5 g6
      induction p1 with
      | nil => exact .nil
      | @cons x y _ _ h _ ih =>
        refine .cons ⟨h.1, ?_, h.2.2.2⟩ ih
        show H2 y.2.1 = some (.tup (x.1.map kV))
        rw [← h.2.1]; exact tup _ _ h.2.2.1
def dictT (ds : List D) : Option (List (List Key × D)) := (pairsT? ds).bind fun kvs => if (kvs.map (·.1)).Nodup then some kvs else none
@[simp] def eDictK (d : D) (S : Sto) : Res D := match d with
  | .fup ds => match dictT ds with
    | some kvs => .ok (.loc S.length) (S ++ [.dT kvs])
    | none => .bad
  | _ => .bad
@[simp] def eDictF (fa : EvE) : EvE := fun env S => (fa env S).bind fun d S1 => eDictK d S1
theorem d_dictF (hc : X.calm = true) (hu : X.A.units + 64 < cLine) (hg : Gl X "dict") (hm : X.mg "dict" = none) (ha : DE X W e fa)
    (hs : starEach [e] X.env = (false, eval e X.env) :: starEach [] X.env := by rfl) (hpl : (backTo pos (starEach [] X.env)).any (·.1) = false := by rfl) : DE X W (.Call (.Name "dict" p) [e] [] pos) (eDictF fa) :=
  d_pe (pe_callTy (call_dictF hc hu) hg hm (by decide +kernel) (pa_cons ha.pe pa_nil hs) (by decide) (by decide) hs hpl) fun s H Q ⟨r, env, S, R, z⟩ => by
    refine lift_bind (g := fun d env S1 => eDictK d S1) anti_E R z fun d S1 r1 H1 v e1 R1 rv z1 => ?_
    cases rv with
    | @fup ds vs a o h hd q =>
      simp only [eDictK] at z1
      cases hk : dictT ds with
      | none => rw [hk] at z1; exact z1.elim
      | some kvs =>
        rw [hk] at z1
        unfold dictT at hk
        cases hp : pairsT? ds with
        | none => rw [hp] at hk; cases hk
        | some kvs' =>
          rw [hp] at hk
          simp only [Option.bind_some] at hk
          split at hk
          · rename_i hn
            have hk' : kvs' = kvs := Option.some.inj hk
            subst hk'
            obtain ⟨T, xs, rfl, e2, e3⟩ := pairsT_of hp q
            have hkeys : kvs'.map (·.1) = xs.map (·.1) := by
              have : ∀ {l : List (List Key × D)} {m : List (List Key × V)}, PKV X.K r1 H1 l m → l.map (·.1) = m.map (·.1) := by
                intro l m h
                induction h with
                | nil => rfl
                | cons h _ ih => simp only [List.map_cons, ih, h.1]
              rw [this e2, List.map_map]; rfl
            refine ⟨a, o, T, xs, rfl, h, hd, e3, by rw [← hkeys]; exact hn, fun p hp' => ?_⟩
            have hm : RO X.K (r1 ++ [p]) (upd H1 p (.dT (xs.map fun x => (x.1, x.2.2)))) (.dT kvs') p :=
              ⟨_, upd_same, PKV.mono ⟨fun b us z => by rw [upd_ne (ne_of_none z hp')]; exact z, fun b o us z => by rw [upd_ne (ne_of_none z hp')]; exact z⟩ (fun n b z => by rw [List.getElem?_append_left (List.getElem?_eq_some_iff.mp z).1]; exact z) e2⟩
            obtain ⟨R2, x2⟩ := R1.st.alloc hp' hm
            exact z1 _ _ _ x2 R2 (.loc (by rw [← R1.st.len]; simp))
          · cases hk
    | _ => exact z1.elim
/-! ### sorted -/
def encD (d : D) : PyData := d.py.getD .none
open Classical in
/-- what is sorted: data of one form -/
def SortOk (ds : List D) : Prop := (∀ d ∈ ds, ∃ q, d.py = some q ∧ q.depth ≤ 20) ∧ PySem.W.AllAlike (ds.map encD) ∧ PySem.W.Sortable (ds.map encD) ∧ ds.length ≤ LN
open Classical in
noncomputable def sortD (ds : List D) : Option (List D) := if SortOk ds then some (ds.mergeSort (PySem.W.dataLe false encD)) else none
theorem sortD_some {ds ds' : List D} (h : sortD ds = some ds') : SortOk ds ∧ ds' = ds.mergeSort (PySem.W.dataLe false encD) := by
  unfold sortD at h
  split at h
  · rename_i h1; cases h; exact ⟨h1, rfl⟩
  · cases h
theorem each_of {K : PySem.W.Frag} {r : List Addr} {H : Hp} : ∀ {ds : List D} {vs : List V} {us : List Value}, RVs K r H ds vs → Vals vs us → PySem.W.EachIs (fun u d => ∃ v, RelV v u ∧ RV K r H d v) us ds
  | _, _, _, .nil, .nil => .nil
  | _, _, _, .cons h t, .cons r rt => .cons ⟨_, r, h⟩ (each_of t rt)
theorem of_each {K : PySem.W.Frag} {r : List Addr} {H : Hp} : ∀ {ds : List D} {us : List Value}, PySem.W.EachIs (fun u d => ∃ v, RelV v u ∧ RV K r H d v) us ds → ∃ vs, RVs K r H ds vs ∧ Vals vs us
  | _, _, .nil => ⟨[], .nil, .nil⟩
  | _, _, .cons ⟨v, h1, h2⟩ t => by
    obtain ⟨vs, q1, q2⟩ := of_each t
    exact ⟨v :: vs, .cons h2 q1, .cons h1 q2⟩
theorem each_imp {α β : Type} {R R' : α → β → Prop} : ∀ {l : List α} {m : List β}, PySem.W.EachIs R l m → (∀ a b, b ∈ m → R a b → R' a b) → PySem.W.EachIs R' l m
  | _, _, .nil, _ => .nil
  | _, _, .cons h t, k => .cons (k _ _ List.mem_cons_self h) (each_imp t fun a b hb => k a b (List.mem_cons_of_mem _ hb))
theorem reads_each {K : PySem.W.Frag} {pins : List (Addr × Obj)} {σ : L2.St} {H : Hp} {s : Shared} {r : List Addr} {us : List Value} {ds : List D} (I : Inv X pins σ H s) (hok : ∀ d ∈ ds, ∃ q, d.py = some q ∧ q.depth ≤ 20)
    (h : PySem.W.EachIs (fun u d => ∃ v, RelV v u ∧ RV X.K r H d v) us ds) : PySem.W.EachIs (fun u d => ∃ as, Reads s.heap u (encD d) as) us ds :=
  each_imp h fun u d hd ⟨v, h1, h2⟩ => by
    obtain ⟨q, e, _⟩ := hok d hd
    have : encD d = q := by unfold encD; rw [e]; rfl
    rw [this]
    exact Dp.reads I q v u (h2.dp e) h1
theorem sort_depth {A : Around} {ds : List D} {k : Nat} (h : ∀ d ∈ ds, ∃ q, d.py = some q ∧ q.depth ≤ 20) (hk : k ≤ 10) (hu : A.units + 40 < cLine) : ∀ d, d ∈ ds → A.units + k + (encD d).depth < cLine := fun d hd => by
  obtain ⟨q, e, hq⟩ := h d hd
  have : encD d = q := by unfold encD; rw [e]; rfl
  rw [this]; omega
theorem mergeSort_len {ds : List D} : (ds.mergeSort (PySem.W.dataLe false encD)).length = ds.length := List.length_mergeSort _
def CallLL (X : Cx) (f : Value) (g : List D → Option (List D)) : Prop := CallR X f fun xs H Q => OneL X.K xs H fun r S ds _ _ => ∃ ds', g ds = some ds' ∧ ∀ p vs, H p = none → RVs X.K r H ds' vs → Q (.ref p) (upd H p (.lst vs))
theorem c_sortL (hu : X.A.units + 64 < cLine) : CallLL X (.builtin "sorted") sortD := by
  intro pins s σ H xs us Q I rx h
  obtain ⟨r, S, a, vs, ds, rfl, R, na, ha, rv, ds', hg, q⟩ := h
  obtain ⟨⟨h1, h2, h3, h4⟩, rfl⟩ := sortD_some hg
  obtain ⟨its, rvs, hl, hz⟩ := I.list (SqL.of ha)
  rw [Vals.ref1 rx]
  have ee := each_of rv rvs
  refine PySem.W.sorted_data (R := fun u d => ∃ v, RelV v u ∧ RV X.K r H d v) (enc := encD) (bs := ds) hl.isList ee (reads_each (K := X.K) I h1 ee) h2 h3 (LN_line h4) (sort_depth h1 (by omega) (by omega)) fun out ho he => ?_
  obtain ⟨ep, he'⟩ := PyProof.Rows.sortedAll_at s.heap its out.toArray
  obtain ⟨ws, q1, q2⟩ := of_each he
  have hlen : ws.length ≤ sizeLine := by rw [← q1.length, mergeSort_len]; exact LN_line h4
  exact ⟨.ref _, _, I.laid (o := .lst ws) (t' := s.toks) (fun _ _ => PyProof.Rows.sortedAll_old) (Nat.le_succ _) ⟨hlen, out, ep, q2, he'⟩, rfl, q _ ws (I.hok.fresh (Nat.le_succ _)) q1⟩
@[simp] def lOfL (g : List D → Option (List D)) (ga : AEnv → Sto → Res (List D)) : AEnv → Sto → Res (List D) := fun env S => (ga env S).bind fun ds S1 => ofL (g ds) S1
theorem dl_callL {id : String} {g : List D → Option (List D)} (hc : CallLL X (.builtin id) g) (hg : Gl X x) (hm : X.mg x = none) (hv : bootBuiltins x = some (.builtin id)) (ha : DL X W e ga) (hn : x ≠ "__name__" := by decide) (hdb : (x == ("__debug__" : Str)) = false := by decide)
    (hs : starEach [e] X.env = (false, eval e X.env) :: starEach [] X.env := by rfl) (hpl : (backTo pos (starEach [] X.env)).any (·.1) = false := by rfl) : DL X W (.Call (.Name x p) [e] [] pos) (lOfL g ga) :=
  dl_pe (pe_callB hc hg hm hv (pa_cons ha.pe pa_nil hs) hn hdb hs hpl) fun s H Q ⟨r, env, S, R, z⟩ => by
    refine lift_map (RR := RVL X.K) (g := fun ds env S1 => ofL (g ds) S1) R z fun ds S1 r1 H1 v e1 R1 rv z1 => ?_
    obtain ⟨a, vs, rfl, _, na, ha, q⟩ := rv
    cases hg : g ds with
    | none => rw [hg] at z1; exact z1.elim
    | some ds' =>
      rw [hg] at z1
      exact ⟨r1, S1, a, vs, ds, rfl, R1.st, na, ha, q, ds', hg, fun p vs' hp rvs => new_lst z1 e1 R1.st rvs hp⟩
/-- sorted(d): the keys of a dict with tuple keys -/
def keysD (kvs : List (List Key × D)) : List D := kvs.map fun kv => .tup (kv.1.map kD)
noncomputable def gSortK (ds : List D) (S : Sto) : Option (List D) := match ds with
  | [.loc n] => match S[n]? with
    | some (.dT kvs) => sortD (keysD kvs)
    | _ => none
  | _ => none
theorem rvs_keys {K : PySem.W.Frag} {r : List Addr} {H : Hp} : ∀ {kvs : List (List Key × D)} {ws : List (List Key × V)} {xs : List (List Key × Addr × Value)}, PKV K r H kvs ws → KT H ws xs → RVs K r H (keysD kvs) (xs.map fun x => V.ref x.2.1)
  | _, _, _, .nil, .nil => .nil
  | _, _, _, .cons h t, .cons g u => by
    refine .cons ?_ (rvs_keys t u)
    have e : H _ = some (.tup _) := g.2.1
    rw [← h.1] at e
    exact .tup e (RVs.keys _)
theorem c_sortK (hc : X.calm = true) (hu : X.A.units + 64 < cLine) : CallDL X (.builtin "sorted") gSortK := by
  intro pins s σ H xs us Q I rx h
  obtain ⟨r, S, ds, ds', R, rv, hg, q⟩ := h
  unfold gSortK at hg
  split at hg
  · rename_i n
    obtain ⟨v, rfl, hv⟩ := rv.one
    cases hv with
    | @loc _ a h1 =>
      split at hg
      · rename_i kvs e2
        obtain ⟨b, e3, ws, e4, q4⟩ := R.at_ n _ e2
        rw [h1] at e3; cases e3
        obtain ⟨⟨g1, g2, g3, g4⟩, rfl⟩ := sortD_some hg
        rw [Vals.ref1 rx]
        obtain ⟨z, hs, ks, pr, o, es, ep, ho, hx, hdt, he, hn⟩ := (show ObjOk X.prog X.w H s.heap a (.dT ws) from I.hok a _ e4)
        have l1 : es.size = ks.length := by
          have := congrArg List.length he
          rw [List.length_map, Array.length_toList] at this
          exact this
        have l2 : ws.length = ks.length := Paired.length pr
        refine Calls.call_function_entry PyProof.Rows.kind_sorted PyProof.Rows.plain_sorted PyProof.Rows.entry_sorted (PyProof.Rows.args_sorted1 _) ?_
        unfold Builtin.«sorted»
        refine wpAny_bind (m := checkCount "sorted" 1 1 _) (wpAny_pure ?_)
        refine wpAny_bind (PySem.W.kdu_collect (A := X.A.in1) (kdl_raw hs hx hdt) (I.ok.hd hc) ho (by omega) fun h' tk acc hk it => ?_)
        have ea : acc.toList = (ks.map fun x => x.2.1).map Value.ref := by
          have hl : acc.toList.length = ks.length := by rw [Array.length_toList, it.1]; exact l1
          apply List.ext_getElem?
          intro j
          rw [List.getElem?_map, List.getElem?_map]
          cases hj : acc.toList[j]? with
          | none =>
            have h1 := List.getElem?_eq_none_iff.mp hj
            rw [List.getElem?_eq_none (by omega)]
            rfl
          | some v =>
            obtain ⟨en, hen, hv⟩ := it.2 j v (by rw [← Array.getElem?_toList]; exact hj)
            have qe := entry_at he j
            rw [hen] at qe
            cases hb : ks[j]? with
            | none => rw [hb] at qe; exact nomatch (show some en = none from qe)
            | some b =>
              rw [hb] at qe
              have e2 : en = entryOfKey (tupleKind (mixKind X.prog X.w)) b := Option.some.inj qe
              rw [hv, e2]
              rfl
        have rvk := rvs_keys q4 pr
        have vk : Vals (ks.map fun x => V.ref x.2.1) acc.toList := by
          rw [ea, List.map_map]
          clear ea it acc rvk pr he l1 l2
          induction ks with
          | nil => exact .nil
          | cons k ks ih => exact .cons rfl (ih (by simp only [List.map_cons, List.nodup_cons] at hn; exact hn.2))
        have lk : acc.toList.length = (keysD kvs).length := by rw [← vk.length, ← rvk.length]
        have I1 : Inv X pins σ H { s with heap := h', toks := tk } := I.kept hk
        refine wpAny_bind (wpAny_newList ?_ (by rw [lk]; exact LN_line g4))
        have hoL : (h'.push (seqObj "list" acc.toList.toArray 0)).get? h'.objs.size = some (seqObj "list" acc.toList.toArray 0) := Heap.get?_push_size _ rfl
        have I2 : Inv X pins σ H { s with heap := h'.push (seqObj "list" acc.toList.toArray 0), toks := tk } := I1.kept (t' := tk) fun b u z => Heap.get?_push_of_some _ z
        show wpAny _ _ _ _ _ { s with heap := h'.push (seqObj "list" acc.toList.toArray 0), toks := tk }
        have ee := each_of rvk vk
        have er : PySem.W.EachIs (fun u d => ∃ as, Reads h' u (encD d) as) acc.toList (keysD kvs) := reads_each (K := X.K) I1 g1 ee
        have er2 : PySem.W.EachIs (fun u d => ∃ as, Reads (h'.push (seqObj "list" acc.toList.toArray 0)) u (encD d) as ∧ h'.objs.size ∉ as) acc.toList (keysD kvs) := each_imp er fun u d _ ⟨as, hr⟩ =>
          ⟨as, PyProof.Rows.Reads.keeps (fun b o z => Heap.get?_push_of_some _ z) hr, fun z => by
            obtain ⟨ob, hob⟩ := PyProof.On.reads_mem_get hr _ z
            exact absurd (Heap.lt_size hob) (Nat.lt_irrefl _)⟩
        refine wpAny_bind (wpAny_holding (PySem.W.list_sort_data (A := X.A.in1) (s := { s with heap := h'.push (seqObj "list" acc.toList.toArray 0), toks := tk }) (R := fun u d => ∃ v, RelV v u ∧ RV X.K r H d v) (enc := encD) hoL ee er2 g2 g3 (LN_line g4) (sort_depth (A := X.A.in1) (k := 1) g1 (by omega) (by show X.A.units + 1 + 40 < cLine; omega)) fun out ho2 he2 => ?_))
        obtain ⟨e', he'⟩ := PyProof.Rows.sortedHeap_at (vs := acc.toList) (out := out.toArray) hoL
        obtain ⟨zs, q1, q2⟩ := of_each he2
        have hlen : zs.length ≤ sizeLine := by rw [← q1.length, mergeSort_len]; exact LN_line g4
        have kept : ∀ b u, h'.get? b = some u → (PyProof.Rows.sortedHeap (h'.push (seqObj "list" acc.toList.toArray 0)) h'.objs.size acc.toList out.toArray).get? b = some u := fun b u z1 => by
          have z2 : b < h'.objs.size := Heap.lt_size z1
          rw [PyProof.Rows.sortedHeap_old (Nat.ne_of_lt z2) (by rw [size_push']; exact Nat.lt_succ_of_lt z2)]
          exact Heap.get?_push_of_some _ z1
        have hfree : H h'.objs.size = none := I1.hok.fresh (Nat.le_refl _)
        refine wpAny_pure ⟨_, rfl, .ref h'.objs.size, _, I1.laid (o := .lst zs) (t' := tk) kept (Nat.le_refl _) ⟨hlen, out, e', q2, he'⟩, rfl, ?_⟩
        obtain ⟨R2, x2⟩ := R.new (o := .lst zs) hfree
        exact q _ _ zs x2 R2 hfree (R.nmem hfree) upd_same (RVs.ext q1 R x2)
      · cases hg
  · cases hg
end
end DV
/-! DV7: calls of defs, statements, targets, loops, comprehensions, the rule for a def. -/
namespace DV
open PySem PySem.Spec PyProof.Rows L2

section
variable {X : Cx} {W : WX} {a b c e o : Expr} {es : List Expr} {fa fb fc fo : EvE} {ga gb : AEnv → Sto → Res (List D)} {pos p p2 : Pos} {x : Str}
/-! ### calls of defs -/
/-- the promise of a def: it does what F does -/
def spD (K : PySem.W.Frag) (n : Nat) (F : List D → Sto → Res D) : Sp := fun vs H Q E => vs.length = n ∧ ∃ r S ds, RSt K r H S ∧ RVs K r H ds vs ∧ match F ds S with
  | .ok d S' => ∀ r' H' v, Ext r H r' H' → RSt K r' H' S' → RV K r' H' d v → Q v H'
  | .exc c S' => ∀ r' H' cls dx, Ext r H r' H' → RSt K r' H' S' → RX K r' H' c cls dx → E cls dx H'
  | .bad => False
@[simp] def eCall (n : Nat) (F : List D → Sto → Res D) (ga : AEnv → Sto → Res (List D)) : EvE := fun env S => (ga env S).bind fun ds S1 => if ds.length = n then F ds S1 else .bad
theorem d_call {k : Nat} {f : Addr} {fd : FuncData} {ps : List Str} {F : List D → Sto → Res D} (G : FnOk X.prog X.w X.K X.mg X.base (L2.CX X.prog X.w) k f fd ps (spD X.K ps.length F)) (hr : Room k X.A) (tk : Takes X W) (hg : Gl X x) (hm : X.mg x = some (.ref f))
    (hk : PySem.W.keepIn X.K (.ref f) = true) (hb : Binds X.K fd ps []) (ha : DA X W (e :: es) ga) (hdb : (x == ("__debug__" : Str)) = false := by decide) (he : starEach (e :: es) X.env = (false, eval e X.env) :: starEach es X.env := by rfl)
    (hpl : (backTo pos (starEach es X.env)).any (·.1) = false := by rfl) : DE X W (.Call (.Name x p) (e :: es) [] pos) (eCall ps.length F ga) :=
  d_pe (pe_callS G hr hg hm hk hb (passAt tk) ha.pa hdb he hpl) fun s H Q ⟨r, env, S, R, z⟩ => by
    refine lift_bind (g := fun ds env S1 => (if ds.length = ps.length then F ds S1 else Res.bad : Res D)) anti_E R z fun ds S1 r1 H1 vs e1 R1 rv z1 => ?_
    by_cases hl : ds.length = ps.length
    · rw [if_pos hl] at z1
      refine ⟨by rw [← rv.length]; exact hl, r1, S1, ds, R1.st, rv, ?_⟩
      cases hF : F ds S1 with
      | ok d S' => rw [hF] at z1; exact fun r' H' v x' R' rv' => z1 r' H' v x' R' rv'
      | exc c S' => rw [hF] at z1; exact fun r' H' cls dx x' R' rx' => z1 r' H' cls dx x' R' rx'
      | bad => rw [hF] at z1; exact z1
    · rw [if_neg hl] at z1; exact z1.elim
/-! ### statements -/
variable {st : Stmt} {sts : List Stmt} {f g : EvS}
theorem s_ps {st : Stmt} {f : EvS} {tt : TS} (h : PS X st tt) (k : ∀ E s H, liftS X.K W f E s H → tt E s H) : DS X W st f := ⟨PS.imp h k⟩
@[simp] def sNil : EvS := fun env S => .nx env S
@[simp] def sThen (x : SRes) (k : AEnv → Sto → SRes) : SRes := match x with
  | .nx env S => k env S
  | .ret d S => .ret d S
  | .brk env S => .brk env S
  | .ct env S => .ct env S
  | .exc c env S => .exc c env S
  | .bad => .bad
@[simp] def sSeq (f g : EvS) : EvS := fun env S => sThen (f env S) g
theorem dss_nil : DSs X W [] sNil := ⟨PSs.imp pss_nil fun E s H ⟨r, env, S, R, z⟩ => z r H s (Ext.refl r H) R⟩
theorem dss_cons (h1 : DS X W st f) (h2 : DSs X W sts g) : DSs X W (st :: sts) (sSeq f g) := ⟨PSs.imp (pss_cons h1.ps h2.ps) fun E s H ⟨r, env, S, R, z⟩ => by
  refine ⟨r, env, S, R, ?_⟩
  simp only [sSeq] at z
  cases hf : f env S with
  | nx env1 S1 => rw [hf] at z; exact fun r1 H1 s1 e1 R1 => ⟨r1, env1, S1, R1, sresP.ext z e1⟩
  | ret d S1 => rw [hf] at z; exact z
  | brk env1 S1 => rw [hf] at z; exact z
  | ct env1 S1 => rw [hf] at z; exact z
  | exc c env1 S1 => rw [hf] at z; exact z
  | bad => rw [hf] at z; exact z⟩
theorem dss_one (h1 : DS X W st f) : DSs X W [st] f := ⟨pss_one h1.ps⟩
theorem ds_pass : DS X W (.Pass pos) sNil := s_ps ps_pass fun E s H ⟨r, env, S, R, z⟩ => z r H s (Ext.refl r H) R
@[simp] def sBrk : EvS := fun env S => .brk env S
@[simp] def sCt : EvS := fun env S => .ct env S
theorem ds_break : DS X W (.Break pos) sBrk := s_ps ps_break fun E s H ⟨r, env, S, R, z⟩ => z r H s (Ext.refl r H) R
theorem ds_continue : DS X W (.Continue pos) sCt := s_ps ps_continue fun E s H ⟨r, env, S, R, z⟩ => z r H s (Ext.refl r H) R
/-- a statement that is never reached -/
@[simp] def sNever : EvS := fun _ _ => .bad
theorem ds_never : DS X W st sNever := s_ps ps_never fun E s H ⟨r, env, S, R, z⟩ => z
@[simp] def sSet (i : Nat) (f : EvE) : EvS := fun env S => sbind (f env S) env fun d S1 => .nx (env.set i (some d)) S1
theorem ds_set {i : Nat} {y : Str} {pos' : Pos} (hN : X.N.Nodup) (ha : DE X W e fa) (hi : X.N[i]? = some y := by rfl) (hx : Loc X.env.scope y := by first | exact .inl rfl | exact .inr rfl)
    (hs : swapsWith e (some (.Name y pos')) pos.line X.env = pure false := by rfl) (hf : X.fn y = true ∨ X.env.scope.names.lookup y = some .local := by first | exact .inl rfl | exact .inr rfl) : DS X W (.Assign [.Name y pos'] e pos) (sSet i fa) :=
  s_ps (ps_set hN hi hx ha.pe hs hf) fun E s H ⟨r, env, S, R, z⟩ => by
    refine slift_bind (g := fun d S1 => SRes.nx (env.set i (some d)) S1) R z fun d S1 r1 H1 v e1 R1 rv z1 => ?_
    exact z1 r1 H1 _ (Ext.refl r1 H1) (R1.set rv)
@[simp] def sExpr (f : EvE) : EvS := fun env S => sbind (f env S) env fun _ S1 => .nx env S1
theorem ds_expr (ha : DE X W e fa) (hs : swapsWith e none pos.line X.env = pure false := by rfl) : DS X W (.Expr e pos) (sExpr fa) :=
  s_ps (ps_expr ha.pe hs) fun E s H ⟨r, env, S, R, z⟩ => by
    refine slift_bind (g := fun d S1 => SRes.nx env S1) R z fun d S1 r1 H1 v e1 R1 rv z1 => ?_
    exact z1 r1 H1 _ (Ext.refl r1 H1) R1
@[simp] def sRet (f : EvE) : EvS := fun env S => sbind (f env S) env fun d S1 => .ret d S1
theorem ds_ret (ha : DE X W e fa) : DS X W (.Return (some e) pos) (sRet fa) :=
  s_ps (ps_ret ha.pe) fun E s H ⟨r, env, S, R, z⟩ => by
    refine slift_bind (g := fun d S1 => SRes.ret d S1) R z fun d S1 r1 H1 v e1 R1 rv z1 => ?_
    exact z1 r1 H1 _ (Ext.refl r1 H1) R1.st rv
@[simp] def sRetN : EvS := fun _ S => .ret .non S
theorem ds_retN : DS X W (.Return none pos) sRetN := s_ps ps_retN fun E s H ⟨r, env, S, R, z⟩ => z r H _ (Ext.refl r H) R.st .non
@[simp] def sIf (p : AEnv → Sto → Res Bool) (f g : EvS) : EvS := fun env S => sbind (p env S) env fun b S1 => if b then f env S1 else g env S1
theorem ds_if {q : AEnv → Sto → Res Bool} {xs ys : List Stmt} (hc : DT X W c q) (ha : DSs X W xs f) (hb : DSs X W ys g) : DS X W (.If c xs ys pos) (sIf q f g) :=
  s_ps (ps_if hc.pt ha.ps hb.ps) fun E s H ⟨r, env, S, R, z⟩ => by
    refine slift_bind (RR := RVT) (g := fun (b : Bool) S1 => (if b then f env S1 else g env S1 : SRes)) R z fun d S1 r1 H1 v e1 R1 rv z1 => ?_
    cases rv
    cases d with
    | true => rw [if_pos rfl]; exact ⟨r1, env, S1, R1, z1⟩
    | false => rw [if_neg Bool.false_ne_true]; exact ⟨r1, env, S1, R1, z1⟩
/-! ### targets -/
abbrev GvT := D → AEnv → Sto → Option (AEnv × Sto)
def SameBut (vs : List Nat) (s s' : L2.St) : Prop := s'.length = s.length ∧ ∀ i, i ∉ vs → s'[i]? = s[i]?
theorem SameBut.refl (vs : List Nat) (s : L2.St) : SameBut vs s s := ⟨rfl, fun _ _ => rfl⟩
theorem SameBut.trans {vs : List Nat} {s s1 s2 : L2.St} (h : SameBut vs s s1) (h' : SameBut vs s1 s2) : SameBut vs s s2 := ⟨h'.1.trans h.1, fun i hi => (h'.2 i hi).trans (h.2 i hi)⟩
theorem SameBut.mono {vs us : List Nat} {s s1 : L2.St} (h : SameBut vs s s1) (k : ∀ i ∈ vs, i ∈ us) : SameBut us s s1 := ⟨h.1, fun i hi => h.2 i fun z => hi (k i z)⟩
theorem wipe_in {s : L2.St} : ∀ {vs : List Nat} {i : Nat}, i ∈ vs → i < s.length → (wipe s vs)[i]? = some none
  | v :: vs, i, h, hl => by
    unfold wipe
    by_cases hv : v = i
    · subst hv; rw [List.getElem?_set_self (by rw [wipe_length]; exact hl)]
    · rw [List.getElem?_set_ne hv]
      exact wipe_in ((List.mem_cons.mp h).resolve_left fun z => hv z.symm) hl
theorem SameBut.wipe {vs : List Nat} {s s' : L2.St} (h : SameBut vs s s') : L2.wipe s' vs = L2.wipe s vs := by
  apply List.ext_getElem?
  intro i
  by_cases hi : i ∈ vs
  · by_cases hl : i < s.length
    · rw [wipe_in hi hl, wipe_in hi (by rw [h.1]; exact hl)]
    · rw [List.getElem?_eq_none (by rw [wipe_length, h.1]; omega), List.getElem?_eq_none (by rw [wipe_length]; omega)]
  · rw [wipe_out hi, wipe_out hi]; exact h.2 i hi
def liftG (K : PySem.W.Frag) (vs : List Nat) (g : GvT) : TG := fun v s H Q => ∃ r env S d, RA K r H s env S ∧ RV K r H d v ∧ match g d env S with
  | some q => ∀ r' H' s', Ext r H r' H' → RA K r' H' s' q.1 q.2 → SameBut vs s s' → Q s' H'
  | none => False
structure DG (X : Cx) (t : Expr) (vs : List Nat) (g : GvT) : Prop where
  pg : PG X t (liftG X.K vs g)
theorem PG.imp {t : Expr} {q q' : TG} (h : PG X t q) (k : ∀ v s H Q, q' v s H Q → q v s H Q) : PG X t q' := ⟨fun pins s σ H v u Q I r z => h.run pins s σ H v u Q I r (k _ _ _ _ z)⟩
theorem PGs.imp {t : List Expr} {q q' : TGs} (h : PGs X t q) (k : ∀ v s H Q, q' v s H Q → q v s H Q) : PGs X t q' := ⟨fun pins s σ H v u Q I r z => h.run pins s σ H v u Q I r (k _ _ _ _ z)⟩
@[simp] def gN (i : Nat) : GvT := fun d env S => some (env.set i (some d), S)
theorem dg_name {i : Nat} {y : Str} (hN : X.N.Nodup) (hi : X.N[i]? = some y := by rfl) (hx : Loc X.env.scope y := by first | exact .inl rfl | exact .inr rfl) (hf : X.fn y = true ∨ X.env.scope.names.lookup y = some .local := by first | exact .inl rfl | exact .inr rfl) : DG X (.Name y pos) [i] (gN i) :=
  ⟨PG.imp (pg_name hN hi hx hf) fun v s H Q ⟨r, env, S, d, R, rv, z⟩ => z r H _ (Ext.refl r H) (R.set rv) ⟨by simp, fun j hj => List.getElem?_set_ne (fun e => hj (by simp [e]))⟩⟩
/-- several targets -/
abbrev GvTs := List D → AEnv → Sto → Option (AEnv × Sto)
@[simp] def gNil' : GvTs := fun ds env S => match ds with
  | [] => some (env, S)
  | _ => none
@[simp] def gCons' (g : GvT) (h : GvTs) : GvTs := fun ds env S => match ds with
  | d :: ds => (g d env S).bind fun q => h ds q.1 q.2
  | [] => none
structure DGs (X : Cx) (t : List Expr) (vs : List Nat) (g : GvTs) : Prop where
  pgs : PGs X t (fun ws s H Q => ∃ r env S ds, RA X.K r H s env S ∧ RVs X.K r H ds ws ∧ match g ds env S with
    | some q => ∀ r' H' s', Ext r H r' H' → RA X.K r' H' s' q.1 q.2 → SameBut vs s s' → Q s' H'
    | none => False)
theorem dgs_nil : DGs X [] [] gNil' := ⟨PGs.imp pgs_nil fun ws s H Q ⟨r, env, S, ds, R, rv, z⟩ => by
  cases rv with
  | nil => exact ⟨rfl, z r H s (Ext.refl r H) R (SameBut.refl _ _)⟩
  | cons _ _ => exact z.elim⟩
theorem dgs_cons {t : Expr} {ts : List Expr} {vs us : List Nat} {g : GvT} {h : GvTs} (h1 : DG X t vs g) (h2 : DGs X ts us h)
    (hs : (assignEach (t :: ts) X.env).map (·.2) = assign t X.env :: (assignEach ts X.env).map (·.2) := by rfl) : DGs X (t :: ts) (vs ++ us) (gCons' g h) :=
  ⟨PGs.imp (pgs_cons h1.pg h2.pgs hs) fun ws s H Q ⟨r, env, S, ds, R, rv, z⟩ => by
    cases rv with
    | nil => exact z.elim
    | @cons d v ds ws rv rvs =>
      refine ⟨v, ws, rfl, r, env, S, d, R, rv, ?_⟩
      simp only [gCons'] at z
      cases hg : g d env S with
      | none => rw [hg] at z; exact z.elim
      | some q =>
        rw [hg] at z
        intro r1 H1 s1 e1 R1 sb
        refine ⟨r1, q.1, q.2, ds, R1, RVs.ext rvs R.st e1, ?_⟩
        simp only [Option.bind_some] at z
        cases hh : h ds q.1 q.2 with
        | none => rw [hh] at z; exact z.elim
        | some q2 =>
          rw [hh] at z
          exact fun r2 H2 s2 e2 R2 sb2 => z r2 H2 s2 (e1.trans e2) R2 ((sb.mono fun i hi => List.mem_append_left _ hi).trans (sb2.mono fun i hi => List.mem_append_right _ hi))⟩
@[simp] def gTup' (n : Nat) (h : GvTs) : GvT := fun d env S => match d.seq? with
  | some ds => if ds.length = n then h ds env S else none
  | none => none
theorem dg_tup {ts : List Expr} {k n : Nat} {vs : List Nat} {h : GvTs} (hc : X.calm = true) (hg : DGs X ts vs h) (hn : (assignEach ts X.env).length = n := by rfl) (hst : (assignEach ts X.env).findIdx? (·.1) = none := by rfl) : DG X (.Tuple ts k pos) vs (gTup' n h) :=
  ⟨PG.imp (pg_tup hc hg.pgs hn hst) fun v s H Q ⟨r, env, S, d, R, rv, z⟩ => by
    simp only [gTup'] at z
    split at z
    · rename_i q hq
      split at hq
      · rename_i ds hd
        split at hq
        · rename_i hl
          obtain ⟨a, us, rfl, h1, h2⟩ := rv.seq hd
          refine ⟨a, us, rfl, h1, by rw [← h2.length]; exact hl, r, env, S, ds, R, h2, ?_⟩
          rw [hq]
          exact z
        · cases hq
      · cases hq
    · exact z.elim⟩
/-- target = value -/
@[simp] def sNx (o : Option (AEnv × Sto)) : SRes := match o with
  | some q => .nx q.1 q.2
  | none => .bad
@[simp] def sAsg (f : EvE) (g : GvT) : EvS := fun env S => sbind (f env S) env fun d S1 => sNx (g d env S1)
theorem ds_asg {t : Expr} {vs : List Nat} {g : GvT} (ha : DE X W e fa) (hg : DG X t vs g) (hs : swapsWithSole [t] e pos.line X.env = pure false := by rfl) (hw : swappedStores [t] e X.env = pure none := by rfl)
    (h1 : (assignEach [t] X.env).map (·.2) = [assign t X.env] := by rfl) : DS X W (.Assign [t] e pos) (sAsg fa g) :=
  s_ps (ps_asg ha.pe hg.pg hs hw h1) fun E s H ⟨r, env, S, R, z⟩ => by
    refine slift_bind (g := fun d S1 => sNx (g d env S1)) R z fun d S1 r1 H1 v e1 R1 rv z1 => ?_
    refine ⟨r1, env, S1, d, R1, rv, ?_⟩
    cases hq : g d env S1 with
    | none => rw [hq] at z1; exact z1.elim
    | some q => rw [hq] at z1; exact fun r2 H2 s2 e2 R2 _ => z1 r2 H2 s2 e2 R2
/-- a, b = x, y -/
@[simp] def sParK (i j : Nat) (ds : List D) (env : AEnv) (S : Sto) : SRes := match ds with
  | [d, d'] => .nx ((env.set i (some d)).set j (some d')) S
  | _ => .bad
@[simp] def sPar (i j : Nat) (ga : AEnv → Sto → Res (List D)) : EvS := fun env S => sbind (ga env S) env fun ds S1 => sParK i j ds env S1
theorem ds_par {i j : Nat} {y z : Str} {px py pt : Pos} {kt k2 pt2} (hc : X.calm = true) (hN : X.N.Nodup) (ha : DA X W [a, b] ga) (hi : X.N[i]? = some y := by rfl) (hj : X.N[j]? = some z := by rfl) (hij : i ≠ j := by decide)
    (hx : X.env.scope.names.lookup y = some .local := by rfl) (hy : X.env.scope.names.lookup z = some .local := by rfl)
    (hw : swappedStores [.Tuple [.Name y px, .Name z py] kt pt] (.Tuple [a, b] k2 pt2) X.env = pure (some [y, z]) := by rfl)
    (hs : swapsWithSole [.Tuple [.Name y px, .Name z py] kt pt] (.Tuple [a, b] k2 pt2) pos.line X.env = pure false := by rfl) :
    DS X W (.Assign [.Tuple [.Name y px, .Name z py] kt pt] (.Tuple [a, b] k2 pt2) pos) (sPar i j ga) :=
  s_ps (ps_par hc hN hi hj hij hx hy ha.pa hw hs) fun E s H ⟨r, env, S, R, z⟩ => by
    refine slift_bind (RR := RVA X.K) (g := fun ds S1 => sParK i j ds env S1) R z fun ds S1 r1 H1 vs e1 R1 rv z1 => ?_
    cases rv with
    | nil => exact z1.elim
    | cons h t =>
      cases t with
      | nil => exact z1.elim
      | cons h2 t2 =>
        cases t2 with
        | cons _ _ => exact z1.elim
        | nil => exact ⟨_, _, rfl, z1 r1 H1 _ (Ext.refl r1 H1) ((R1.set h).set h2)⟩
/-- o[i] = e: a list -/
def setLD (o i v : D) (S : Sto) : Option Sto := match i, mutL o S with
  | .int k, some (n, xs) => (ixN xs.length k).map fun j => S.set n (.lst (xs.set j v))
  | _, _ => none
@[simp] def sPut (w : D → D → D → Sto → Option Sto) (fo fi f : EvE) : EvS := fun env S => sbind (f env S) env fun v S1 => sbind (fo env S1) env fun o S2 => sbind (fi env S2) env fun i S3 => match w o i v S3 with
  | some S' => .nx env S'
  | none => .bad
@[simp] def sNxS (env : AEnv) (o : Option Sto) : SRes := match o with
  | some S => .nx env S
  | none => .bad
@[simp] def sPut' (w : D → D → D → Sto → Option Sto) (fo fi f : EvE) : EvS := fun env S => sbind (f env S) env fun v S1 => sbind (fo env S1) env fun o S2 => sbind (fi env S2) env fun i S3 => sNxS env (w o i v S3)
theorem put_lift {w : D → D → D → Sto → Option Sto} {fi : EvE} {E : Ends} {s : L2.St} {H : Hp} {P : V → V → V → Hp → Prop} (h : liftS X.K W (sPut' w fo fi fa) E s H)
    (k : ∀ r S d o i xv xo xi H3 S' env, RA X.K r H3 s env S → RV X.K r H3 d xv → RV X.K r H3 o xo → RV X.K r H3 i xi → w o i d S = some S' → (∀ H' , Ext r H3 r H' → RSt X.K r H' S' → E.nx s H') → P xv xo xi H3) :
    liftE X.K W fa s H fun xv H1 => liftE X.K W fo s H1 fun xo H2 => liftE X.K W fi s H2 fun xi H3 => P xv xo xi H3 := by
  obtain ⟨r, env, S, R, z⟩ := h
  refine slift_bind (g := fun v S1 => sbind (fo env S1) env fun o S2 => sbind (fi env S2) env fun i S3 => sNxS env (w o i v S3)) R z fun v S1 r1 H1 xv e1 R1 rv z1 => ?_
  refine slift_bind (g := fun o S2 => sbind (fi env S2) env fun i S3 => sNxS env (w o i v S3)) R1 z1 fun o S2 r2 H2 xo e2 R2 ro z2 => ?_
  refine slift_bind (g := fun i S3 => sNxS env (w o i v S3)) R2 z2 fun i S3 r3 H3 xi e3 R3 ri z3 => ?_
  cases hw : w o i v S3 with
  | none => rw [hw] at z3; exact z3.elim
  | some S' =>
    rw [hw] at z3
    exact k r3 S3 v o i xv xo xi H3 S' env R3 (RV.ext (RV.ext rv R1.st e2) R2.st e3) (RV.ext ro R2.st e3) ri hw fun H' x' R' => z3 r3 H' s x' (R3.ext x' R')
theorem ds_putL {i : Expr} {fi : EvE} {pos' : Pos} (ho : DE X W o fo) (hi : DE X W i fi) (ha : DE X W e fa) (hs : swapsWithSole [.Subscript o i pos'] e pos.line X.env = pure false := by rfl) (hw : swappedStores [.Subscript o i pos'] e X.env = pure none := by rfl)
    (h1 : (assignEach [.Subscript o i pos'] X.env).map (·.2) = [assign (.Subscript o i pos') X.env] := by rfl)
    (hA : ∀ v, assign (.Subscript o i pos') X.env v = (do
      let ov ← holding [v] (eval o X.env)
      let iv ← holding [v, ov] (eval i X.env)
      standAt pos'
      holding [v, ov, iv] (setItem ov iv v)
      release [v, ov, iv] []) := by intro _; rfl) : DS X W (.Assign [.Subscript o i pos'] e pos) (sPut' setLD fo fi fa) :=
  s_ps (ps_asg ha.pe (pg_sub ho.pe hi.pe set_list hA) hs hw h1) fun E s H h => put_lift h fun r S d o i xv xo xi H3 S' env R rv ro ri hw' k => by
    unfold setLD at hw'
    split at hw'
    · rename_i kk n xs hm
      obtain ⟨a, vs, rfl, g1, g2, g3, g4⟩ := mutL_of R.st ro hm
      cases ri
      cases hx : ixN xs.length kk with
      | none => rw [hx] at hw'; cases hw'
      | some j =>
        rw [hx] at hw'; cases hw'
        obtain ⟨R2, x2⟩ := g4 (xs.set j d) (vs.set j xv) (RVs.set rv j g3)
        exact ⟨a, vs, kk, j, rfl, rfl, g2, by rw [← g3.length]; exact hx, k _ x2 R2⟩
    · cases hw'
theorem ds_putD {i : Expr} {fi : EvE} {pos' : Pos} (hu : X.A.units + 1 < cLine) (ho : DE X W o fo) (hi : DE X W i fi) (ha : DE X W e fa) (hs : swapsWith e (some (.Subscript o i pos')) pos.line X.env = pure false := by rfl) :
    DS X W (.Assign [.Subscript o i pos'] e pos) (sPut' dPutD fo fi fa) :=
  s_ps (ps_dput hu ho.pe hi.pe ha.pe hs) fun E s H h => put_lift h fun r S d o i xv xo xi H3 S' env R rv ro ri hw' k => by
    obtain ⟨a, H', rfl, g1, g2, g3⟩ := dput_of R.st ro ri rv hw'
    exact ⟨a, H', rfl, g1, k H' g3 g2⟩
/-! ### while -/
/-- the loop with so many turns at most -/
def whileD (q : AEnv → Sto → Res Bool) (f : EvS) : Nat → AEnv → Sto → SRes
  | 0, _, _ => .bad
  | n + 1, env, S => sbind (q env S) env fun b S1 => if b then match f env S1 with
      | .nx env2 S2 => whileD q f n env2 S2
      | .ct env2 S2 => whileD q f n env2 S2
      | .brk env2 S2 => .nx env2 S2
      | .ret d S2 => .ret d S2
      | .exc c env2 S2 => .exc c env2 S2
      | .bad => .bad
    else .nx env S1
@[simp] def sWhile (fuel : AEnv → Sto → Nat) (q : AEnv → Sto → Res Bool) (f : EvS) : EvS := fun env S => whileD q f (fuel env S) env S
theorem ds_while {q : AEnv → Sto → Res Bool} {fuel : AEnv → Sto → Nat} (hp : PassesOwn (model X.prog X.w) X.A X.env X.xe) (hc : DT X W c q) (hb : DSs X W sts f) : DS X W (.While c sts [] pos) (sWhile fuel q f) :=
  s_ps (ps_while hp hc.pt hb.ps) fun E s H ⟨r, env, S, R, z⟩ => by
    refine ⟨fun m s H => ∃ r env S, RA X.K r H s env S ∧ sresP X.K W r H (whileD q f m env S) E, ⟨_, r, env, S, R, z⟩, ?_⟩
    rintro m s H ⟨r, env, S, R, z⟩
    cases m with
    | zero => exact z.elim
    | succ m =>
      refine slift_bind (RR := RVT) (g := fun (b : Bool) S1 => (if b then match f env S1 with
      | .nx env2 S2 => whileD q f m env2 S2
      | .ct env2 S2 => whileD q f m env2 S2
      | .brk env2 S2 => .nx env2 S2
      | .ret d S2 => .ret d S2
      | .exc c env2 S2 => .exc c env2 S2
      | .bad => .bad
    else .nx env S1 : SRes)) R z fun d S1 r1 H1 v e1 R1 rv z1 => ?_
      cases rv
      cases d with
      | false => rw [if_neg Bool.false_ne_true]; exact z1 r1 H1 s (Ext.refl r1 H1) R1
      | true =>
        rw [if_pos rfl]
        rw [if_pos rfl] at z1
        refine ⟨fun s' H' => ∃ r env S, RA X.K r H' s' env S ∧ sresP X.K W r H' (whileD q f m env S) E, fun s' H' h => ⟨m, Nat.lt_succ_self m, h⟩, r1, env, S1, R1, ?_⟩
        cases hf : f env S1 with
        | nx env2 S2 => rw [hf] at z1; exact fun r2 H2 s2 e2 R2 => ⟨r2, env2, S2, R2, sresP.ext z1 e2⟩
        | ct env2 S2 => rw [hf] at z1; exact fun r2 H2 s2 e2 R2 => ⟨r2, env2, S2, R2, sresP.ext z1 e2⟩
        | brk env2 S2 => rw [hf] at z1; exact z1
        | ret d S2 => rw [hf] at z1; exact z1
        | exc c env2 S2 => rw [hf] at z1; exact z1
        | bad => rw [hf] at z1; exact z1
/-! ### what is walked -/
/-- the turns give these values, at every later heap -/
def Yields (K : PySem.W.Frag) (J : It) (ds : List D) (r0 : List Addr) (H0 : Hp) : Prop := ∀ r H, Ext r0 H0 r H → ∀ i,
  (∀ d, ds[i]? = some d → J.go i H ∧ ∀ v H', J.yld i H v H' → Ext r H r H' ∧ (∀ S, RSt K r H S → RSt K r H' S ∧ RV K r H' d v)) ∧ (ds.length ≤ i → J.stop i H)
def liftI (K : PySem.W.Frag) (W : WX) (it : AEnv → Sto → Res (List D)) : TI := fun t H R => ∃ r env S, RA K r H t env S ∧ match it env S with
  | .ok ds S' => ∀ r' H' J, Ext r H r' H' → RSt K r' H' S' → Yields K J ds r' H' → R J H'
  | .exc c S' => ∀ r' H' cls dx, Ext r H r' H' → RSt K r' H' S' → RX K r' H' c cls dx → W cls dx t H'
  | .bad => False
structure DI (X : Cx) (W : WX) (tg iter : Expr) (it : AEnv → Sto → Res (List D)) : Prop where
  pi : PI X tg iter (liftI X.K W it)
theorem PI.imp {tg iter : Expr} {q q' : TI} (h : PI X tg iter q) (k : ∀ s H R, q' s H R → q s H R) : PI X tg iter q' := ⟨fun pins s σ H R I z => h.run pins s σ H R I (k _ _ _ z)⟩
theorem lift_it {α β : Type} {K : PySem.W.Frag} {r : List Addr} {H : Hp} {t : L2.St} {env : AEnv} {S : Sto} {RR : Rel α β} {fx : AEnv → Sto → Res α} {gx : α → AEnv → Sto → Res (List D)} {Q' : β → Hp → Prop} {Ri : It → Hp → Prop} (R : RA K r H t env S)
    (h : match (fx env S).bind fun a S1 => gx a env S1 with
      | .ok ds S' => ∀ r' H' J, Ext r H r' H' → RSt K r' H' S' → Yields K J ds r' H' → Ri J H'
      | .exc c S' => ∀ r' H' cls dx, Ext r H r' H' → RSt K r' H' S' → RX K r' H' c cls dx → W cls dx t H'
      | .bad => False)
    (k : ∀ a S1 r1 H1 b ds S', Ext r H r1 H1 → RA K r1 H1 t env S1 → RR H r1 H1 a b → gx a env S1 = .ok ds S' → (∀ r' H' J, Ext r1 H1 r' H' → RSt K r' H' S' → Yields K J ds r' H' → Ri J H') → Q' b H1)
    (hx : ∀ a S1 c S', gx a env S1 ≠ .exc c S') : lift K W RR fx t H Q' := by
  refine ⟨r, env, S, R, ?_⟩
  cases hf : fx env S with
  | ok a S1 =>
    rw [hf] at h
    intro r1 H1 b e1 R1 q1
    simp only [Res.bind] at h
    cases hg : gx a env S1 with
    | ok ds S' => rw [hg] at h; exact k a S1 r1 H1 b ds S' e1 (R.ext e1 R1) q1 hg fun r' H' J x' R' y' => h r' H' J (e1.trans x') R' y'
    | exc c S' => exact (hx _ _ _ _ hg).elim
    | bad => rw [hg] at h; exact h.elim
  | exc c S1 => rw [hf] at h; exact h
  | bad => rw [hf] at h; exact h
@[simp] def iTupK (d : D) (S : Sto) : Res (List D) := match d.seq? with
  | some ds => .ok ds S
  | none => .bad
@[simp] def iTup' (fa : EvE) : AEnv → Sto → Res (List D) := fun env S => (fa env S).bind fun d S1 => iTupK d S1
theorem sqT_get {K : PySem.W.Frag} {r : List Addr} {H : Hp} {S : Sto} {d : D} {ds : List D} {v : V} (R : RSt K r H S) (rv : RV K r H d v) (e : d.seq? = some ds) : ∃ a us, v = .ref a ∧ RVs K r H ds us ∧ ∀ r' H', Ext r H r' H' → SqT K H' a us := by
  cases rv with
  | tup h q => cases e; exact ⟨_, _, rfl, q, fun r' H' x => .inl (.inl ((R.tups x).t _ _ h))⟩
  | cst h q => cases e; exact ⟨_, _, rfl, q, fun r' H' x => (h.mono (R.tups x)).sq⟩
  | fup h hd q => cases e; exact ⟨_, _, rfl, q, fun r' H' x => .inl (.inr ⟨_, (R.tups x).f _ _ _ h⟩)⟩
  | _ => cases e
theorem di_tup {tg : Expr} (ha : DE X W e fa) : DI X W tg e (iTup' fa) :=
  ⟨PI.imp (pi_tup ha.pe) fun s H Ri ⟨r, env, S, R, z⟩ => by
    refine lift_it (RR := RVE X.K) (gx := fun d env S1 => iTupK d S1) R z (fun d S1 r1 H1 v ds S' e1 R1 rv hg k => ?_) fun a S1 c S' => by
      simp only [iTupK]; split <;> (intro z; cases z)
    simp only [iTupK] at hg
    split at hg
    · rename_i ds' hd
      cases hg
      obtain ⟨a, us, rfl, q, st⟩ := sqT_get R1.st rv hd
      refine ⟨a, rfl, ⟨us, st r1 H1 (Ext.refl r1 H1)⟩, k r1 H1 _ (Ext.refl r1 H1) R1.st fun r2 H2 x2 i => ⟨fun d' hd' => ?_, fun hl => ⟨us, st r2 H2 x2, by rw [← q.length]; exact hl⟩⟩⟩
      obtain ⟨v', hv', rv'⟩ := RVs.get q hd'
      refine ⟨⟨us, v', st r2 H2 x2, hv'⟩, fun v H' ⟨hH, hall⟩ => ?_⟩
      subst hH
      have := hall us (st r2 _ x2)
      rw [hv'] at this; cases this
      exact ⟨Ext.refl _ _, fun S0 R0 => ⟨R0, RV.ext rv' R1.st x2⟩⟩
    · cases hg⟩
@[simp] def iLst' (ga : AEnv → Sto → Res (List D)) : AEnv → Sto → Res (List D) := fun env S => (ga env S).bind fun d S1 => .ok d S1
theorem di_lst {tg : Expr} (ha : DL X W e ga) : DI X W tg e (iLst' ga) :=
  ⟨PI.imp (pi_list ha.pe) fun s H Ri ⟨r, env, S, R, z⟩ => by
    refine lift_it (RR := RVL X.K) (gx := fun d env S1 => Res.ok d S1) R z (fun d S1 r1 H1 v ds S' e1 R1 rv hg k => ?_) fun a S1 c S' z => by cases z
    cases hg
    obtain ⟨a, vs, rfl, _, na, hq, q⟩ := rv
    refine ⟨a, rfl, ⟨vs, SqL.of hq⟩, k r1 H1 _ (Ext.refl r1 H1) R1.st fun r2 H2 x2 i => ?_⟩
    have hS : SqL X.K H2 a vs := SqL.of (x2.keep a _ na hq).1
    refine ⟨fun d' hd' => ?_, fun hl => ⟨vs, hS, by rw [← q.length]; exact hl⟩⟩
    obtain ⟨v', hv', rv'⟩ := RVs.get q hd'
    refine ⟨⟨vs, v', hS, hv'⟩, fun v H' ⟨hH, hall⟩ => ?_⟩
    subst hH
    have := hall vs hS
    rw [hv'] at this; cases this
    exact ⟨Ext.refl _ _, fun S0 R0 => ⟨R0, RV.ext rv' R1.st x2⟩⟩⟩
/-- lo, lo + 1, .. (n of them) -/
def rngD (lo : Int) (n : Nat) : List D := (List.range n).map fun (i : Nat) => D.int (lo + i)
theorem yields_rng {K : PySem.W.Frag} {lo : Int} {n : Nat} {r : List Addr} {H : Hp} : Yields K (Itr lo n) (rngD lo n) r H := fun r2 H2 x2 i => by
  refine ⟨fun d hd => ?_, fun hl => by show n ≤ i; simpa [rngD] using hl⟩
  unfold rngD at hd
  rw [List.getElem?_map] at hd
  cases hr : (List.range n)[i]? with
  | none => rw [hr] at hd; cases hd
  | some j =>
    rw [hr] at hd
    obtain ⟨h1, h2⟩ := List.getElem?_eq_some_iff.mp hr
    rw [List.getElem_range] at h2
    subst h2
    cases hd
    refine ⟨by show i < n; simpa using h1, fun v H' ⟨hH, hv⟩ => ?_⟩
    subst hH
    subst hv
    exact ⟨Ext.refl _ _, fun S0 R0 => ⟨R0, .int _⟩⟩
/-- small enough for range; said so that a letter stops it -/
def rngB : Int → Bool
  | .ofNat n => Nat.ble n 999999
  | .negSucc n => Nat.ble n 999999
theorem rngB_iff {j : Int} : rngB j = true ↔ -1000000 ≤ j ∧ j < 1000000 := by
  cases j with
  | ofNat n =>
    show Nat.ble n 999999 = true ↔ _
    rw [Nat.ble_eq, Int.ofNat_eq_natCast]; omega
  | negSucc n =>
    show Nat.ble n 999999 = true ↔ _
    rw [Nat.ble_eq, Int.negSucc_eq]; omega
@[simp] def iRng1K (ds : List D) (S : Sto) : Res (List D) := match ds with
  | [.int j] => if rngB j = true then .ok (rngD 0 j.toNat) S else .bad
  | _ => .bad
@[simp] def iRng1' (ga : AEnv → Sto → Res (List D)) : AEnv → Sto → Res (List D) := fun env S => (ga env S).bind fun ds S1 => iRng1K ds S1
theorem di_rng1 {tg : Expr} (hg : Gl X "range") (hm : X.mg "range" = none) (ha : DA X W [a] ga) (hs : starEach [a] X.env = [(false, eval a X.env)] := by rfl) : DI X W tg (.Call (.Name "range" p) [a] [] pos) (iRng1' ga) :=
  ⟨PI.imp (pi_range1 hg hm ha.pa hs) fun s H Ri ⟨r, env, S, R, z⟩ => by
    refine lift_it (RR := RVA X.K) (gx := fun ds env S1 => iRng1K ds S1) R z (fun ds S1 r1 H1 vs ds' S' e1 R1 rv hg k => ?_) fun a S1 c S' => by
      simp only [iRng1K]; split
      · split <;> (intro z; cases z)
      · intro z; cases z
    simp only [iRng1K] at hg
    split at hg
    · rename_i j
      split at hg
      · rename_i hj
        rw [rngB_iff] at hj
        cases hg
        obtain ⟨v, rfl, h⟩ := rv.one
        cases h
        exact ⟨j, rfl, by omega, by omega, k r1 H1 _ (Ext.refl r1 H1) R1.st yields_rng⟩
      · cases hg
    · cases hg⟩
@[simp] def iRng2K (ds : List D) (S : Sto) : Res (List D) := match ds with
  | [.int i, .int j] => if rngB i = true ∧ rngB j = true then .ok (rngD i (j - i).toNat) S else .bad
  | _ => .bad
@[simp] def iRng2' (ga : AEnv → Sto → Res (List D)) : AEnv → Sto → Res (List D) := fun env S => (ga env S).bind fun ds S1 => iRng2K ds S1
theorem di_rng2 {tg : Expr} (hg : Gl X "range") (hm : X.mg "range" = none) (ha : DA X W [a, b] ga) (hs : starEach [a, b] X.env = [(false, eval a X.env), (false, eval b X.env)] := by rfl) (hs2 : starEach [b] X.env = [(false, eval b X.env)] := by rfl) :
    DI X W tg (.Call (.Name "range" p) [a, b] [] pos) (iRng2' ga) :=
  ⟨PI.imp (pi_range2 hg hm ha.pa hs hs2) fun s H Ri ⟨r, env, S, R, z⟩ => by
    refine lift_it (RR := RVA X.K) (gx := fun ds env S1 => iRng2K ds S1) R z (fun ds S1 r1 H1 vs ds' S' e1 R1 rv hg k => ?_) fun a S1 c S' => by
      simp only [iRng2K]; split
      · split <;> (intro z; cases z)
      · intro z; cases z
    simp only [iRng2K] at hg
    split at hg
    · rename_i i j
      split at hg
      · rename_i hj
        rw [rngB_iff, rngB_iff] at hj
        cases hg
        obtain ⟨v, w, rfl, h, h'⟩ := rv.two
        cases h
        cases h'
        exact ⟨i, j, rfl, ⟨by omega, by omega, by omega, by omega⟩, k r1 H1 _ (Ext.refl r1 H1) R1.st yields_rng⟩
      · cases hg
    · cases hg⟩
/-- zip of two tuples: new pairs -/
def zipD (xs ys : List D) : List D := (xs.zip ys).map fun q => D.tup [q.1, q.2]
@[simp] def iZipK (ds : List D) (S : Sto) : Res (List D) := match ds with
  | [d, d'] => match d.seq?, d'.seq? with
    | some xs, some ys => .ok (zipD xs ys) S
    | _, _ => .bad
  | _ => .bad
@[simp] def iZip' (ga : AEnv → Sto → Res (List D)) : AEnv → Sto → Res (List D) := fun env S => (ga env S).bind fun ds S1 => iZipK ds S1
theorem di_zip {elts : List Expr} {kk : Nat} {tpos : Pos} (hg : Gl X "zip") (hm : X.mg "zip" = none) (ha : DA X W [a, b] ga) (hs : starEach [a, b] X.env = (false, eval a X.env) :: starEach [b] X.env := by rfl) (hpl : (backTo pos (starEach [b] X.env)).any (·.1) = false := by rfl) :
    DI X W (.Tuple elts kk tpos) (.Call (.Name "zip" p) [a, b] [] pos) (iZip' ga) :=
  ⟨PI.imp (RZ.pi_zipA hg hm ha.pa hs hpl) fun s H Ri ⟨r, env, S, R, z⟩ => by
    refine lift_it (RR := RVA X.K) (gx := fun ds env S1 => iZipK ds S1) R z (fun ds S1 r1 H1 vs ds' S' e1 R1 rv hg k => ?_) fun a S1 c S' => by
      simp only [iZipK]; split
      · split <;> (intro z; cases z)
      · intro z; cases z
    simp only [iZipK] at hg
    split at hg
    · rename_i d d'
      split at hg
      · rename_i xs ys h1 h2
        cases hg
        obtain ⟨v, w, rfl, g1, g2⟩ := rv.two
        obtain ⟨a, us, rfl, q1, st1⟩ := sqT_get R1.st g1 h1
        obtain ⟨b, ws, rfl, q2, st2⟩ := sqT_get R1.st g2 h2
        refine ⟨a, b, us, ws, rfl, .inr ⟨st1 _ _ (Ext.refl r1 H1), st2 _ _ (Ext.refl r1 H1), k r1 H1 _ (Ext.refl r1 H1) R1.st fun r2 H2 x2 i => ⟨fun dd hd => ?_, fun hl => ?_⟩⟩⟩
        · unfold zipD at hd
          rw [List.getElem?_map] at hd
          cases hz : (xs.zip ys)[i]? with
          | none => rw [hz] at hd; cases hd
          | some q =>
            rw [hz] at hd
            cases hd
            obtain ⟨z1, z2⟩ := List.getElem?_zip_eq_some.mp hz
            obtain ⟨v1, hv1, rv1⟩ := RVs.get q1 z1
            obtain ⟨v2, hv2, rv2⟩ := RVs.get q2 z2
            refine ⟨⟨us, ws, v1, v2, st1 _ _ x2, st2 _ _ x2, hv1, hv2⟩, fun v H' ⟨T, x, y, hv, hT, hH, hx, hy⟩ => ?_⟩
            subst hH
            subst hv
            have e1' := hx us (st1 _ _ x2)
            have e2' := hy ws (st2 _ _ x2)
            rw [hv1] at e1'; cases e1'
            rw [hv2] at e2'; cases e2'
            have xx : Ext r2 H2 r2 (upd H2 T (.tup [v1, v2])) := ⟨⟨[], by simp⟩, fun c o hc e => ⟨by rw [upd_ne (ne_of_none e hT)]; exact e, hc⟩, upd_fr, fun c o u e => by rw [upd_ne (ne_of_none e hT)]; exact e⟩
            refine ⟨xx, fun S0 R0 => ⟨(R0.new hT).1, .tup upd_same ?_⟩⟩
            exact .cons (RV.ext (RV.ext rv1 R1.st x2) R0 xx) (.cons (RV.ext (RV.ext rv2 R1.st x2) R0 xx) .nil)
        · refine ⟨us, ws, st1 _ _ x2, st2 _ _ x2, ?_⟩
          have hl' : min xs.length ys.length ≤ i := by simpa [zipD] using hl
          rw [← q1.length, ← q2.length]
          omega
      · cases hg
    · cases hg⟩
/-! ### for -/
def forD (g : GvT) (f : EvS) : List D → AEnv → Sto → SRes
  | [], env, S => .nx env S
  | d :: ds, env, S => match g d env S with
    | none => .bad
    | some q => match f q.1 q.2 with
      | .nx env2 S2 => forD g f ds env2 S2
      | .ct env2 S2 => forD g f ds env2 S2
      | .brk env2 S2 => .nx env2 S2
      | .ret d S2 => .ret d S2
      | .exc c env2 S2 => .exc c env2 S2
      | .bad => .bad
@[simp] def sFor (it : AEnv → Sto → Res (List D)) (g : GvT) (f : EvS) : EvS := fun env S => sbind (it env S) env fun ds S1 => forD g f ds env S1
theorem ds_for {tg iter : Expr} {vs : List Nat} {it : AEnv → Sto → Res (List D)} {gt : GvT} (hp : PassesOwn (model X.prog X.w) X.A X.env X.xe) (hc : X.calm = true) (hi : DI X W tg iter it) (hg : DG X tg vs gt) (hb : DSs X W sts f)
    (hs : ∀ x, foldedSetIterable iter X.env x = pure x := by intro _; rfl) : DS X W (.For tg iter sts [] pos) (sFor it gt f) :=
  s_ps (ps_for hp hc hi.pi hg.pg hb.ps hs) fun E s H ⟨r, env, S, R, z⟩ => by
    refine ⟨r, env, S, R, ?_⟩
    cases hit : it env S with
    | bad => simp only [sFor, hit, sbind] at z; exact z
    | exc c S1 => simp only [sFor, hit, sbind] at z; exact fun r' H' cls dx x' R' rx => z r' H' s cls dx x' (R.ext x' R') rx
    | ok ds S1 =>
      simp only [sFor, hit, sbind] at z
      intro r1 H1 J x1 R1 Y
      have RA1 : RA X.K r1 H1 s env S1 := R.ext x1 R1
      refine ⟨fun i m s H => ∃ r env S, Ext r1 H1 r H ∧ RA X.K r H s env S ∧ i ≤ ds.length ∧ m = ds.length - i ∧ sresP X.K W r H (forD gt f (ds.drop i) env S) E, ⟨_, r1, env, S1, Ext.refl r1 H1, RA1, Nat.zero_le _, rfl, sresP.ext z x1⟩, ?_⟩
      rintro i m s2 H2 ⟨r2, env2, S2, x2, R2, hle, rfl, z2⟩
      obtain ⟨yg, ys⟩ := Y r2 H2 x2 i
      by_cases hlt : i < ds.length
      · have hd : ds.drop i = ds[i] :: ds.drop (i + 1) := List.drop_eq_getElem_cons hlt
        rw [hd] at z2
        obtain ⟨go, yl⟩ := yg ds[i] (List.getElem?_eq_getElem hlt)
        refine .inr ⟨go, fun s' H' => ∃ r env S, Ext r1 H1 r H' ∧ RA X.K r H' s' env S ∧ i + 1 ≤ ds.length ∧ ds.length - (i + 1) = ds.length - (i + 1) ∧ sresP X.K W r H' (forD gt f (ds.drop (i + 1)) env S) E, fun s' H' ⟨r, env, S, a1, a2, a3, _, a4⟩ => ⟨ds.length - (i + 1), by omega, r, env, S, a1, a2, a3, rfl, a4⟩, fun x H' hy => ?_⟩
        obtain ⟨x3, hS⟩ := yl x H' hy
        obtain ⟨R3, rv⟩ := hS S2 R2.st
        have RA3 := R2.ext x3 R3
        refine ⟨r2, env2, S2, ds[i], RA3, rv, ?_⟩
        unfold forD at z2
        cases hg : gt ds[i] env2 S2 with
        | none => rw [hg] at z2; exact z2
        | some q =>
          rw [hg] at z2
          intro r4 H4 s4 x4 R4 _
          refine ⟨r4, q.1, q.2, R4, ?_⟩
          have x24 : Ext r1 H1 r4 H4 := x2.trans (x3.trans x4)
          have z4 := sresP.ext z2 (x3.trans x4)
          cases hf : f q.1 q.2 with
          | nx env5 S5 => simp only [hf] at z4; exact fun r5 H5 s5 x5 R5 => ⟨r5, env5, S5, x24.trans x5, R5, hlt, rfl, sresP.ext z4 x5⟩
          | ct env5 S5 => simp only [hf] at z4; exact fun r5 H5 s5 x5 R5 => ⟨r5, env5, S5, x24.trans x5, R5, hlt, rfl, sresP.ext z4 x5⟩
          | brk env5 S5 => simp only [hf] at z4; exact z4
          | ret d S5 => simp only [hf] at z4; exact z4
          | exc c env5 S5 => simp only [hf] at z4; exact z4
          | bad => simp only [hf] at z4; exact z4
      · have hn : ds.drop i = [] := List.drop_eq_nil_of_le (by omega)
        rw [hn] at z2
        exact .inl ⟨ys (by omega), z2 r2 H2 s2 (Ext.refl r2 H2) R2⟩
end
end DV
/-! DV8: comprehensions, locked dicts, the rule for a def, other words for what a def does, repr. -/
namespace DV
open PySem PySem.Spec PyProof.Rows L2

section
variable {X : Cx} {W : WX} {a b c e o : Expr} {es : List Expr} {fa fb fc fo : EvE} {ga gb : AEnv → Sto → Res (List D)} {pos p p2 : Pos} {x : Str}
/-- nothing is let out -/
abbrev W0 : WX := fun _ _ _ _ => False
/-! ### comprehensions -/
def wipeA (env : AEnv) : List Nat → AEnv
  | [] => env
  | v :: vs => (wipeA env vs).set v none
theorem wipeA_length (env : AEnv) : ∀ vs, (wipeA env vs).length = env.length
  | [] => rfl
  | v :: vs => by unfold wipeA; rw [List.length_set, wipeA_length env vs]
theorem wipeA_some {env : AEnv} {i : Nat} {d : D} : ∀ {vs : List Nat}, (wipeA env vs)[i]? = some (some d) → env[i]? = some (some d) ∧ i ∉ vs
  | [], h => ⟨h, by simp⟩
  | v :: vs, h => by
    unfold wipeA at h
    by_cases hv : v = i
    · subst hv
      by_cases hl : v < (wipeA env vs).length
      · rw [List.getElem?_set_self hl] at h; cases h
      · rw [List.getElem?_eq_none (by simpa using hl)] at h; cases h
    · rw [List.getElem?_set_ne hv] at h
      obtain ⟨h1, h2⟩ := wipeA_some h
      exact ⟨h1, by simp only [List.mem_cons, not_or]; exact ⟨fun e => hv e.symm, h2⟩⟩
theorem RA.wipe {K : PySem.W.Frag} {r : List Addr} {H : Hp} {t : L2.St} {env : AEnv} {S : Sto} (R : RA K r H t env S) (vs : List Nat) : RA K r H (L2.wipe t vs) (wipeA env vs) S :=
  ⟨R.st, by rw [wipe_length, wipeA_length]; exact R.len, fun i d h => by
    obtain ⟨h1, h2⟩ := wipeA_some h
    obtain ⟨v, e, q⟩ := R.sl i d h1
    exact ⟨v, by rw [wipe_out h2]; exact e, q⟩⟩
theorem SameBut.wiped (vs : List Nat) (s : L2.St) : SameBut vs s (L2.wipe s vs) := ⟨wipe_length s vs, fun i hi => wipe_out hi⟩
/-- an exception is not served here -/
@[simp] def Res.bind0 {α β : Type} (x : Res α) (f : α → Sto → Res β) : Res β := match x with
  | .ok a S => f a S
  | _ => .bad
def compD (vs : List Nat) (g : GvT) (q : AEnv → Sto → Res Bool) (te : EvE) (env : AEnv) : List D → List D → Sto → Res (List D)
  | [], acc, S => .ok acc S
  | d :: ds, acc, S => match g d (wipeA env vs) S with
    | none => .bad
    | some pr => (q pr.1 pr.2).bind0 fun b S3 => if b then (te pr.1 S3).bind0 fun y S4 => if acc.length < LN then compD vs g q te env ds (acc ++ [y]) S4 else .bad
      else compD vs g q te env ds acc S3
@[simp] def lComp (vs : List Nat) (it : AEnv → Sto → Res (List D)) (g : GvT) (q : AEnv → Sto → Res Bool) (te : EvE) : AEnv → Sto → Res (List D) := fun env S => (it env S).bind fun ds S1 => compD vs g q te env ds [] S1
structure DTs (X : Cx) (W : WX) (ifs : List Expr) (f : AEnv → Sto → Res Bool) : Prop where
  pt : PTs X ifs (liftT X.K W f)
theorem PTs.imp {e : List Expr} {t t' : TT} (h : PTs X e t) (k : ∀ s H Q, t' s H Q → t s H Q) : PTs X e t' := ⟨fun pins s u H Q I q => h.run pins s u H Q I (k _ _ _ q)⟩
@[simp] def tYes' : AEnv → Sto → Res Bool := fun _ S => .ok true S
theorem dts_nil : DTs X W [] tYes' := ⟨PTs.imp pts_nil fun s H Q ⟨r, env, S, R, z⟩ => z r H true (Ext.refl r H) R.st rfl⟩
theorem dts_one {q : AEnv → Sto → Res Bool} (h : DT X W c q) : DTs X W [c] q := ⟨pts_one h.pt⟩
/-- a new thing is put at p, where nothing was at the start -/
theorem Ext.at_new {r r' : List Addr} {H H' : Hp} {p : Addr} {o : HO} (x : Ext r H r' H') (hp : H p = none) : Ext r H r' (upd H' p o) :=
  ⟨x.pre, fun a u h e => by
    obtain ⟨h1, h2⟩ := x.keep a u h e
    exact ⟨by rw [upd_ne (ne_of_none e hp)]; exact h1, h2⟩, fun a h => x.fr a (upd_fr a h), fun a ob u e => by rw [upd_ne (ne_of_none e hp)]; exact x.frz a ob u e⟩
theorem RSt.other {K : PySem.W.Frag} {r : List Addr} {H : Hp} {S : Sto} {p : Addr} {xs : List V} {o : HO} (R : RSt K r H S) (np : p ∉ r) (hp : H p = some (.lst xs)) : RSt K r (upd H p o) S :=
  ⟨R.len, R.nd, fun n u e => by
    obtain ⟨a, e1, q⟩ := R.at_ n u e
    exact ⟨a, e1, q.mono (TGrow.upd hp (fun _ z => nomatch z) (fun _ _ z => nomatch z)) (fun _ _ z => z) (upd_ne fun z => np (by rw [← z]; exact List.mem_of_getElem? e1))⟩⟩
theorem dl_comp {elt tg iter : Expr} {ifs : List Expr} {scope : Scope} {own : List (Str × Nat)} {vs : List Nat} {it : AEnv → Sto → Res (List D)} {gt : GvT} {q : AEnv → Sto → Res Bool} {te : EvE} (hc : X.calm = true) (hN : X.N.Nodup) (hi : DI X W tg iter it) (ok : BlkOk X.N X.env.scope scope own)
    (hg : ∀ (s : Shared) (H : Hp) (C : Addr) (cl : List (Str × Addr)) (fp : List Addr), DG (X.blk s H scope (compEnvC scope cl C X.env) fp) tg vs gt)
    (ht : ∀ (s : Shared) (H : Hp) (C : Addr) (cl : List (Str × Addr)) (fp : List Addr), DTs (X.blk s H scope (compEnvC scope cl C X.env) fp) W0 ifs q)
    (he : ∀ (s : Shared) (H : Hp) (C : Addr) (cl : List (Str × Addr)) (fp : List Addr), DE (X.blk s H scope (compEnvC scope cl C X.env) fp) W0 elt te)
    (hv : ∀ i ∈ vs, i ∈ own.map (·.2) := by decide) (hs : ∀ x, foldedSetIterable iter X.env x = pure x := by intro _; rfl) : DL X W (.ListComp elt [⟨tg, iter, ifs, 0⟩] scope pos) (lComp (own.map (·.2)) it gt q te) :=
  dl_pe (pe_lc (wi := liftI X.K W it) (g := liftG X.K vs gt) (tt := liftT X.K W0 q) (te := liftE X.K W0 te) hc hN hi.pi ok (fun s H C cl fp => (hg s H C cl fp).pg) (fun s H C cl fp => (ht s H C cl fp).pt) (fun s H C cl fp => (he s H C cl fp).pe) hs) fun s0 H0 Q ⟨r0, env, S0, R0, z⟩ => by
    refine ⟨r0, env, S0, R0, ?_⟩
    cases hit : it env S0 with
    | bad => simp only [lComp, hit, Res.bind] at z; exact z
    | exc c S1 => simp only [lComp, hit, Res.bind] at z; exact z
    | ok ds S1 =>
      simp only [lComp, hit, Res.bind] at z
      intro r1 H1 J x1 R1 Y Dd hD
      obtain ⟨RN, xN⟩ := R1.new (o := .lst []) hD
      refine ⟨fun i m H => ∃ r S acc av, Ext r1 H1 r H ∧ RSt X.K r H S ∧ Dd ∉ r ∧ H Dd = some (.lst av) ∧ RVs X.K r H acc av ∧ i ≤ ds.length ∧ m = ds.length - i ∧ resP X.K W (RVL X.K) r0 H0 s0 (compD (own.map (·.2)) gt q te env (ds.drop i) acc S) Q,
        ⟨_, r1, S1, [], [], xN, RN, R1.nmem hD, upd_same, .nil, Nat.zero_le _, rfl, z⟩, ?_⟩
      rintro i m H2 ⟨r2, S2, acc, av, x2, R2, nD, hDd, rva, hle, rfl, z2⟩
      obtain ⟨yg, ys⟩ := Y r2 H2 x2 i
      have x02 : Ext r0 H0 r2 H2 := x1.trans x2
      by_cases hlt : i < ds.length
      · have hd : ds.drop i = ds[i] :: ds.drop (i + 1) := List.drop_eq_getElem_cons hlt
        rw [hd] at z2
        obtain ⟨go, yl⟩ := yg ds[i] (List.getElem?_eq_getElem hlt)
        refine .inr ⟨go, fun H' => ∃ r S acc av, Ext r1 H1 r H' ∧ RSt X.K r H' S ∧ Dd ∉ r ∧ H' Dd = some (.lst av) ∧ RVs X.K r H' acc av ∧ i + 1 ≤ ds.length ∧ resP X.K W (RVL X.K) r0 H0 s0 (compD (own.map (·.2)) gt q te env (ds.drop (i + 1)) acc S) Q,
          fun H' ⟨r, S, acc, av, b1, b2, b3, b4, b5, b6, b7⟩ => ⟨ds.length - (i + 1), by omega, r, S, acc, av, b1, b2, b3, b4, b5, b6, rfl, b7⟩, fun xv H' hy => ?_⟩
        obtain ⟨x3, hS⟩ := yl xv H' hy
        obtain ⟨R3, rv⟩ := hS S2 R2
        have RA3 : RA X.K r2 H' s0 env S2 := R0.ext (x02.trans x3) R3
        refine ⟨r2, _, S2, ds[i], RA3.wipe (own.map (·.2)), rv, ?_⟩
        unfold compD at z2
        cases hgt : gt ds[i] (wipeA env (own.map (·.2))) S2 with
        | none => simp only [hgt] at z2; exact z2
        | some pr =>
          simp only [hgt] at z2
          intro r4 H4 s4 x4 R4 sb
          refine ⟨?_, ?_⟩
          · have h1 := (sb.mono hv).wipe
            have h2 := (SameBut.wiped (own.map (·.2)) s0).wipe
            rw [h1, h2]
          · refine ⟨r4, pr.1, pr.2, R4, ?_⟩
            cases hq : q pr.1 pr.2 with
            | bad => simp only [hq, Res.bind0] at z2; exact z2
            | exc c S5 => simp only [hq, Res.bind0] at z2; exact z2.elim
            | ok bb S5 =>
              simp only [hq, Res.bind0] at z2
              intro r5 H5 b' x5 R5 hb
              cases hb
              have x25 : Ext r2 H2 r5 H5 := x3.trans (x4.trans x5)
              cases bb with
              | false =>
                rw [if_neg Bool.false_ne_true]
                rw [if_neg Bool.false_ne_true] at z2
                obtain ⟨k1, k2⟩ := x25.keep Dd _ nD hDd
                exact ⟨r5, S5, acc, av, x2.trans x25, R5, k2, k1, RVs.ext rva R2 x25, hlt, z2⟩
              | true =>
                rw [if_pos rfl]
                rw [if_pos rfl] at z2
                refine ⟨r5, pr.1, S5, R4.ext x5 R5, ?_⟩
                cases hte : te pr.1 S5 with
                | bad => simp only [hte] at z2; exact z2
                | exc c S6 => simp only [hte] at z2; exact z2.elim
                | ok y S6 =>
                  simp only [hte] at z2
                  intro r6 H6 yv x6 R6 ry
                  have x26 : Ext r2 H2 r6 H6 := x25.trans x6
                  obtain ⟨k1, k2⟩ := x26.keep Dd _ nD hDd
                  have rva6 := RVs.ext rva R2 x26
                  by_cases hl : acc.length < LN
                  · rw [if_pos hl] at z2
                    refine ⟨av, k1, by rw [← rva.length, sizeLine_eq]; exact hl, r6, S6, acc ++ [y], av ++ [yv], (x2.trans x26).at_new hD, R6.other k2 k1, k2, upd_same, ?_, hlt, z2⟩
                    exact RVs.mono (TGrow.upd k1 (fun _ z => nomatch z) (fun _ _ z => nomatch z)) (fun _ _ z => z) (RVs.append rva6 (.cons ry .nil))
                  · rw [if_neg hl] at z2; exact z2.elim
      · have hn : ds.drop i = [] := List.drop_eq_nil_of_le (by omega)
        rw [hn] at z2
        exact .inl ⟨ys (by omega), z2 r2 H2 _ x02 R2 ⟨Dd, av, rfl, x1.fr Dd hD, nD, hDd, rva⟩⟩
/-! ### a dict is walked: it is locked meanwhile -/
def rTof (S : Sto) (n : Nat) : Option Sto := match S[n]? with
  | some (.dT kvs) => some (S.set n (.rT kvs))
  | _ => none
def unT (S : Sto) (n : Nat) : Option Sto := match S[n]? with
  | some (.rT kvs) => some (S.set n (.dT kvs))
  | _ => none
@[simp] def unTL (n : Nat) (ds : List D) (S : Sto) : Res (List D) := match unT S n with
  | some S1 => .ok ds S1
  | none => .bad
@[simp] def lLockK (n : Nat) (f : AEnv → Sto → Res (List D)) (env : AEnv) (S : Sto) : Res (List D) := match rTof S n with
  | some S1 => (f env S1).bind0 fun ds S2 => unTL n ds S2
  | none => .bad
@[simp] def lLock (i : Nat) (f : AEnv → Sto → Res (List D)) : AEnv → Sto → Res (List D) := fun env S => match env[i]? with
  | some (some (.loc n)) => lLockK n f env S
  | _ => .bad
theorem lock_at {K : PySem.W.Frag} {r : List Addr} {H : Hp} {S S1 : Sto} {n : Nat} (R : RSt K r H S) (e : rTof S n = some S1) : ∃ d ws, r[n]? = some d ∧ H d = some (.dT ws) ∧ ∀ od, RSt K r (upd H d (.frz od (.dT ws))) S1 ∧ TGrow H (upd H d (.frz od (.dT ws))) := by
  unfold rTof at e
  split at e
  · rename_i kvs e2
    cases e
    obtain ⟨d, e3, ws, e4, q⟩ := R.at_ n _ e2
    refine ⟨d, ws, e3, e4, fun od => ?_⟩
    have g : TGrow H (upd H d (.frz od (.dT ws))) := TGrow.upd e4 (fun _ z => nomatch z) (fun _ _ z => nomatch z)
    have hx := R.put (o := .frz od (.dT ws)) (m := .rT kvs) e3 (fun o u z => by rw [e4] at z; cases z) ⟨od, ws, upd_same, q.mono g fun _ _ z => z⟩
    exact ⟨hx.1, g⟩
  · cases e
theorem unlock_at {K : PySem.W.Frag} {r r' : List Addr} {H Hl H' : Hp} {S1 S2 : Sto} {n : Nat} {d : Addr} {ws : List (List Key × V)} {od : Obj} (hd : r[n]? = some d) (h0 : H d = some (.dT ws)) (hl : Hl = upd H d (.frz od (.dT ws))) (x : Ext r Hl r' H') (R : RSt K r' H' S1) (e : unT S1 n = some S2) :
    H' d = some (.frz od (.dT ws)) ∧ RSt K r' (upd H' d (.dT ws)) S2 ∧ Ext r H r' (upd H' d (.dT ws)) ∧ TGrow H' (upd H' d (.dT ws)) := by
  have hm : d ∈ r := List.mem_of_getElem? hd
  have hH : H' d = some (.frz od (.dT ws)) := x.frz d od _ (by rw [hl]; exact upd_same)
  have g : TGrow H' (upd H' d (.dT ws)) := TGrow.upd hH (fun _ z => nomatch z) (fun _ _ z => nomatch z)
  unfold unT at e
  split at e
  · rename_i kvs e2
    cases e
    obtain ⟨a, e3, o, us, e4, q⟩ := R.at_ n _ e2
    rw [x.get hd] at e3; cases e3
    rw [hH] at e4; cases e4
    refine ⟨hH, ⟨by simp [R.len], R.nd, fun k u e5 => ?_⟩, ⟨x.pre, fun b u hb e5 => ?_, fun b e5 => ?_, fun b ob u e5 => ?_⟩, g⟩
    · by_cases hk : n = k
      · subst hk
        have hlen : n < S1.length := by
          rw [← R.len]; exact (List.getElem?_eq_some_iff.mp (x.get hd)).1
        rw [List.getElem?_set_self hlen] at e5
        cases e5
        exact ⟨d, x.get hd, _, upd_same, q.mono g fun _ _ z => z⟩
      · rw [List.getElem?_set_ne hk] at e5
        obtain ⟨b, e6, q6⟩ := R.at_ k u e5
        refine ⟨b, e6, q6.mono g (fun _ _ z => z) (upd_ne fun z => hk ?_)⟩
        subst z
        obtain ⟨h1, h2⟩ := List.getElem?_eq_some_iff.mp (x.get hd)
        obtain ⟨h3, h4⟩ := List.getElem?_eq_some_iff.mp e6
        exact (List.getElem_inj R.nd).mp (h2.trans h4.symm)
    · have hne : b ≠ d := fun z => hb (by rw [z]; exact hm)
      obtain ⟨h1, h2⟩ := x.keep b u hb (by rw [hl, upd_ne hne]; exact e5)
      exact ⟨by rw [upd_ne hne]; exact h1, h2⟩
    · have h1 := x.fr b (upd_fr b e5)
      rw [hl] at h1
      exact upd_fr b h1
    · have hne : b ≠ d := fun z => by subst z; rw [h0] at e5; cases e5
      rw [upd_ne hne]
      exact x.frz b ob u (by rw [hl, upd_ne hne]; exact e5)
  · cases e
theorem dl_lock {i : Nat} (h : DL X W e ga) : DL X W e (lLock i ga) :=
  dl_pe (pe_lock h.pe) fun s H Q ⟨r, env, S, R, z⟩ => by
    simp only [lLock] at z
    split at z
    · rename_i n hn
      simp only [lLockK] at z
      cases h1 : rTof S n with
      | none => rw [h1] at z; exact z.elim
      | some S1 =>
        rw [h1] at z
        simp only at z
        obtain ⟨d, ws, e1, e2, hl⟩ := lock_at R.st h1
        refine ⟨d, .dT ws, e2, trivial, fun od => ?_⟩
        obtain ⟨Rl, g⟩ := hl od
        refine ⟨r, env, S1, ⟨Rl, R.len, fun j dd hj => let ⟨v, g1, g2⟩ := R.sl j dd hj; ⟨v, g1, g2.mono g fun _ _ z => z⟩⟩, ?_⟩
        cases hf : ga env S1 with
        | bad => rw [hf] at z; exact z
        | exc c S2 => rw [hf] at z; exact z.elim
        | ok ds S2 =>
          rw [hf] at z
          simp only [Res.bind0, unTL] at z
          intro r' H' v x R' rv
          cases h2 : unT S2 n with
          | none => rw [h2] at z; exact z.elim
          | some S3 =>
            rw [h2] at z
            obtain ⟨k1, k2, k3, k4⟩ := unlock_at e1 e2 rfl x R' h2
            refine ⟨k1, z r' _ v k3 k2 ?_⟩
            obtain ⟨a, us, rfl, h0, na, ha, q⟩ := rv
            refine ⟨a, us, rfl, upd_fr a h0, na, ?_, q.mono k4 fun _ _ z => z⟩
            rw [upd_ne (fun zz => by subst zz; rw [k1] at ha; cases ha)]; exact ha
    · exact z.elim
@[simp] def iKeyK (d : D) (S : Sto) : Res (List D) := match d with
  | .loc n => match S[n]? with
    | some (.rT kvs) => .ok (keysD kvs) S
    | _ => .bad
  | _ => .bad
@[simp] def iKeys' (fa : EvE) : AEnv → Sto → Res (List D) := fun env S => (fa env S).bind fun d S1 => iKeyK d S1
theorem di_keys {tg : Expr} (ha : DE X W e fa) : DI X W tg e (iKeys' fa) :=
  ⟨PI.imp (pi_keys ha.pe) fun s H Ri ⟨r, env, S, R, z⟩ => by
    refine lift_it (RR := RVE X.K) (gx := fun d env S1 => iKeyK d S1) R z (fun d S1 r1 H1 v ds S' e1 R1 rv hg k => ?_) fun a S1 c S' => by
      simp only [iKeyK]; split
      · split <;> (intro z; cases z)
      · intro z; cases z
    simp only [iKeyK] at hg
    split at hg
    · rename_i n
      split at hg
      · rename_i kvs e2
        cases hg
        cases rv with
        | @loc _ a h1 =>
          obtain ⟨b, e3, ob, ws, e4, q⟩ := R1.st.at_ n _ e2
          rw [h1] at e3; cases e3
          refine ⟨a, ob, rfl, .inr ⟨ws, e4, k r1 H1 _ (Ext.refl r1 H1) R1.st fun r2 H2 x2 i => ?_⟩⟩
          have h4 : H2 a = some (.frz ob (.dT ws)) := x2.frz a ob _ e4
          have hlen : (keysD kvs).length = ws.length := by unfold keysD; rw [List.length_map]; exact q.len
          refine ⟨fun dd hd => ?_, fun hl => ⟨h4, by rw [← hlen]; exact hl⟩⟩
          have hi := (List.getElem?_eq_some_iff.mp hd).1
          refine ⟨⟨h4, by rw [← hlen]; exact hi⟩, fun v H' ⟨hH, kk, vv, qa, g1, g2, g3⟩ => ?_⟩
          subst hH
          subst g2
          refine ⟨Ext.refl _ _, fun S0 R0 => ⟨R0, ?_⟩⟩
          unfold keysD at hd
          rw [List.getElem?_map] at hd
          obtain ⟨pr, g5, g6⟩ := paired_get q g1
          rw [g5] at hd
          cases hd
          have : pr.1 = kk := g6.1
          show RV X.K r2 H' (D.tup (pr.1.map kD)) _
          rw [this]
          exact .tup g3 (RVs.keys _)
      · cases hg
    · cases hg⟩
/-! ### the rule for a def -/
def startA (n : Nat) (ds : List D) : AEnv := ds.map some ++ List.replicate (n - ds.length) none
def runD (n : Nat) (body : EvS) (ds : List D) (S : Sto) : Res D := match body (startA n ds) S with
  | .nx _ S' => .ok .non S'
  | .ret d S' => .ok d S'
  | .exc c _ S' => .exc c S'
  | _ => .bad
theorem start_RA {K : PySem.W.Frag} {r : List Addr} {H : Hp} {S : Sto} {ds : List D} {vs : List V} {N : List Str} (R : RSt K r H S) (rv : RVs K r H ds vs) : RA K r H (L2.start N vs) (startA N.length ds) S := by
  have hl := rv.length
  refine ⟨R, by simp [L2.start, startA, hl], fun i d h => ?_⟩
  unfold startA at h
  unfold L2.start
  by_cases hi : i < ds.length
  · rw [List.getElem?_append_left (by simpa using hi), List.getElem?_map] at h
    rw [List.getElem?_append_left (by simpa [← hl] using hi), List.getElem?_map]
    cases hd : ds[i]? with
    | none => rw [hd] at h; cases h
    | some d' =>
      rw [hd] at h; cases h
      obtain ⟨v, e, q⟩ := RVs.get rv hd
      exact ⟨v, by rw [e]; rfl, q⟩
  · rw [List.getElem?_append_right (by simpa using hi)] at h
    rw [List.getElem?_replicate] at h
    split at h <;> cases h
/-- what is wanted of an exception that leaves a def -/
abbrev WE0 (E : XK) : WX := fun cls d _ H => E cls d H
theorem fd_of {P : Program} {w : World} {K : PySem.W.Frag} {mg : Str → Option Value} {base : Heap} {nm qual : Str} {st : Stmt} {f : Addr} {fd : FuncData} {N ps : List Str} {k : Nat} {body : EvS} (F : Fun K nm qual st f fd) (Sc : FnScope N ps (defScope st))
    (h : ∀ (cdv : Value) (A : Around) (outer : List Env) (s : Shared) (H : Hp) (E : XK), Room k (A.deeper (envOfC qual (defScope st) s.heap.objs.size f cdv)) → Takes (cxOf (L2.CX P w) P w K mg base N qual (defScope st) f cdv A outer s H E) (WE0 E) →
      DSs (cxOf (L2.CX P w) P w K mg base N qual (defScope st) f cdv A outer s H E) (WE0 E) (defBody st) body) : FnOk P w K mg base (L2.CX P w) (k + 1) f fd ps (spD K ps.length (runD N.length body)) := by
  refine F.okX Sc (fun vs H Q E h => h.1) fun cdv A outer s H vs Q E hr hsp => ?_
  obtain ⟨_, r, S, ds, R, rv, z⟩ := hsp
  refine ⟨_, (h cdv A outer s H E hr (takes_of rfl rfl rfl rfl)).ps, r, startA N.length ds, S, start_RA R rv, ?_⟩
  unfold runD at z
  cases hb : body (startA N.length ds) S with
  | nx env S' => rw [hb] at z; exact fun r' H' t' x R' => z r' H' .non x R'.st .non
  | ret d S' => rw [hb] at z; exact fun r' H' v x R' rv' => z r' H' v x R' rv'
  | brk env S' => rw [hb] at z; exact z.elim
  | ct env S' => rw [hb] at z; exact z.elim
  | exc c env S' => rw [hb] at z; exact fun r' H' t' cls dx x R' rx => z r' H' cls dx x R'.st rx
  | bad => rw [hb] at z; exact z.elim
/-! ### other words for what a def does -/
mutual
def clD (n : Nat) : D → Bool
  | .loc k => decide (k < n)
  | .tup ds => clDs n ds
  | .cst ds => clDs n ds
  | .fup ds => clDs n ds
  | _ => true
def clDs (n : Nat) : List D → Bool
  | [] => true
  | d :: ds => clD n d && clDs n ds
end
def clO (n : Nat) : MO → Bool
  | .lst ds => clDs n ds
  | .ro ds => clDs n ds
  | .dK kvs => kvs.all fun kv => clD n kv.2
  | .dT kvs => kvs.all fun kv => clD n kv.2
  | .rK kvs => kvs.all fun kv => clD n kv.2
  | .rT kvs => kvs.all fun kv => clD n kv.2
  | .ins _ fs => fs.all fun kv => clD n kv.2
section
variable {K : PySem.W.Frag} {r : List Addr} {H : Hp} {n : Nat}
mutual
theorem RV.cl : ∀ {d : D} {v : V}, RV K r H d v → clD r.length d = true
  | _, _, .non => rfl
  | _, _, .bl _ => rfl
  | _, _, .int _ => rfl
  | _, _, .str _ => rfl
  | _, _, .tup _ q => RVs.cl q
  | _, _, .cst _ q => RVs.cl q
  | _, _, .fup _ _ q => RVs.cl q
  | _, _, .loc h => decide_eq_true (List.getElem?_eq_some_iff.mp h).1
theorem RVs.cl : ∀ {ds : List D} {vs : List V}, RVs K r H ds vs → clDs r.length ds = true
  | _, _, .nil => rfl
  | _, _, .cons h q => by rw [clDs, RV.cl h, RVs.cl q]; rfl
end
mutual
theorem RV.cut : ∀ {d : D} {v : V}, RV K r H d v → clD n d = true → RV K (r.take n) H d v
  | _, _, .non, _ => .non
  | _, _, .bl _, _ => .bl _
  | _, _, .int _, _ => .int _
  | _, _, .str _, _ => .str _
  | _, _, .tup h q, e => .tup h (RVs.cutN q e)
  | _, _, .cst h q, e => .cst h (RVs.cutN q e)
  | _, _, .fup h hd q, e => .fup h hd (RVs.cutN q e)
  | _, _, .loc h, e => .loc (by rw [List.getElem?_take_of_lt (of_decide_eq_true e)]; exact h)
theorem RVs.cutN : ∀ {ds : List D} {vs : List V}, RVs K r H ds vs → clDs n ds = true → RVs K (r.take n) H ds vs
  | _, _, .nil, _ => .nil
  | _, _, .cons h q, e => by
    simp only [clDs, Bool.and_eq_true] at e
    exact .cons (RV.cut h e.1) (RVs.cutN q e.2)
end
theorem PKV.cl {κ : Type} : ∀ {kvs : List (κ × D)} {ws : List (κ × V)}, PKV K r H kvs ws → (kvs.all fun kv => clD r.length kv.2) = true
  | _, _, .nil => rfl
  | _, _, .cons h t => by rw [List.all_cons, h.2.cl, PKV.cl t]; rfl
theorem PKV.cutN {κ : Type} : ∀ {kvs : List (κ × D)} {ws : List (κ × V)}, PKV K r H kvs ws → (kvs.all fun kv => clD n kv.2) = true → PKV K (r.take n) H kvs ws
  | _, _, .nil, _ => .nil
  | _, _, .cons h t, e => by
    rw [List.all_cons, Bool.and_eq_true] at e
    exact .cons ⟨h.1, h.2.cut e.1⟩ (PKV.cutN t e.2)
theorem RO.cl {o : MO} {a : Addr} (h : RO K r H o a) : clO r.length o = true := by
  cases o with
  | lst ds => obtain ⟨vs, _, q⟩ := h; exact q.cl
  | ro ds => obtain ⟨_, vs, _, q⟩ := h; exact q.cl
  | dK kvs => obtain ⟨vs, _, q⟩ := h; exact q.cl
  | dT kvs => obtain ⟨vs, _, q⟩ := h; exact q.cl
  | rK kvs => obtain ⟨_, vs, _, q⟩ := h; exact q.cl
  | rT kvs => obtain ⟨_, vs, _, q⟩ := h; exact q.cl
  | ins C fs => obtain ⟨_, vs, _, q⟩ := h; exact q.cl
theorem RO.cutN {o : MO} {a : Addr} (h : RO K r H o a) (e : clO n o = true) : RO K (r.take n) H o a := by
  cases o with
  | lst ds => obtain ⟨vs, h1, q⟩ := h; exact ⟨vs, h1, q.cutN e⟩
  | ro ds => obtain ⟨o, vs, h1, q⟩ := h; exact ⟨o, vs, h1, q.cutN e⟩
  | dK kvs => obtain ⟨vs, h1, q⟩ := h; exact ⟨vs, h1, q.cutN e⟩
  | dT kvs => obtain ⟨vs, h1, q⟩ := h; exact ⟨vs, h1, q.cutN e⟩
  | rK kvs => obtain ⟨o, vs, h1, q⟩ := h; exact ⟨o, vs, h1, q.cutN e⟩
  | rT kvs => obtain ⟨o, vs, h1, q⟩ := h; exact ⟨o, vs, h1, q.cutN e⟩
  | ins C fs => obtain ⟨dx, vs, h1, q⟩ := h; exact ⟨dx, vs, h1, q.cutN e⟩
theorem RSt.cl {S : Sto} (R : RSt K r H S) : ∀ o ∈ S, clO S.length o = true := fun o ho => by
  obtain ⟨k, hk, e⟩ := List.mem_iff_getElem.mp ho
  obtain ⟨a, _, q⟩ := R.at_ k o (by rw [List.getElem?_eq_getElem hk, e])
  rw [← R.len]; exact q.cl
/-- what is left over is forgotten -/
theorem RSt.forget {S g : Sto} {r0 : List Addr} {H0 : Hp} {S0 : Sto} (R0 : RSt K r0 H0 S0) (R : RSt K r H (S ++ g)) (x : Ext r0 H0 r H) (hl : S0.length ≤ S.length) (hc : ∀ o ∈ S, clO S.length o = true) :
    RSt K (r.take S.length) H S ∧ Ext r0 H0 (r.take S.length) H := by
  have hlen : r.length = S.length + g.length := by rw [R.len, List.length_append]
  refine ⟨⟨by rw [List.length_take]; omega, R.nd.sublist (List.take_sublist _ _), fun k o e => ?_⟩, ⟨?_, fun a o h e => ?_, x.fr, x.frz⟩⟩
  · have hk : k < S.length := (List.getElem?_eq_some_iff.mp e).1
    obtain ⟨a, e1, q⟩ := R.at_ k o (by rw [List.getElem?_append_left hk]; exact e)
    exact ⟨a, by rw [List.getElem?_take_of_lt hk]; exact e1, q.cutN (hc o (List.mem_of_getElem? e))⟩
  · obtain ⟨t, e⟩ := x.pre
    refine ⟨t.take (S.length - r0.length), ?_⟩
    rw [e, List.take_append, List.take_of_length_le (by rw [R0.len]; exact hl)]
  · obtain ⟨h1, h2⟩ := x.keep a o h e
    exact ⟨h1, fun z => h2 (List.mem_of_mem_take z)⟩
end
/-- what stands for d stands for d' too -/
def Wk (d d' : D) : Prop := ∀ K r H v, RV K r H d v → RV K r H d' v
theorem Wk.refl (d : D) : Wk d d := fun _ _ _ _ h => h
theorem Wk.tup (ds : List D) : Wk (.tup ds) (.cst ds) := fun _ _ _ _ h => by
  cases h with
  | tup h q => exact .cst (.inl h) q
theorem Wk.fup (ds : List D) : Wk (.fup ds) (.cst ds) := fun _ _ _ _ h => by
  cases h with
  | fup h _ q => exact .cst (.inr (.inl ⟨_, h⟩)) q
/-- x does as much as y says -/
def RLe (S0 : Sto) (x y : Res D) : Prop := match y with
  | .bad => True
  | .ok d' S2 => ∃ d g, x = .ok d (S2 ++ g) ∧ Wk d d' ∧ (g = [] ∨ (S0.length ≤ S2.length ∧ clD S2.length d' = true ∧ ∀ o ∈ S2, clO S2.length o = true))
  | .exc c S2 => ∃ g, x = .exc c (S2 ++ g) ∧ (g = [] ∨ (S0.length ≤ S2.length ∧ (∀ o ∈ S2, clO S2.length o = true) ∧ (c.fs.getD []).all (fun kv => clD S2.length kv.2) = true))
theorem spD_le {K : PySem.W.Frag} {n : Nat} {F F' : List D → Sto → Res D} (h : ∀ ds S, ds.length = n → (∀ o ∈ S, clO S.length o = true) → RLe S (F ds S) (F' ds S)) : ∀ vs H Q E, spD K n F' vs H Q E → spD K n F vs H Q E := by
  rintro vs H Q E ⟨hl, r, S, ds, R, rv, z⟩
  refine ⟨hl, r, S, ds, R, rv, ?_⟩
  have le := h ds S (by rw [rv.length]; exact hl) R.cl
  unfold RLe at le
  cases hF' : F' ds S with
  | bad => rw [hF'] at z; exact z.elim
  | ok d' S2 =>
    rw [hF'] at z le
    obtain ⟨d, g, e, wk, hg⟩ := le
    rw [e]
    intro r' H' v x R' rv'
    rcases hg with rfl | ⟨h1, h2, h3⟩
    · rw [List.append_nil] at R'
      exact z r' H' v x R' (wk _ _ _ _ rv')
    · obtain ⟨R2, x2⟩ := RSt.forget R R' x h1 h3
      exact z _ H' v x2 R2 ((wk _ _ _ _ rv').cut h2)
  | exc c S2 =>
    rw [hF'] at z le
    obtain ⟨g, e, hg⟩ := le
    rw [e]
    intro r' H' cls dx x R' rx
    rcases hg with rfl | ⟨h1, h2, h3⟩
    · rw [List.append_nil] at R'
      exact z r' H' cls dx x R' rx
    · obtain ⟨R2, x2⟩ := RSt.forget R R' x h1 h2
      refine z _ H' cls dx x2 R2 ⟨rx.1, ?_⟩
      have rx2 := rx.2
      cases hf : c.fs with
      | none => rw [hf] at rx2; exact rx2
      | some fs =>
        rw [hf] at rx2 h3
        obtain ⟨a, fs', g1, g2, g3, g4⟩ := rx2
        exact ⟨a, fs', g1, fun zz => g2 (List.mem_of_mem_take zz), g3, g4.cutN h3⟩
theorem fd_le {P : Program} {w : World} {K : PySem.W.Frag} {mg : Str → Option Value} {base : Heap} {CX : CXT} {k n : Nat} {f : Addr} {fd : FuncData} {ps : List Str} {F F' : List D → Sto → Res D} (G : FnOk P w K mg base CX k f fd ps (spD K n F))
    (h : ∀ ds S, ds.length = n → (∀ o ∈ S, clO S.length o = true) → RLe S (F ds S) (F' ds S)) : FnOk P w K mg base CX k f fd ps (spD K n F') := G.imp (spD_le h)
/-! ### repr -/
def ShowOk (q : PyData) : Prop := q.showable = true ∧ q.hasDict = false ∧ q.shown.length ≤ LN ∧ q.depth ≤ 20
instance (q : PyData) : Decidable (ShowOk q) := by unfold ShowOk; exact inferInstance
def gRepr (ds : List D) (_ : Sto) : Option D := match ds with
  | [d] => d.py.bind fun q => if ShowOk q then some (.str q.shown) else none
  | _ => none
theorem c_repr (hgd : X.A.guards = some []) (hu : X.A.units + 64 < cLine) : CallD X (.builtin "repr") gRepr := by
  intro pins s σ H xs us Q I rx h
  obtain ⟨r, S, ds, R, rv, q⟩ := h
  unfold gRepr at q
  split at q
  · rename_i d
    obtain ⟨v, rfl, h⟩ := rv.one
    cases hp : d.py with
    | none => rw [hp] at q; exact q.elim
    | some pd =>
      rw [hp] at q
      simp only [Option.bind_some] at q
      obtain ⟨⟨h1, h2, h3, h4⟩, q⟩ := ite_out q
      have fin : Q (.str pd.shown) H := OutD.now q R (.str _)
      obtain ⟨u, rfl, ru⟩ := vals1 rx
      obtain ⟨as, hr⟩ := Dp.reads I pd v u (h.dp hp) ru
      cases h with
      | non =>
        cases ru; cases hp
        exact PySem.P.repr_of_none ⟨.str "None", H, I.tok _, ⟨_, rfl⟩, by simpa [PyData.shown] using fin⟩
      | bl b =>
        cases ru; cases hp
        exact PySem.P.repr_of_bool ⟨.str _, H, I.tok _, ⟨_, rfl⟩, by cases b <;> simpa [PyData.shown] using fin⟩
      | int i =>
        obtain ⟨t, rfl⟩ := ru
        cases hp
        exact PySem.P.repr_of_int (by simpa [PyData.showable] using h1) ⟨.str _, H, I.tok _, ⟨_, rfl⟩, by simpa [PyData.shown] using fin⟩
      | str z =>
        obtain ⟨t, rfl⟩ := ru
        cases hp
        refine PySem.P.repr_of_str ⟨.str _, H, I.tok _, ⟨_, rfl⟩, by simpa [PyData.shown] using fin⟩ ?_
        simp only [PyData.shown] at h3
        exact LN_line h3
      | @tup ds' vs a _ _ =>
        cases ru
        exact repr_of_reads' hr h1 (fun z => by rw [h2] at z; cases z) hgd (by omega) (fun _ _ z => z) (fun h' u tk hk => ⟨.str pd.shown, H, I.kept hk, ⟨_, rfl⟩, fin⟩) (LN_line h3)
      | @cst ds' vs a _ _ =>
        cases ru
        exact repr_of_reads' hr h1 (fun z => by rw [h2] at z; cases z) hgd (by omega) (fun _ _ z => z) (fun h' u tk hk => ⟨.str pd.shown, H, I.kept hk, ⟨_, rfl⟩, fin⟩) (LN_line h3)
      | @fup ds' vs a _ _ _ _ =>
        cases ru
        exact repr_of_reads' hr h1 (fun z => by rw [h2] at z; cases z) hgd (by omega) (fun _ _ z => z) (fun h' u tk hk => ⟨.str pd.shown, H, I.kept hk, ⟨_, rfl⟩, fin⟩) (LN_line h3)
      | loc _ => cases hp
  · exact q.elim
end
end DV
/-! DV9: a def of the text as a callee; small words for the printed derivations. -/
namespace DV
open PySem PySem.Spec PyProof.Rows L2
/-- a def of the text, known by its name: it does what T says -/
def Cal (P : Program) (w : World) (K : PySem.W.Frag) (mg : Str → Option Value) (base : Heap) (nm : Str) (k : Nat) (ps : List Str) (T : List D → Sto → Res D) : Prop :=
  ∃ f fd, mg nm = some (.ref f) ∧ PySem.W.keepIn K (.ref f) = true ∧ Binds K fd ps [] ∧ FnOk P w K mg base (L2.CX P w) k f fd ps (spD K ps.length T)
section
variable {X : Cx} {W : WX} {a b c e o : Expr} {es : List Expr} {fa fb fc fo : EvE} {ga gb : AEnv → Sto → Res (List D)} {pos p p2 : Pos} {x : Str}
theorem d_cal {nm : Str} {k k' n : Nat} {ps : List Str} {T : List D → Sto → Res D} (G : Cal X.prog X.w X.K X.mg X.base nm k ps T) (hr : Room k' X.A) (hk : k ≤ k') (tk : Takes X W) (hg : Gl X nm) (ha : DA X W (e :: es) ga) (hdb : (nm == ("__debug__" : Str)) = false := by decide) (hn : ps.length = n := by rfl)
    (he : starEach (e :: es) X.env = (false, eval e X.env) :: starEach es X.env := by rfl) (hpl : (backTo pos (starEach es X.env)).any (·.1) = false := by rfl) : DE X W (.Call (.Name nm p) (e :: es) [] pos) (eCall n T ga) := by
  subst hn
  obtain ⟨f, fd, h1, h2, h3, h4⟩ := G
  exact d_call h4 (hr.mono hk) tk hg h1 h2 h3 ha hdb he hpl
theorem tkB : Takes X W0 := fun u s' ⟨_, _, _, _, _, _, _, _, _, _, _, _, _, _, _, _, w⟩ => w.elim
theorem un0 {k : Nat} {A : Around} (r : Room k A) : A.units < cLine := by have := r.un; omega
theorem un1 {k : Nat} {A : Around} (r : Room k A) : A.units + 1 < cLine := by have := r.un; omega
theorem un64 {k : Nat} {A : Around} (r : Room k A) : A.units + 64 < cLine := by have := r.un; omega
end
theorem cal_mk {P : Program} {w : World} {K : PySem.W.Frag} {mg : Str → Option Value} {base : Heap} {nm : Str} {st : Stmt} {f : Addr} {fd : FuncData} {N ps : List Str} {k : Nat} {body : EvS} (F : Fun K nm nm st f fd) (b : Binds K fd ps []) (m : mg nm = some (.ref f)) (Sc : FnScope N ps (defScope st))
    (h : ∀ (cdv : Value) (A : Around) (outer : List Env) (s : Shared) (H : Hp) (E : XK), Room k (A.deeper (envOfC nm (defScope st) s.heap.objs.size f cdv)) → Takes (cxOf (L2.CX P w) P w K mg base N nm (defScope st) f cdv A outer s H E) (WE0 E) →
      PassesOwn (model P w) (A.deeper (envOfC nm (defScope st) s.heap.objs.size f cdv)) (cxOf (L2.CX P w) P w K mg base N nm (defScope st) f cdv A outer s H E).env (cxOf (L2.CX P w) P w K mg base N nm (defScope st) f cdv A outer s H E).xe →
      DSs (cxOf (L2.CX P w) P w K mg base N nm (defScope st) f cdv A outer s H E) (WE0 E) (defBody st) body) : Cal P w K mg base nm (k + 1) ps (runD N.length body) :=
  ⟨f, fd, m, F.kp, b, fd_of F Sc fun cdv A outer s H E hr tk => h cdv A outer s H E hr tk (passes_of (X := cxOf (L2.CX P w) P w K mg base N nm (defScope st) f cdv A outer s H E) rfl)⟩
/-- the builtins and constants that the text uses -/
structure Bt (mg : Str → Option Value) : Prop where
  abs : mg "abs" = none
  isi : mg "isinstance" = none
  int : mg "int" = none
  bool : mg "bool" = none
  tuple : mg "tuple" = none
  len : mg "len" = none
  all : mg "all" = none
  sorted : mg "sorted" = none
  zip : mg "zip" = none
  dict : mg "dict" = none
  range : mg "range" = none
  max : mg "max" = none
  sum : mg "sum" = none
  list : mg "list" = none
  repr : mg "repr" = none
  str : mg "str" = none
/-- turns of a loop that makes the int in a slot smaller -/
def fuI (i : Nat) (env : AEnv) (_ : Sto) : Nat := match env[i]? with
  | some (some (.int n)) => n.natAbs + 2
  | _ => 0
theorem bt_int : bootBuiltins "int" = some (.type "int") := by rfl
theorem bt_bool : bootBuiltins "bool" = some (.type "bool") := by rfl
theorem bt_tuple : bootBuiltins "tuple" = some (.type "tuple") := by rfl
theorem bt_list : bootBuiltins "list" = some (.type "list") := by rfl
theorem bt_str : bootBuiltins "str" = some (.type "str") := by rfl
theorem bt_dict : bootBuiltins "dict" = some (.type "dict") := by rfl
theorem bt_abs : bootBuiltins "abs" = some (.builtin "abs") := by rfl
theorem bt_len : bootBuiltins "len" = some (.builtin "len") := by rfl
theorem bt_all : bootBuiltins "all" = some (.builtin "all") := by rfl
theorem bt_sorted : bootBuiltins "sorted" = some (.builtin "sorted") := by rfl
theorem bt_max : bootBuiltins "max" = some (.builtin "max") := by rfl
theorem bt_sum : bootBuiltins "sum" = some (.builtin "sum") := by rfl
theorem bt_repr : bootBuiltins "repr" = some (.builtin "repr") := by rfl
end DV
/-! DV10: a list backwards; the law's own run where the guards are known. -/
namespace DV
open PySem PySem.Spec PyProof.Rows L2
section
variable {X : Cx} {W : WX} {a b c e o : Expr} {es : List Expr} {fa fb fc fo : EvE} {ga gb : AEnv → Sto → Res (List D)} {pos p p2 p3 : Pos} {x : Str}
/-- a new list, the other way round: the step is 0 - 1, written so -/
theorem pe_back {t : TE} {k0 k1 : Nat} {q0 q1 q2 : Pos} (he : PE X e t) : PE X (.Subscript e (.Slice none none (some (.BinOp (.Constant (.int 0) k0 q0) .Sub (.Constant (.int 1) k1 q1) q2)) p3) pos) (tRevL X.K t) := by
  constructor
  intro pins s σ H Q inv h
  refine Subscript_ (thn (he.run pins s σ H _ inv h) ?_)
  rintro val sa ⟨x, Ha, invA, ra, aL, xs, rfl, hSq, fin⟩
  cases ra
  have pstep : PO X (some (.BinOp (.Constant (.int 0) k0 q0) .Sub (.Constant (.int 1) k1 q1) q2)) _ := po_some (pe_op op_sub pe_int pe_int)
  refine wpAny_Slice (thn (po_none.run pins sa σ Ha (fun w Hw => w = none ∧ Hw = Ha) invA ⟨rfl, rfl⟩) ?_)
  rintro lo sb ⟨_, _, invB, pLo, rfl, rfl⟩
  refine thn (po_none.run pins sb σ _ (fun w Hw => w = none ∧ Hw = _) invB ⟨rfl, rfl⟩) ?_
  rintro up sc ⟨_, _, invC, pUp, rfl, rfl⟩
  refine thn (pstep.run pins sc σ _ (fun w Hw => w = some (-1) ∧ Hw = _) invC ⟨0, 1, rfl, rfl, _, rfl, rfl, rfl⟩) ?_
  rintro st sd ⟨_, _, invD, pSt, rfl, rfl⟩
  have inv5 : Inv X pins σ _ { sd with heap := sd.heap.push { cls := .type "slice", data := .fields #[lo, up, st] } } := invD.kept (t' := sd.toks) fun _ _ q => Heap.get?_push_of_some _ q
  obtain ⟨its, rr, lst, small⟩ := inv5.list hSq
  have len := rr.length
  show wpAny (model X.prog X.w) X.A (subscriptTail e (.Slice none none (some (.BinOp (.Constant (.int 0) k0 q0) .Sub (.Constant (.int 1) k1 q1) q2)) p3) (.ref aL) (.ref sd.heap.objs.size)) _ _ _
  refine tail_any (ops := [.ref aL, .ref sd.heap.objs.size]) lst.isList.typeIs (PySem.slot_list_getitem.lookup) ?_ (by with_unfolding_all rfl)
  apply wpAny_getItem_list_slice lst.isList (Heap.IsSliceOf.new _ lo up st) pLo pUp pSt (by decide)
  · rw [PySem.W.krv_pick]
    exact ⟨.ref _, _, inv5.laid (t' := sd.toks) (o := .lst xs.reverse) (fun _ _ q => Heap.get?_push_of_some _ q) (Nat.le_refl _) ⟨by rw [List.length_reverse]; exact small, _, 0, rr.reverse, Heap.get?_push_size _ rfl⟩, rfl, fin _ (inv5.hok.fresh (Nat.le_refl _))⟩
@[simp] def lRev (fa : EvE) : AEnv → Sto → Res (List D) := fun env S => (fa env S).bind fun d S1 => ofL ((lstOf d S1).map List.reverse) S1
theorem dl_rev {k0 k1 : Nat} {q0 q1 q2 : Pos} (ha : DE X W a fa) : DL X W (.Subscript a (.Slice none none (some (.BinOp (.Constant (.int 0) k0 q0) .Sub (.Constant (.int 1) k1 q1) q2)) p3) pos) (lRev fa) :=
  dl_pe (pe_back ha.pe) fun s H Q ⟨r, env, S, R, q⟩ => by
    refine lift_map (g := fun d _ S1 => ofL ((lstOf d S1).map List.reverse) S1) R q fun d S1 r1 H1 x e1 R1 rx q1 => ?_
    cases hx : lstOf d S1 with
    | none => rw [hx] at q1; exact q1.elim
    | some xs =>
      rw [hx] at q1
      obtain ⟨a, vs, rfl, hs, qv⟩ := RV.lst rx R1.st hx
      exact ⟨a, vs, rfl, hs, fun p hp => new_lst (resP.ext anti_L q1 e1) (Ext.refl r1 H1) R1.st qv.reverse hp⟩
end
/-! ### the law's own run -/
/-- a def's body, entered from A: as the promise of a def, but A is known -/
theorem fn_here {P : Program} {w : World} {K : PySem.W.Frag} {mg : Str → Option Value} {base : Heap} {nm qual : Str} {st : Stmt} {f : Addr} {fd : FuncData} {N ps : List Str} {A : Around} {outer : List Env} {s : Shared} {H : Hp} {us : List Value} {vs : List V} {Q : VK} {E : XK}
    (F : Fun K nm qual st f fd) (Sc : FnScope N ps (defScope st)) (hh : A.handled = none) (hd : A.depth < recursionLimit) (e0 : Env0 P w K mg base A outer s H) (hb : BindsTo s fd ⟨us, []⟩ (ps.zip us)) (rv : Vals vs us) (hl : vs.length = ps.length)
    (body : ∀ cdv, ∃ t, PSs (cxOf (L2.CX P w) P w K mg base N qual (defScope st) f cdv A outer s H E) (defBody st) t ∧ t { nx := fun _ H' => Q .non H', rt := Q } (L2.start N vs) H) :
    codeAny (model P w) A (.call (.ref f) ⟨us, []⟩) (CR (L2.CX P w) outer P w H s Q E) s := by
  obtain ⟨oc, od, kV, doc, pm, an, cdv, ct, osl, rfl, lk, hcd⟩ := F.ex
  have inK : K.In s.heap := e0.mod.kin.keeps fun b o e => (e0.bs b o e).1
  have noL : s.heap.NoLimit := e0.mod.nolimit.keeps fun b o e => (e0.bs b o e).1
  obtain ⟨t, ht, hq⟩ := body cdv
  refine Att.call_fn inK noL lk hcd hd hb ?_ (fun s₁ icc => ?_) Sc.co Sc.gen Sc.kind
  · rw [List.all_eq_true]
    rintro ⟨y, u⟩ hy
    rcases Sc.par y (List.of_mem_zip hy).1 with q | q
    · rw [q]; rfl
    · rw [q]; rfl
  · have inv : Inv (cxOf (L2.CX P w) P w K mg base N qual (defScope st) f cdv A outer s H E) [] (L2.start N vs) H s₁ := inv_start Sc hh e0 hl rv icc
    refine wpAny_mono (ht.run [] s₁ (L2.start N vs) H _ inv hq) (fun fl s' z => ?_) fun _ _ z => z
    cases fl with
    | next =>
      obtain ⟨σ', H', J, q⟩ := z
      exact ⟨V.non, H', J.os, J.bare, J.base, J.hok, rfl, q⟩
    | ret u =>
      obtain ⟨v, σ', H', J, ru, q⟩ := z
      exact ⟨v, H', J.os, J.bare, J.base, J.hok, ru, q⟩
    | brk => obtain ⟨_, _, _, q⟩ := z; exact q.elim
    | cont => obtain ⟨_, _, _, q⟩ := z; exact q.elim
/-- the heap that knows the script alone -/
def HScript (K : PySem.W.Frag) (a : Addr) (o : Obj) (xs : List V) : Hp := fun b => if b = a ∧ K.lookup a = none then some (.frz o (.lst xs)) else none
theorem HScript.some {K : PySem.W.Frag} {a b : Addr} {o : Obj} {xs : List V} {u : HO} (h : HScript K a o xs b = some u) : b = a ∧ K.lookup a = none ∧ u = .frz o (.lst xs) := by
  unfold HScript at h
  split at h
  · rename_i q; exact ⟨q.1, q.2, (Option.some.inj h).symm⟩
  · cases h
theorem HScript.none_of {K : PySem.W.Frag} {a b : Addr} {o : Obj} {xs : List V} (h : b = a → K.lookup a = none → False) : HScript K a o xs b = none := by
  unfold HScript
  rw [if_neg fun q => h q.1 q.2]
theorem law_here {P : Program} {w : World} {K : PySem.W.Frag} {mg mb : Str → Option Value} {fa a : Addr} {fd : FuncData} {x nm qual : Str} {st : Stmt} {N : List Str} {s₁ : Shared} {vs : List Value} {ns : List Int}
    (inK : K.In s₁.heap) (gl : s₁.heap.Ns mainGlobals mg) (bn : s₁.heap.Ns builtinsNs mb) (bb : ∀ x : Str, x ≠ "__name__" → mb x = bootBuiltins x) (noL : s₁.heap.NoLimit) (gn : s₁.gens = #[])
    (ga : s₁.heap.get? a = some { cls := .type "list", data := .seq vs.toArray }) (ia : IntsAre vs ns) (hl : ns.length ≤ sizeLine) (F : Fun K nm qual st fa fd) (Sc : FnScope N [x] (defScope st)) (hb : ∀ (s : Shared) (u : Value), BindsTo s fd ⟨[u], []⟩ [(x, u)])
    (body : ∀ base : Heap, K.In base → base.Ns mainGlobals mg → ∀ (H : Hp) (cdv : Value), (∀ b, H b = none ∨ ∃ o xs, H b = some (.frz o (.lst xs))) → SqL K H a (ns.map V.int) →
      ∃ t, PSs (cxOf (L2.CX P w) P w K mg base N qual (defScope st) fa cdv callerA [] s₁ H fun _ _ _ => False) (defBody st) t ∧ t { nx := fun _ _ => V.non = .bl true, rt := fun v _ => v = .bl true } (L2.start N [.ref a]) H) :
    codeAny (model P w) callerA (.call (.ref fa) ⟨[.ref a], []⟩) (fun r s' => r = .ok (.ret (.bool true)) ∧ OldK s₁.heap s'.heap ∧ s'.os = s₁.os ∧ AllBare s'.gens) s₁ := by
  generalize hH : HScript K a { cls := .type "list", data := .seq vs.toArray } (ns.map V.int) = H
  have ho : ∀ {b u}, H b = some u → b = a ∧ K.lookup a = none ∧ u = .frz { cls := .type "list", data := .seq vs.toArray } (.lst (ns.map V.int)) := fun {b u} e => HScript.some (by rw [hH]; exact e)
  have hn : ∀ {b}, (b = a → K.lookup a = none → False) → H b = none := fun {b} e => by rw [← hH]; exact HScript.none_of e
  have sz : (ns.map V.int).length ≤ sizeLine := by rw [List.length_map]; exact hl
  have rel := vals_ints ia
  have only : ∀ b, H b = none ∨ ∃ o xs, H b = some (.frz o (.lst xs)) := fun b => by
    cases q : H b with
    | none => exact .inl rfl
    | some u => obtain ⟨_, _, rfl⟩ := ho q; exact .inr ⟨_, _, rfl⟩
  have sq : SqL K H a (ns.map V.int) := by
    cases hk : K.lookup a with
    | none => exact .inl (.inr ⟨{ cls := .type "list", data := .seq vs.toArray }, by rw [← hH]; exact if_pos ⟨rfl, hk⟩⟩)
    | some o =>
      have e := inK a o hk
      rw [ga] at e; cases e
      exact .inr ⟨_, vs.toArray, _, hk, rfl, rfl, rfl, by rw [List.size_toArray]; have := ia.length; omega, by simpa using rel⟩
  have hok : HOk P w H s₁.heap := fun b u e => by
    obtain ⟨rfl, _, rfl⟩ := ho e
    exact ⟨ga, sz, vs, _, rel, ga⟩
  have stays : ∀ {b : Addr} {m : Str → Option Value}, s₁.heap.Ns b m → (hidT s₁.heap H).Ns b m := fun {b m} ⟨o, es, ep, e, d, r⟩ => ⟨o, es, ep, hidT_get e (hn fun z _ => by
    subst z; rw [ga] at e; cases e; cases d), d, r⟩
  have kb : K.In (hidT s₁.heap H) := fun b o e => hidT_get (inK b o e) (hn fun z q => by subst z; rw [q] at e; cases e)
  have md : Mod K mg (hidT s₁.heap H) := ⟨kb, stays gl, ⟨mb, stays bn, bb⟩, let ⟨mc, h1, h2⟩ := noL; ⟨mc, stays h1, h2⟩⟩
  have e0 : Env0 P w K mg (hidT s₁.heap H) callerA [] s₁ H := ⟨rfl, md, fun b o e => of_hidT e, Nat.le_of_eq (hidT_size _ _), trivial, fun b q => (nomatch q), hok, .of_eq gn⟩
  refine codeAny_mono (fn_here (us := [.ref a]) (vs := [.ref a]) (Q := fun v _ => v = .bl true) (E := fun _ _ _ => False) F Sc rfl (by decide) e0 (hb s₁ (.ref a)) (.cons rfl .nil) rfl fun cdv => ?_) fun r s' z => ?_
  · obtain ⟨t, t1, t2⟩ := body _ kb (stays gl) H cdv only sq
    exact ⟨t, t1, t2⟩
  · cases r with
    | error e => obtain ⟨_, _, _, _, _, _, _, _, _, _, _, _, no⟩ := z; exact no.elim
    | ok fl =>
      cases fl with
      | ret u =>
        obtain ⟨v, H', os, bare, un, ok', ru, q⟩ := z
        cases q
        cases ru
        refine ⟨rfl, OldK.of_keep fun b o e => ?_, os, bare⟩
        cases q : H b with
        | none => exact un.keep b o e q (fun z => nomatch z) (fun z => nomatch z)
        | some u =>
          obtain ⟨rfl, _, rfl⟩ := ho q
          rw [ga] at e; cases e
          exact (ok' _ _ (un.frzs _ _ _ q)).1
      | next => exact z.elim
      | brk => exact z.elim
      | cont => exact z.elim
end DV
/-! EV: what the operations give, for simp. -/
namespace DV
open PySem PySem.Spec PyProof.Rows L2
section
variable {i j : Int} {ds es : List D} {S : Sto} {n : Nat}
@[simp] theorem LN_eq : LN = 16777216 := rfl
@[simp] theorem seq_tup : (D.tup ds).seq? = some ds := rfl
@[simp] theorem seq_cst : (D.cst ds).seq? = some ds := rfl
@[simp] theorem seq_fup : (D.fup ds).seq? = some ds := rfl
@[simp] theorem oAdd_int : oAdd (.int i) (.int j) = some (.int (i + j)) := rfl
@[simp] theorem oSub_int : oSub (.int i) (.int j) = some (.int (i - j)) := rfl
@[simp] theorem oMul_int : oMul (.int i) (.int j) = if i.natAbs.log2 + j.natAbs.log2 < 1000000 then some (.int (i * j)) else none := rfl
@[simp] theorem oDiv_int : oDiv (.int i) (.int j) = if 0 < j ∧ j.natAbs.log2 < 9000 then some (.int (i / j)) else none := rfl
@[simp] theorem oMod_int : oMod (.int i) (.int j) = if 0 < j then some (.int (i % j)) else none := rfl
@[simp] theorem oNeg_int : oNeg (.int i) = some (.int (-i)) := rfl
@[simp] theorem oPow_int : oPow (.int i) (.int j) = if 0 ≤ j ∧ j ≤ 1000000 ∧ i.natAbs < 2 ^ 64 then some (.int (i ^ j.toNat)) else none := rfl
@[simp] theorem cEq_int : cEq (.int i) (.int j) = some (decide (i = j)) := rfl
@[simp] theorem cEq_str {x y : Str} : cEq (.str x) (.str y) = some (decide (x = y)) := rfl
@[simp] theorem cLt_int : cLt (.int i) (.int j) = some (decide (i < j)) := rfl
@[simp] theorem cLe_int : cLe (.int i) (.int j) = some (decide (i ≤ j)) := rfl
@[simp] theorem cGt_int : cGt (.int i) (.int j) = some (decide (j < i)) := rfl
@[simp] theorem cGe_int : cGe (.int i) (.int j) = some (decide (j ≤ i)) := rfl
@[simp] theorem gAbs_int : gAbs [.int i] S = some (.int (if i < 0 then -i else i)) := rfl
@[simp] theorem gInt_int : gInt [.int i] S = some (.int i) := rfl
@[simp] theorem gMax2_int : gMax2 [.int i, .int j] S = some (.int (if j > i then j else i)) := rfl
@[simp] theorem gTup_some : gTup ds = some (.tup ds) := rfl
@[simp] theorem gFup_some : gFup ds = some (.fup ds) := rfl
@[simp] theorem gLen_some : gLen ds = some (.int ds.length) := rfl
theorem atI_nat' {α : Type} {xs : List α} {k : Int} (h : 0 ≤ k) : atI xs k = xs[k.toNat]? := by
  obtain ⟨n, rfl⟩ := Int.eq_ofNat_of_zero_le h
  unfold atI ixN
  rw [if_pos (by omega)]
  simp only [Int.toNat_natCast]
  by_cases hl : n < xs.length
  · rw [if_pos (by omega)]; rfl
  · rw [if_neg (by omega)]
    rw [List.getElem?_eq_none (by omega)]; rfl
@[simp] theorem atI_0 {α : Type} {xs : List α} : atI xs 0 = xs[0]? := atI_nat' (by decide)
@[simp] theorem atI_1 {α : Type} {xs : List α} : atI xs 1 = xs[1]? := atI_nat' (by decide)
@[simp] theorem atI_2 {α : Type} {xs : List α} : atI xs 2 = xs[2]? := atI_nat' (by decide)
@[simp] theorem atI_3 {α : Type} {xs : List α} : atI xs 3 = xs[3]? := atI_nat' (by decide)
@[simp] theorem atI_n {α : Type} {xs : List α} {k : Nat} : atI xs (k : Int) = xs[k]? := by rw [atI_nat' (by omega)]; simp
theorem ix_seq {d : D} {xs : List D} {k : Int} (h : d.seq? = some xs) : ixD d (.int k) S = atI xs k := by
  cases d <;> simp [D.seq?] at h <;> subst h <;> rfl
@[simp] theorem ix_tup {k : Int} : ixD (.tup ds) (.int k) S = atI ds k := rfl
@[simp] theorem ix_cst {k : Int} : ixD (.cst ds) (.int k) S = atI ds k := rfl
@[simp] theorem ix_fup {k : Int} : ixD (.fup ds) (.int k) S = atI ds k := rfl
theorem ix_loc {k : Int} {xs : List D} (h : S[n]? = some (.lst xs)) : ixD (.loc n) (.int k) S = atI xs k := by simp [ixD, h]
@[simp] theorem run_def {k : Nat} {b : EvS} {ds : List D} {S : Sto} : runD k b ds S = match b (startA k ds) S with
  | .nx _ S' => .ok .non S'
  | .ret d S' => .ok d S'
  | .exc c _ S' => .exc c S'
  | _ => .bad := rfl
@[simp] theorem start_def {k : Nat} {ds : List D} : startA k ds = ds.map some ++ List.replicate (k - ds.length) none := rfl
end
end DV
/-! printed by gen.py: the mirrors and the derivations of the defs of law k40 -/
namespace DV
open PySem PySem.Spec PyProof.Rows L2
noncomputable section
def topS (i : Nat) : Stmt := PySem.Challenge.pw_counterpane_k40_polynomials.main.body.getD i (.Pass ⟨0, 0, 0, 0⟩)
/-! common_divisor -/
abbrev s_common_divisor : Stmt := topS 5
theorem sc_common_divisor : FnScope ["first", "second"] ["first", "second"] (defScope s_common_divisor) := ⟨rfl, rfl, rfl, by decide +kernel, rfl, by decide +kernel, by decide +kernel⟩
def b_common_divisor : EvS :=
    (sSeq (sPar 0 1 (aCons (eCB gAbs (aCons (eVar 0) aNil)) (aCons (eCB gAbs (aCons (eVar 1) aNil)) aNil)))
    (sSeq (sWhile (fuI 1) (tBin (oBn cEq) (eVar 1) (eC (.int 0))) (sPar 0 1 (aCons (eVar 1) (aCons (eBin oMod (eVar 0) (eVar 1)) aNil))))
    (sRet (eVar 0))))
def T_common_divisor (ds : List D) (S : Sto) : Res D := runD 2 b_common_divisor ds S
set_option linter.unusedVariables false in
theorem ok_common_divisor {P : Program} {w : World} {K : PySem.W.Frag} {mg : Str → Option Value} {base : Heap} {f : Addr} {fd : FuncData} (F : Fun K "common_divisor" "common_divisor" s_common_divisor f fd) (m : mg "common_divisor" = some (.ref f)) (B : Bt mg)  : Cal P w K mg base "common_divisor" 1 ["first", "second"] T_common_divisor :=
  cal_mk F (F.binds (ps := ["first", "second"]) fun _ _ _ _ _ _ us hl => match us, hl with | [_, _], _ => rfl) m sc_common_divisor fun cdv A outer s H E hr tk hp =>
    (dss_cons (ds_par (i := 0) (j := 1) rfl sc_common_divisor.nd (da_cons (d_callB (c_abs) (by rfl) B.abs bt_abs (da_cons (dv 0) da_nil)) (da_cons (d_callB (c_abs) (by rfl) B.abs bt_abs (da_cons (dv 1) da_nil)) da_nil)))
    (dss_cons (ds_while (fuel := (fuI 1)) hp (dt_cmp (o_ne (un64 hr)) (dv 1) d_int (nomark _)) (dss_one (ds_par (i := 0) (j := 1) rfl sc_common_divisor.nd (da_cons (dv 1) (da_cons (d_bin o_mod (dv 0) (dv 1)) da_nil)))))
    (dss_one (ds_ret (dv 0)))))
/-! ratio -/
abbrev s_ratio : Stmt := topS 6
theorem sc_ratio : FnScope ["above", "below", "both"] ["above", "below"] (defScope s_ratio) := ⟨rfl, rfl, rfl, by decide +kernel, rfl, by decide +kernel, by decide +kernel⟩
def b_ratio : EvS :=
    (sSeq (sIf (tBin (oBl cLt) (eVar 1) (eC (.int 0))) (sPar 0 1 (aCons (eUn oNeg (eVar 0)) (aCons (eUn oNeg (eVar 1)) aNil))) sNil)
    (sSeq (sIf (tBin (oBn cEq) (eVar 1) (eC (.int 1))) (sSeq (sSet 2 (eCall 2 T_common_divisor (aCons (eVar 0) (aCons (eVar 1) aNil))))
    (sPar 0 1 (aCons (eBin oDiv (eVar 0) (eVar 2)) (aCons (eBin oDiv (eVar 1) (eVar 2)) aNil)))) sNil)
    (sRet (eTup (aCons (eVar 0) (aCons (eVar 1) aNil))))))
def T_ratio (ds : List D) (S : Sto) : Res D := runD 3 b_ratio ds S
set_option linter.unusedVariables false in
theorem ok_ratio {P : Program} {w : World} {K : PySem.W.Frag} {mg : Str → Option Value} {base : Heap} {f : Addr} {fd : FuncData} (F : Fun K "ratio" "ratio" s_ratio f fd) (m : mg "ratio" = some (.ref f)) (B : Bt mg) (G_common_divisor : Cal P w K mg base "common_divisor" 1 ["first", "second"] T_common_divisor) : Cal P w K mg base "ratio" 2 ["above", "below"] T_ratio :=
  cal_mk F (F.binds (ps := ["above", "below"]) fun _ _ _ _ _ _ us hl => match us, hl with | [_, _], _ => rfl) m sc_ratio fun cdv A outer s H E hr tk hp =>
    (dss_cons (ds_if (dt_cmp (o_lt (un0 hr)) (dv 1) d_int (nomark _)) (dss_one (ds_par (i := 0) (j := 1) rfl sc_ratio.nd (da_cons (d_un o_neg (dv 0)) (da_cons (d_un o_neg (dv 1)) da_nil)))) dss_nil)
    (dss_cons (ds_if (dt_cmp (o_ne (un64 hr)) (dv 1) d_int (nomark _)) (dss_cons (ds_set (i := 2) sc_ratio.nd (d_cal G_common_divisor hr (by decide) tk (by rfl) (da_cons (dv 0) (da_cons (dv 1) da_nil))))
    (dss_one (ds_par (i := 0) (j := 1) rfl sc_ratio.nd (da_cons (d_bin o_div (dv 0) (dv 2)) (da_cons (d_bin o_div (dv 1) (dv 2)) da_nil))))) dss_nil)
    (dss_one (ds_ret (d_tup (da_cons (dv 0) (da_cons (dv 1) da_nil)))))))
/-! plus -/
abbrev s_plus : Stmt := topS 7
theorem sc_plus : FnScope ["first", "second"] ["first", "second"] (defScope s_plus) := ⟨rfl, rfl, rfl, by decide +kernel, rfl, by decide +kernel, by decide +kernel⟩
def b_plus : EvS :=
    (sSeq (sIf (tCh (oBl cEq) (oBl cEq) (eIx (eVar 0) (eC (.int 1))) (eIx (eVar 1) (eC (.int 1))) (eC (.int 1))) (sRet (eTup (aCons (eBin oAdd (eIx (eVar 0) (eC (.int 0))) (eIx (eVar 1) (eC (.int 0)))) (aCons (eC (.int 1)) aNil)))) sNil)
    (sRet (eCall 2 T_ratio (aCons (eBin oAdd (eBin oMul (eIx (eVar 0) (eC (.int 0))) (eIx (eVar 1) (eC (.int 1)))) (eBin oMul (eIx (eVar 1) (eC (.int 0))) (eIx (eVar 0) (eC (.int 1))))) (aCons (eBin oMul (eIx (eVar 0) (eC (.int 1))) (eIx (eVar 1) (eC (.int 1)))) aNil)))))
def T_plus (ds : List D) (S : Sto) : Res D := runD 2 b_plus ds S
set_option linter.unusedVariables false in
theorem ok_plus {P : Program} {w : World} {K : PySem.W.Frag} {mg : Str → Option Value} {base : Heap} {f : Addr} {fd : FuncData} (F : Fun K "plus" "plus" s_plus f fd) (m : mg "plus" = some (.ref f)) (B : Bt mg) (G_ratio : Cal P w K mg base "ratio" 2 ["above", "below"] T_ratio) : Cal P w K mg base "plus" 3 ["first", "second"] T_plus :=
  cal_mk F (F.binds (ps := ["first", "second"]) fun _ _ _ _ _ _ us hl => match us, hl with | [_, _], _ => rfl) m sc_plus fun cdv A outer s H E hr tk hp =>
    (dss_cons (ds_if (dt_chain (o_eq (un64 hr)) (o_eq (un64 hr)) (d_ix (dv 0) d_int) (d_ix (dv 1) d_int) d_int) (dss_one (ds_ret (d_tup (da_cons (d_bin o_add (d_ix (dv 0) d_int) (d_ix (dv 1) d_int)) (da_cons d_int da_nil))))) dss_nil)
    (dss_one (ds_ret (d_cal G_ratio hr (by decide) tk (by rfl) (da_cons (d_bin o_add (d_bin o_mul (d_ix (dv 0) d_int) (d_ix (dv 1) d_int)) (d_bin o_mul (d_ix (dv 1) d_int) (d_ix (dv 0) d_int))) (da_cons (d_bin o_mul (d_ix (dv 0) d_int) (d_ix (dv 1) d_int)) da_nil))))))
/-! times -/
abbrev s_times : Stmt := topS 8
theorem sc_times : FnScope ["first", "second"] ["first", "second"] (defScope s_times) := ⟨rfl, rfl, rfl, by decide +kernel, rfl, by decide +kernel, by decide +kernel⟩
def b_times : EvS :=
    (sRet (eCall 2 T_ratio (aCons (eBin oMul (eIx (eVar 0) (eC (.int 0))) (eIx (eVar 1) (eC (.int 0)))) (aCons (eBin oMul (eIx (eVar 0) (eC (.int 1))) (eIx (eVar 1) (eC (.int 1)))) aNil))))
def T_times (ds : List D) (S : Sto) : Res D := runD 2 b_times ds S
set_option linter.unusedVariables false in
theorem ok_times {P : Program} {w : World} {K : PySem.W.Frag} {mg : Str → Option Value} {base : Heap} {f : Addr} {fd : FuncData} (F : Fun K "times" "times" s_times f fd) (m : mg "times" = some (.ref f)) (B : Bt mg) (G_ratio : Cal P w K mg base "ratio" 2 ["above", "below"] T_ratio) : Cal P w K mg base "times" 3 ["first", "second"] T_times :=
  cal_mk F (F.binds (ps := ["first", "second"]) fun _ _ _ _ _ _ us hl => match us, hl with | [_, _], _ => rfl) m sc_times fun cdv A outer s H E hr tk hp =>
    (dss_one (ds_ret (d_cal G_ratio hr (by decide) tk (by rfl) (da_cons (d_bin o_mul (d_ix (dv 0) d_int) (d_ix (dv 1) d_int)) (da_cons (d_bin o_mul (d_ix (dv 0) d_int) (d_ix (dv 1) d_int)) da_nil)))))
/-! is_integer -/
abbrev s_is_integer : Stmt := topS 9
theorem sc_is_integer : FnScope ["value"] ["value"] (defScope s_is_integer) := ⟨rfl, rfl, rfl, by decide +kernel, rfl, by decide +kernel, by decide +kernel⟩
def b_is_integer : EvS :=
    (sRet (eAnd (eIsi "int" (eVar 0)) (eNot (eIsi "bool" (eVar 0)))))
def T_is_integer (ds : List D) (S : Sto) : Res D := runD 1 b_is_integer ds S
set_option linter.unusedVariables false in
theorem ok_is_integer {P : Program} {w : World} {K : PySem.W.Frag} {mg : Str → Option Value} {base : Heap} {f : Addr} {fd : FuncData} (F : Fun K "is_integer" "is_integer" s_is_integer f fd) (m : mg "is_integer" = some (.ref f)) (B : Bt mg)  : Cal P w K mg base "is_integer" 1 ["value"] T_is_integer :=
  cal_mk F (F.binds (ps := ["value"]) fun _ _ _ _ _ _ us hl => match us, hl with | [_], _ => rfl) m sc_is_integer fun cdv A outer s H E hr tk hp =>
    (dss_one (ds_ret (d_and (d_isi (by rfl) B.isi (by rfl) B.int bt_int (dv 0)) (d_one (d_not (d_isi (by rfl) B.isi (by rfl) B.bool bt_bool (dv 0)))))))
/-! is_ratio -/
abbrev s_is_ratio : Stmt := topS 10
theorem sc_is_ratio : FnScope ["value"] ["value"] (defScope s_is_ratio) := ⟨rfl, rfl, rfl, by decide +kernel, rfl, by decide +kernel, by decide +kernel⟩
def b_is_ratio : EvS :=
    (sSeq (sIf (bOr (bNot (tTru (eIsi "tuple" (eVar 0)))) (bOr (tBin (oBn cEq) (eCB gLenD (aCons (eVar 0) aNil)) (eC (.int 2))) (bOr (bNot (tTru (eCall 1 T_is_integer (aCons (eIx (eVar 0) (eC (.int 0))) aNil)))) (bNot (tTru (eCall 1 T_is_integer (aCons (eIx (eVar 0) (eC (.int 1))) aNil))))))) (sRet (eC (.bl false))) sNil)
    (sRet (eAnd (eBin (oBl cGt) (eIx (eVar 0) (eC (.int 1))) (eC (.int 0))) (eBin (oBl cEq) (eCall 2 T_common_divisor (aCons (eIx (eVar 0) (eC (.int 0))) (aCons (eIx (eVar 0) (eC (.int 1))) aNil))) (eC (.int 1))))))
def T_is_ratio (ds : List D) (S : Sto) : Res D := runD 1 b_is_ratio ds S
set_option linter.unusedVariables false in
theorem ok_is_ratio {P : Program} {w : World} {K : PySem.W.Frag} {mg : Str → Option Value} {base : Heap} {f : Addr} {fd : FuncData} (F : Fun K "is_ratio" "is_ratio" s_is_ratio f fd) (m : mg "is_ratio" = some (.ref f)) (B : Bt mg) (G_is_integer : Cal P w K mg base "is_integer" 1 ["value"] T_is_integer) (G_common_divisor : Cal P w K mg base "common_divisor" 1 ["first", "second"] T_common_divisor) : Cal P w K mg base "is_ratio" 2 ["value"] T_is_ratio :=
  cal_mk F (F.binds (ps := ["value"]) fun _ _ _ _ _ _ us hl => match us, hl with | [_], _ => rfl) m sc_is_ratio fun cdv A outer s H E hr tk hp =>
    (dss_cons (ds_if (dt_w (dw_or (dt_not (dt_tru (d_isi (by rfl) B.isi (by rfl) B.tuple bt_tuple (dv 0)))) (dw_or (dt_cmp (o_ne (un64 hr)) (d_callB (c_len) (by rfl) B.len bt_len (da_cons (dv 0) da_nil)) d_int (nomark _)) (dw_or (dt_not (dt_tru (d_cal G_is_integer hr (by decide) tk (by rfl) (da_cons (d_ix (dv 0) d_int) da_nil)))) (dw_or1 (dt_not (dt_tru (d_cal G_is_integer hr (by decide) tk (by rfl) (da_cons (d_ix (dv 0) d_int) da_nil))))))))) (dss_one (ds_ret d_bl)) dss_nil)
    (dss_one (ds_ret (d_and (d_cmp (o_gt) (d_ix (dv 0) d_int) d_int (nomark _)) (d_one (d_cmp (o_eq (un64 hr)) (d_cal G_common_divisor hr (by decide) tk (by rfl) (da_cons (d_ix (dv 0) d_int) (da_cons (d_ix (dv 0) d_int) da_nil))) d_int (nomark _)))))))
/-! is_monomial -/
abbrev s_is_monomial : Stmt := topS 13
theorem sc_is_monomial : FnScope ["value", "n", "one"] ["value", "n"] (defScope s_is_monomial) := ⟨rfl, rfl, rfl, by decide +kernel, rfl, by decide +kernel, by decide +kernel⟩
def b_is_monomial : EvS :=
    (sRet (eAnd (eIsi "tuple" (eVar 0)) (eAnd (eBin (oBl cEq) (eCB gLenD (aCons (eVar 0) aNil)) (eVar 1)) (eOfL gAll (lComp [2] (iTup' (eVar 0)) (gN 2) tYes' (eAnd (eCall 1 T_is_integer (aCons (eVar 2) aNil)) (eBin (oBl cGe) (eVar 2) (eC (.int 0)))))))))
def T_is_monomial (ds : List D) (S : Sto) : Res D := runD 3 b_is_monomial ds S
set_option linter.unusedVariables false in
theorem ok_is_monomial {P : Program} {w : World} {K : PySem.W.Frag} {mg : Str → Option Value} {base : Heap} {f : Addr} {fd : FuncData} (F : Fun K "is_monomial" "is_monomial" s_is_monomial f fd) (m : mg "is_monomial" = some (.ref f)) (B : Bt mg) (G_is_integer : Cal P w K mg base "is_integer" 1 ["value"] T_is_integer) : Cal P w K mg base "is_monomial" 2 ["value", "n"] T_is_monomial :=
  cal_mk F (F.binds (ps := ["value", "n"]) fun _ _ _ _ _ _ us hl => match us, hl with | [_, _], _ => rfl) m sc_is_monomial fun cdv A outer s H E hr tk hp =>
    (dss_one (ds_ret (d_and (d_isi (by rfl) B.isi (by rfl) B.tuple bt_tuple (dv 0)) (d_and (d_cmp (o_eq (un64 hr)) (d_callB (c_len) (by rfl) B.len bt_len (da_cons (dv 0) da_nil)) (dv 1) (nomark _)) (d_one (d_callL (c_all rfl) (by rfl) B.all bt_all (dl_comp (own := [("one", 2)]) (vs := [2]) rfl sc_is_monomial.nd (di_tup (dv 0)) (blkOk_by (N := ["value", "n", "one"]) (sc := defScope s_is_monomial) (own := [("one", 2)]) (by decide +kernel)) (fun _ _ _ _ _ => (dg_name (i := 2) sc_is_monomial.nd)) (fun _ _ _ _ _ => dts_nil) (fun _ _ _ _ _ => (d_and (d_cal G_is_integer hr (by decide) tkB (by rfl) (da_cons (dv 2) da_nil)) (d_one (d_cmp (o_ge) (dv 2) d_int (nomark _))))))))))))
/-! is_polynomial -/
abbrev s_is_polynomial : Stmt := topS 14
theorem sc_is_polynomial : FnScope ["value", "n", "last", "one"] ["value", "n"] (defScope s_is_polynomial) := ⟨rfl, rfl, rfl, by decide +kernel, rfl, by decide +kernel, by decide +kernel⟩
def b_is_polynomial : EvS :=
    (sSeq (sIf (bNot (tTru (eIsi "tuple" (eVar 0)))) (sRet (eC (.bl false))) sNil)
    (sSeq (sSet 2 (eC .non))
    (sSeq (sFor (iTup' (eVar 0)) (gN 3) (sSeq (sIf (bOr (bNot (tTru (eIsi "tuple" (eVar 3)))) (bOr (tBin (oBn cEq) (eCB gLenD (aCons (eVar 3) aNil)) (eC (.int 2))) (bOr (bNot (tTru (eCall 2 T_is_monomial (aCons (eIx (eVar 3) (eC (.int 0))) (aCons (eVar 1) aNil))))) (bNot (tTru (eCall 1 T_is_ratio (aCons (eIx (eVar 3) (eC (.int 1))) aNil))))))) (sRet (eC (.bl false))) sNil)
    (sSeq (sIf (bOr (tBin (oBl cEq) (eIx (eIx (eVar 3) (eC (.int 1))) (eC (.int 0))) (eC (.int 0))) (bAnd (tBin (oBn cIsN) (eVar 2) (eC .non)) (tBin (oBl cLe) (eIx (eVar 3) (eC (.int 0))) (eVar 2)))) (sRet (eC (.bl false))) sNil)
    (sSet 2 (eIx (eVar 3) (eC (.int 0)))))))
    (sRet (eC (.bl true))))))
def T_is_polynomial (ds : List D) (S : Sto) : Res D := runD 4 b_is_polynomial ds S
set_option linter.unusedVariables false in
theorem ok_is_polynomial {P : Program} {w : World} {K : PySem.W.Frag} {mg : Str → Option Value} {base : Heap} {f : Addr} {fd : FuncData} (F : Fun K "is_polynomial" "is_polynomial" s_is_polynomial f fd) (m : mg "is_polynomial" = some (.ref f)) (B : Bt mg) (G_is_monomial : Cal P w K mg base "is_monomial" 2 ["value", "n"] T_is_monomial) (G_is_ratio : Cal P w K mg base "is_ratio" 2 ["value"] T_is_ratio) : Cal P w K mg base "is_polynomial" 3 ["value", "n"] T_is_polynomial :=
  cal_mk F (F.binds (ps := ["value", "n"]) fun _ _ _ _ _ _ us hl => match us, hl with | [_, _], _ => rfl) m sc_is_polynomial fun cdv A outer s H E hr tk hp =>
    (dss_cons (ds_if (dt_not (dt_tru (d_isi (by rfl) B.isi (by rfl) B.tuple bt_tuple (dv 0)))) (dss_one (ds_ret d_bl)) dss_nil)
    (dss_cons (ds_set (i := 2) sc_is_polynomial.nd d_non)
    (dss_cons (ds_for (vs := [3]) hp rfl (di_tup (dv 0)) (dg_name (i := 3) sc_is_polynomial.nd) (dss_cons (ds_if (dt_w (dw_or (dt_not (dt_tru (d_isi (by rfl) B.isi (by rfl) B.tuple bt_tuple (dv 3)))) (dw_or (dt_cmp (o_ne (un64 hr)) (d_callB (c_len) (by rfl) B.len bt_len (da_cons (dv 3) da_nil)) d_int (nomark _)) (dw_or (dt_not (dt_tru (d_cal G_is_monomial hr (by decide) tk (by rfl) (da_cons (d_ix (dv 3) d_int) (da_cons (dv 1) da_nil))))) (dw_or1 (dt_not (dt_tru (d_cal G_is_ratio hr (by decide) tk (by rfl) (da_cons (d_ix (dv 3) d_int) da_nil))))))))) (dss_one (ds_ret d_bl)) dss_nil)
    (dss_cons (ds_if (dt_w (dw_or (dt_cmp (o_eq (un64 hr)) (d_ix (d_ix (dv 3) d_int) d_int) d_int (nomark _)) (dw_or1 (dt_w (dw_and (dt_cmp (o_notN) (dv 2) d_non (nomark _)) (dw_and1 (dt_cmp (o_le (un0 hr)) (d_ix (dv 3) d_int) (dv 2) (nomark _)))))))) (dss_one (ds_ret d_bl)) dss_nil)
    (dss_one (ds_set (i := 2) sc_is_polynomial.nd (d_ix (dv 3) d_int))))))
    (dss_one (ds_ret d_bl)))))
/-! is_problem -/
abbrev s_is_problem : Stmt := topS 15
theorem sc_is_problem : FnScope ["value", "one"] ["value"] (defScope s_is_problem) := ⟨rfl, rfl, rfl, by decide +kernel, rfl, by decide +kernel, by decide +kernel⟩
def b_is_problem : EvS :=
    (sSeq (sIf (bOr (bNot (tTru (eIsi "tuple" (eVar 0)))) (bOr (tBin (oBn cEq) (eCB gLenD (aCons (eVar 0) aNil)) (eC (.int 2))) (bOr (bNot (tTru (eCall 1 T_is_integer (aCons (eIx (eVar 0) (eC (.int 0))) aNil)))) (tBin (oBl cLt) (eIx (eVar 0) (eC (.int 0))) (eC (.int 1)))))) (sRet (eC (.bl false))) sNil)
    (sRet (eAnd (eIsi "tuple" (eIx (eVar 0) (eC (.int 1)))) (eOfL gAll (lComp [1] (iTup' (eIx (eVar 0) (eC (.int 1)))) (gN 1) tYes' (eCall 2 T_is_polynomial (aCons (eVar 1) (aCons (eIx (eVar 0) (eC (.int 0))) aNil))))))))
def T_is_problem (ds : List D) (S : Sto) : Res D := runD 2 b_is_problem ds S
set_option linter.unusedVariables false in
theorem ok_is_problem {P : Program} {w : World} {K : PySem.W.Frag} {mg : Str → Option Value} {base : Heap} {f : Addr} {fd : FuncData} (F : Fun K "is_problem" "is_problem" s_is_problem f fd) (m : mg "is_problem" = some (.ref f)) (B : Bt mg) (G_is_integer : Cal P w K mg base "is_integer" 1 ["value"] T_is_integer) (G_is_polynomial : Cal P w K mg base "is_polynomial" 3 ["value", "n"] T_is_polynomial) : Cal P w K mg base "is_problem" 4 ["value"] T_is_problem :=
  cal_mk F (F.binds (ps := ["value"]) fun _ _ _ _ _ _ us hl => match us, hl with | [_], _ => rfl) m sc_is_problem fun cdv A outer s H E hr tk hp =>
    (dss_cons (ds_if (dt_w (dw_or (dt_not (dt_tru (d_isi (by rfl) B.isi (by rfl) B.tuple bt_tuple (dv 0)))) (dw_or (dt_cmp (o_ne (un64 hr)) (d_callB (c_len) (by rfl) B.len bt_len (da_cons (dv 0) da_nil)) d_int (nomark _)) (dw_or (dt_not (dt_tru (d_cal G_is_integer hr (by decide) tk (by rfl) (da_cons (d_ix (dv 0) d_int) da_nil)))) (dw_or1 (dt_cmp (o_lt (un0 hr)) (d_ix (dv 0) d_int) d_int (nomark _))))))) (dss_one (ds_ret d_bl)) dss_nil)
    (dss_one (ds_ret (d_and (d_isi (by rfl) B.isi (by rfl) B.tuple bt_tuple (d_ix (dv 0) d_int)) (d_one (d_callL (c_all rfl) (by rfl) B.all bt_all (dl_comp (own := [("one", 1)]) (vs := [1]) rfl sc_is_problem.nd (di_tup (d_ix (dv 0) d_int)) (blkOk_by (N := ["value", "one"]) (sc := defScope s_is_problem) (own := [("one", 1)]) (by decide +kernel)) (fun _ _ _ _ _ => (dg_name (i := 1) sc_is_problem.nd)) (fun _ _ _ _ _ => dts_nil) (fun _ _ _ _ _ => (d_cal G_is_polynomial hr (by decide) tkB (by rfl) (da_cons (dv 1) (da_cons (d_ix (dv 0) d_int) da_nil)))))))))))
/-! told -/
abbrev s_told : Stmt := topS 16
theorem sc_told : FnScope ["table", "monomial"] ["table"] (defScope s_told) := ⟨rfl, rfl, rfl, by decide +kernel, rfl, by decide +kernel, by decide +kernel⟩
def b_told : EvS :=
    (sRet (eOfL gTup (lComp [1] (iLst' (lCB gSortK (aCons (eVar 0) aNil))) (gN 1) (tBin (oBn cEq) (eIx (eGet (eVar 0) (eVar 1)) (eC (.int 0))) (eC (.int 0))) (eTup (aCons (eVar 1) (aCons (eGet (eVar 0) (eVar 1)) aNil))))))
def T_told (ds : List D) (S : Sto) : Res D := runD 2 b_told ds S
set_option linter.unusedVariables false in
theorem ok_told {P : Program} {w : World} {K : PySem.W.Frag} {mg : Str → Option Value} {base : Heap} {f : Addr} {fd : FuncData} (F : Fun K "told" "told" s_told f fd) (m : mg "told" = some (.ref f)) (B : Bt mg)  : Cal P w K mg base "told" 1 ["table"] T_told :=
  cal_mk F (F.binds (ps := ["table"]) fun _ _ _ _ _ _ us hl => match us, hl with | [_], _ => rfl) m sc_told fun cdv A outer s H E hr tk hp =>
    (dss_one (ds_ret (d_callLTy c_tup (by rfl) B.tuple bt_tuple (dl_comp (own := [("monomial", 1)]) (vs := [1]) rfl sc_told.nd (di_lst (dl_callB (c_sortK rfl (un64 hr)) (by rfl) B.sorted bt_sorted (da_cons (dv 0) da_nil))) (blkOk_by (N := ["table", "monomial"]) (sc := defScope s_told) (own := [("monomial", 1)]) (by decide +kernel)) (fun _ _ _ _ _ => (dg_name (i := 1) sc_told.nd)) (fun _ _ _ _ _ => (dts_one (dt_cmp (o_ne (un64 hr)) (d_ix (d_dget (un1 hr) (dv 0) (dv 1)) d_int) d_int (nomark _)))) (fun _ _ _ _ _ => (d_tup (da_cons (dv 1) (da_cons (d_dget (un1 hr) (dv 0) (dv 1)) da_nil))))))))
/-! joined -/
abbrev s_joined : Stmt := topS 17
theorem sc_joined : FnScope ["first", "second", "one", "two"] ["first", "second"] (defScope s_joined) := ⟨rfl, rfl, rfl, by decide +kernel, rfl, by decide +kernel, by decide +kernel⟩
def b_joined : EvS :=
    (sRet (eOfL gTup (lComp [2, 3] (iZip' (aCons (eVar 0) (aCons (eVar 1) aNil))) (gTup' 2 (gCons' (gN 2) (gCons' (gN 3) gNil'))) tYes' (eBin oAdd (eVar 2) (eVar 3)))))
def T_joined (ds : List D) (S : Sto) : Res D := runD 4 b_joined ds S
set_option linter.unusedVariables false in
theorem ok_joined {P : Program} {w : World} {K : PySem.W.Frag} {mg : Str → Option Value} {base : Heap} {f : Addr} {fd : FuncData} (F : Fun K "joined" "joined" s_joined f fd) (m : mg "joined" = some (.ref f)) (B : Bt mg)  : Cal P w K mg base "joined" 1 ["first", "second"] T_joined :=
  cal_mk F (F.binds (ps := ["first", "second"]) fun _ _ _ _ _ _ us hl => match us, hl with | [_, _], _ => rfl) m sc_joined fun cdv A outer s H E hr tk hp =>
    (dss_one (ds_ret (d_callLTy c_tup (by rfl) B.tuple bt_tuple (dl_comp (own := [("one", 2), ("two", 3)]) (vs := [2, 3]) rfl sc_joined.nd (di_zip (by rfl) B.zip (da_cons (dv 0) (da_cons (dv 1) da_nil))) (blkOk_by (N := ["first", "second", "one", "two"]) (sc := defScope s_joined) (own := [("one", 2), ("two", 3)]) (by decide +kernel)) (fun _ _ _ _ _ => (dg_tup (n := 2) rfl (dgs_cons (dg_name (i := 2) sc_joined.nd) (dgs_cons (dg_name (i := 3) sc_joined.nd) dgs_nil)))) (fun _ _ _ _ _ => dts_nil) (fun _ _ _ _ _ => (d_bin o_add (dv 2) (dv 3)))))))
/-! add_to -/
abbrev s_add_to : Stmt := topS 18
theorem sc_add_to : FnScope ["table", "p", "monomial", "factor", "other", "one", "key", "new"] ["table", "p", "monomial", "factor"] (defScope s_add_to) := ⟨rfl, rfl, rfl, by decide +kernel, rfl, by decide +kernel, by decide +kernel⟩
def b_add_to : EvS :=
    (sFor (iTup' (eVar 1)) (gTup' 2 (gCons' (gN 4) (gCons' (gN 5) gNil'))) (sSeq (sSet 6 (eCall 2 T_joined (aCons (eVar 4) (aCons (eVar 2) aNil))))
    (sSeq (sSet 7 (eCall 2 T_plus (aCons (eGet2' (eVar 0) (eVar 6) (eC (.cst (List.map D.int [0, 1])))) (aCons (eCall 2 T_times (aCons (eVar 5) (aCons (eVar 3) aNil))) aNil))))
    (sIf (tBin (oBn cEq) (eIx (eVar 7) (eC (.int 0))) (eC (.int 0))) (sPut' dPutD (eVar 0) (eVar 6) (eVar 7)) (sExpr (eMet "dict" gPopT (eVar 0) (aCons (eVar 6) (aCons (eC .non) aNil))))))))
def T_add_to (ds : List D) (S : Sto) : Res D := runD 8 b_add_to ds S
set_option linter.unusedVariables false in
theorem ok_add_to {P : Program} {w : World} {K : PySem.W.Frag} {mg : Str → Option Value} {base : Heap} {f : Addr} {fd : FuncData} (F : Fun K "add_to" "add_to" s_add_to f fd) (m : mg "add_to" = some (.ref f)) (B : Bt mg) {a_ZERO : Addr} (g_ZERO : mg "ZERO" = some (.ref a_ZERO)) (t_ZERO : KTup K a_ZERO (List.map V.int [0, 1])) (G_joined : Cal P w K mg base "joined" 1 ["first", "second"] T_joined) (G_plus : Cal P w K mg base "plus" 3 ["first", "second"] T_plus) (G_times : Cal P w K mg base "times" 3 ["first", "second"] T_times) : Cal P w K mg base "add_to" 4 ["table", "p", "monomial", "factor"] T_add_to :=
  cal_mk F (F.binds (ps := ["table", "p", "monomial", "factor"]) fun _ _ _ _ _ _ us hl => match us, hl with | [_, _, _, _], _ => rfl) m sc_add_to fun cdv A outer s H E hr tk hp =>
    (dss_one (ds_for (vs := [4, 5]) hp rfl (di_tup (dv 1)) (dg_tup (n := 2) rfl (dgs_cons (dg_name (i := 4) sc_add_to.nd) (dgs_cons (dg_name (i := 5) sc_add_to.nd) dgs_nil))) (dss_cons (ds_set (i := 6) sc_add_to.nd (d_cal G_joined hr (by decide) tk (by rfl) (da_cons (dv 4) (da_cons (dv 2) da_nil))))
    (dss_cons (ds_set (i := 7) sc_add_to.nd (d_cal G_plus hr (by decide) tk (by rfl) (da_cons (d_get2 (un1 hr) (dv 0) (dv 6) (d_gcst (by rfl) g_ZERO t_ZERO)) (da_cons (d_cal G_times hr (by decide) tk (by rfl) (da_cons (dv 5) (da_cons (dv 3) da_nil))) da_nil))))
    (dss_one (ds_if (dt_cmp (o_ne (un64 hr)) (d_ix (dv 7) d_int) d_int (nomark _)) (dss_one (ds_putD (un1 hr) (dv 0) (dv 6) (dv 7))) (dss_one (ds_expr (d_met PySem.F.plainAttrs_dict PySem.F.slot_dict_pop PySem.F.type_dict_pop (m_popT (un1 hr)) (dv 0) (da_cons (dv 6) (da_cons d_non da_nil)))))))))))
/-! added -/
abbrev s_added : Stmt := topS 19
theorem sc_added : FnScope ["p", "q", "table", "monomial", "one"] ["p", "q"] (defScope s_added) := ⟨rfl, rfl, rfl, by decide +kernel, rfl, by decide +kernel, by decide +kernel⟩
def b_added : EvS :=
    (sSeq (sSet 2 (eDictF (eVar 0)))
    (sSeq (sFor (iTup' (eVar 1)) (gTup' 2 (gCons' (gN 3) (gCons' (gN 4) gNil'))) (sPut' dPutD (eVar 2) (eVar 3) (eCall 2 T_plus (aCons (eGet2' (eVar 2) (eVar 3) (eC (.cst (List.map D.int [0, 1])))) (aCons (eVar 4) aNil)))))
    (sRet (eCall 1 T_told (aCons (eVar 2) aNil)))))
def T_added (ds : List D) (S : Sto) : Res D := runD 5 b_added ds S
set_option linter.unusedVariables false in
theorem ok_added {P : Program} {w : World} {K : PySem.W.Frag} {mg : Str → Option Value} {base : Heap} {f : Addr} {fd : FuncData} (F : Fun K "added" "added" s_added f fd) (m : mg "added" = some (.ref f)) (B : Bt mg) {a_ZERO : Addr} (g_ZERO : mg "ZERO" = some (.ref a_ZERO)) (t_ZERO : KTup K a_ZERO (List.map V.int [0, 1])) (G_plus : Cal P w K mg base "plus" 3 ["first", "second"] T_plus) (G_told : Cal P w K mg base "told" 1 ["table"] T_told) : Cal P w K mg base "added" 4 ["p", "q"] T_added :=
  cal_mk F (F.binds (ps := ["p", "q"]) fun _ _ _ _ _ _ us hl => match us, hl with | [_, _], _ => rfl) m sc_added fun cdv A outer s H E hr tk hp =>
    (dss_cons (ds_set (i := 2) sc_added.nd (d_dictF rfl (un64 hr) (by rfl) B.dict (dv 0)))
    (dss_cons (ds_for (vs := [3, 4]) hp rfl (di_tup (dv 1)) (dg_tup (n := 2) rfl (dgs_cons (dg_name (i := 3) sc_added.nd) (dgs_cons (dg_name (i := 4) sc_added.nd) dgs_nil))) (dss_one (ds_putD (un1 hr) (dv 2) (dv 3) (d_cal G_plus hr (by decide) tk (by rfl) (da_cons (d_get2 (un1 hr) (dv 2) (dv 3) (d_gcst (by rfl) g_ZERO t_ZERO)) (da_cons (dv 4) da_nil))))))
    (dss_one (ds_ret (d_cal G_told hr (by decide) tk (by rfl) (da_cons (dv 2) da_nil))))))
/-! scaled -/
abbrev s_scaled : Stmt := topS 20
theorem sc_scaled : FnScope ["p", "fraction", "monomial", "one"] ["p", "fraction"] (defScope s_scaled) := ⟨rfl, rfl, rfl, by decide +kernel, rfl, by decide +kernel, by decide +kernel⟩
def b_scaled : EvS :=
    (sRet (eIf (tBin (oBn cEq) (eIx (eVar 1) (eC (.int 0))) (eC (.int 0))) (eOfL gTup (lComp [2, 3] (iTup' (eVar 0)) (gTup' 2 (gCons' (gN 2) (gCons' (gN 3) gNil'))) tYes' (eTup (aCons (eVar 2) (aCons (eCall 2 T_times (aCons (eVar 3) (aCons (eVar 1) aNil))) aNil))))) (eTup aNil)))
def T_scaled (ds : List D) (S : Sto) : Res D := runD 4 b_scaled ds S
set_option linter.unusedVariables false in
theorem ok_scaled {P : Program} {w : World} {K : PySem.W.Frag} {mg : Str → Option Value} {base : Heap} {f : Addr} {fd : FuncData} (F : Fun K "scaled" "scaled" s_scaled f fd) (m : mg "scaled" = some (.ref f)) (B : Bt mg) (G_times : Cal P w K mg base "times" 3 ["first", "second"] T_times) : Cal P w K mg base "scaled" 4 ["p", "fraction"] T_scaled :=
  cal_mk F (F.binds (ps := ["p", "fraction"]) fun _ _ _ _ _ _ us hl => match us, hl with | [_, _], _ => rfl) m sc_scaled fun cdv A outer s H E hr tk hp =>
    (dss_one (ds_ret (d_if (dt_cmp (o_ne (un64 hr)) (d_ix (dv 1) d_int) d_int (nomark _)) (d_callLTy c_tup (by rfl) B.tuple bt_tuple (dl_comp (own := [("monomial", 2), ("one", 3)]) (vs := [2, 3]) rfl sc_scaled.nd (di_tup (dv 0)) (blkOk_by (N := ["p", "fraction", "monomial", "one"]) (sc := defScope s_scaled) (own := [("monomial", 2), ("one", 3)]) (by decide +kernel)) (fun _ _ _ _ _ => (dg_tup (n := 2) rfl (dgs_cons (dg_name (i := 2) sc_scaled.nd) (dgs_cons (dg_name (i := 3) sc_scaled.nd) dgs_nil)))) (fun _ _ _ _ _ => dts_nil) (fun _ _ _ _ _ => (d_tup (da_cons (dv 2) (da_cons (d_cal G_times hr (by decide) tkB (by rfl) (da_cons (dv 3) (da_cons (dv 1) da_nil))) da_nil)))))) (d_tup da_nil))))
/-! less -/
abbrev s_less : Stmt := topS 21
theorem sc_less : FnScope ["p", "q"] ["p", "q"] (defScope s_less) := ⟨rfl, rfl, rfl, by decide +kernel, rfl, by decide +kernel, by decide +kernel⟩
def b_less : EvS :=
    (sRet (eCall 2 T_added (aCons (eVar 0) (aCons (eCall 2 T_scaled (aCons (eVar 1) (aCons (eTup (aCons (eUn oNeg (eC (.int 1))) (aCons (eC (.int 1)) aNil))) aNil))) aNil))))
def T_less (ds : List D) (S : Sto) : Res D := runD 2 b_less ds S
set_option linter.unusedVariables false in
theorem ok_less {P : Program} {w : World} {K : PySem.W.Frag} {mg : Str → Option Value} {base : Heap} {f : Addr} {fd : FuncData} (F : Fun K "less" "less" s_less f fd) (m : mg "less" = some (.ref f)) (B : Bt mg) (G_added : Cal P w K mg base "added" 4 ["p", "q"] T_added) (G_scaled : Cal P w K mg base "scaled" 4 ["p", "fraction"] T_scaled) : Cal P w K mg base "less" 5 ["p", "q"] T_less :=
  cal_mk F (F.binds (ps := ["p", "q"]) fun _ _ _ _ _ _ us hl => match us, hl with | [_, _], _ => rfl) m sc_less fun cdv A outer s H E hr tk hp =>
    (dss_one (ds_ret (d_cal G_added hr (by decide) tk (by rfl) (da_cons (dv 0) (da_cons (d_cal G_scaled hr (by decide) tk (by rfl) (da_cons (dv 1) (da_cons (d_tup (da_cons (d_un o_neg d_int) (da_cons d_int da_nil))) da_nil))) da_nil)))))
/-! multiplied -/
abbrev s_multiplied : Stmt := topS 22
theorem sc_multiplied : FnScope ["p", "q", "table", "monomial", "one"] ["p", "q"] (defScope s_multiplied) := ⟨rfl, rfl, rfl, by decide +kernel, rfl, by decide +kernel, by decide +kernel⟩
def b_multiplied : EvS :=
    (sSeq (sSet 2 eNewT)
    (sSeq (sFor (iTup' (eVar 1)) (gTup' 2 (gCons' (gN 3) (gCons' (gN 4) gNil'))) (sExpr (eCall 4 T_add_to (aCons (eVar 2) (aCons (eVar 0) (aCons (eVar 3) (aCons (eVar 4) aNil)))))))
    (sRet (eCall 1 T_told (aCons (eVar 2) aNil)))))
def T_multiplied (ds : List D) (S : Sto) : Res D := runD 5 b_multiplied ds S
set_option linter.unusedVariables false in
theorem ok_multiplied {P : Program} {w : World} {K : PySem.W.Frag} {mg : Str → Option Value} {base : Heap} {f : Addr} {fd : FuncData} (F : Fun K "multiplied" "multiplied" s_multiplied f fd) (m : mg "multiplied" = some (.ref f)) (B : Bt mg) (G_add_to : Cal P w K mg base "add_to" 4 ["table", "p", "monomial", "factor"] T_add_to) (G_told : Cal P w K mg base "told" 1 ["table"] T_told) : Cal P w K mg base "multiplied" 5 ["p", "q"] T_multiplied :=
  cal_mk F (F.binds (ps := ["p", "q"]) fun _ _ _ _ _ _ us hl => match us, hl with | [_, _], _ => rfl) m sc_multiplied fun cdv A outer s H E hr tk hp =>
    (dss_cons (ds_set (i := 2) sc_multiplied.nd d_newT)
    (dss_cons (ds_for (vs := [3, 4]) hp rfl (di_tup (dv 1)) (dg_tup (n := 2) rfl (dgs_cons (dg_name (i := 3) sc_multiplied.nd) (dgs_cons (dg_name (i := 4) sc_multiplied.nd) dgs_nil))) (dss_one (ds_expr (d_cal G_add_to hr (by decide) tk (by rfl) (da_cons (dv 2) (da_cons (dv 0) (da_cons (dv 3) (da_cons (dv 4) da_nil))))))))
    (dss_one (ds_ret (d_cal G_told hr (by decide) tk (by rfl) (da_cons (dv 2) da_nil))))))
/-! raised -/
abbrev s_raised : Stmt := topS 23
theorem sc_raised : FnScope ["p", "k", "found", "turn"] ["p", "k"] (defScope s_raised) := ⟨rfl, rfl, rfl, by decide +kernel, rfl, by decide +kernel, by decide +kernel⟩
def b_raised : EvS :=
    (sSeq (sSet 2 (eVar 0))
    (sSeq (sFor (iRng1' (aCons (eBin oSub (eVar 1) (eC (.int 1))) aNil)) (gN 3) (sSeq (sSet 2 (eCall 2 T_multiplied (aCons (eVar 2) (aCons (eVar 0) aNil))))
    (sIf (tBin (oBl cGt) (eCB gLenD (aCons (eVar 2) aNil)) (eC (.int 4000))) sNever sNil)))
    (sRet (eVar 2))))
def T_raised (ds : List D) (S : Sto) : Res D := runD 4 b_raised ds S
set_option linter.unusedVariables false in
theorem ok_raised {P : Program} {w : World} {K : PySem.W.Frag} {mg : Str → Option Value} {base : Heap} {f : Addr} {fd : FuncData} (F : Fun K "raised" "raised" s_raised f fd) (m : mg "raised" = some (.ref f)) (B : Bt mg) {k_MOST_TERMS : Tok} (g_MOST_TERMS : mg "MOST_TERMS" = some (.int 4000 k_MOST_TERMS)) (G_multiplied : Cal P w K mg base "multiplied" 5 ["p", "q"] T_multiplied) : Cal P w K mg base "raised" 6 ["p", "k"] T_raised :=
  cal_mk F (F.binds (ps := ["p", "k"]) fun _ _ _ _ _ _ us hl => match us, hl with | [_, _], _ => rfl) m sc_raised fun cdv A outer s H E hr tk hp =>
    (dss_cons (ds_set (i := 2) sc_raised.nd (dv 0))
    (dss_cons (ds_for (vs := [3]) hp rfl (di_rng1 (by rfl) B.range (da_cons (d_bin o_sub (dv 1) d_int) da_nil)) (dg_name (i := 3) sc_raised.nd) (dss_cons (ds_set (i := 2) sc_raised.nd (d_cal G_multiplied hr (by decide) tk (by rfl) (da_cons (dv 2) (da_cons (dv 0) da_nil))))
    (dss_one (ds_if (dt_cmp (o_gt) (d_callB (c_len) (by rfl) B.len bt_len (da_cons (dv 2) da_nil)) (d_gint (by rfl) g_MOST_TERMS) (nomark _)) (dss_one ds_never) dss_nil))))
    (dss_one (ds_ret (dv 2)))))
/-! degree -/
abbrev s_degree : Stmt := topS 24
theorem sc_degree : FnScope ["p", "monomial", "one"] ["p"] (defScope s_degree) := ⟨rfl, rfl, rfl, by decide +kernel, rfl, by decide +kernel, by decide +kernel⟩
def b_degree : EvS :=
    (sRet (eOfL gMax (lCat (lDisp (aCons (eUn oNeg (eC (.int 1))) aNil)) (lComp [1, 2] (iTup' (eVar 0)) (gTup' 2 (gCons' (gN 1) (gCons' (gN 2) gNil'))) tYes' (eCB gSumD (aCons (eVar 1) aNil))))))
def T_degree (ds : List D) (S : Sto) : Res D := runD 3 b_degree ds S
set_option linter.unusedVariables false in
theorem ok_degree {P : Program} {w : World} {K : PySem.W.Frag} {mg : Str → Option Value} {base : Heap} {f : Addr} {fd : FuncData} (F : Fun K "degree" "degree" s_degree f fd) (m : mg "degree" = some (.ref f)) (B : Bt mg)  : Cal P w K mg base "degree" 1 ["p"] T_degree :=
  cal_mk F (F.binds (ps := ["p"]) fun _ _ _ _ _ _ us hl => match us, hl with | [_], _ => rfl) m sc_degree fun cdv A outer s H E hr tk hp =>
    (dss_one (ds_ret (d_callL (c_maxL rfl) (by rfl) B.max bt_max (dl_cat (dl_disp (da_cons (d_un o_neg d_int) da_nil)) (dl_comp (own := [("monomial", 1), ("one", 2)]) (vs := [1, 2]) rfl sc_degree.nd (di_tup (dv 0)) (blkOk_by (N := ["p", "monomial", "one"]) (sc := defScope s_degree) (own := [("monomial", 1), ("one", 2)]) (by decide +kernel)) (fun _ _ _ _ _ => (dg_tup (n := 2) rfl (dgs_cons (dg_name (i := 1) sc_degree.nd) (dgs_cons (dg_name (i := 2) sc_degree.nd) dgs_nil)))) (fun _ _ _ _ _ => dts_nil) (fun _ _ _ _ _ => (d_callB (c_sum rfl) (by rfl) B.sum bt_sum (da_cons (dv 1) da_nil))))))))
/-! _law_fill -/
abbrev s__law_fill : Stmt := topS 27
theorem sc__law_fill : FnScope ["c", "number"] ["c"] (defScope s__law_fill) := ⟨rfl, rfl, rfl, by decide +kernel, rfl, by decide +kernel, by decide +kernel⟩
def b__law_fill : EvS :=
    (sSeq (sPut' setLD (eVar 0) (eC (.int 3)) (eBin oAdd (eIx (eVar 0) (eC (.int 3))) (eC (.int 1))))
    (sSeq (sSet 1 (eBin oAdd (eBin oMul (eIx (eVar 0) (eC (.int 3))) (eC (.int 69621))) (eC (.int 12345))))
    (sSeq (sIf (tBin (oBl cLt) (eIx (eVar 0) (eC (.int 1))) (eCB gLenD (aCons (eIx (eVar 0) (eC (.int 0))) aNil))) (sSeq (sSet 1 (eCB gMax2 (aCons (eIx (eIx (eVar 0) (eC (.int 0))) (eIx (eVar 0) (eC (.int 1)))) (aCons (eBin oSub (eBin oSub (eC (.int 0)) (eC (.int 1))) (eIx (eIx (eVar 0) (eC (.int 0))) (eIx (eVar 0) (eC (.int 1))))) aNil))))
    (sSeq (sPut' setLD (eVar 0) (eC (.int 1)) (eBin oAdd (eIx (eVar 0) (eC (.int 1))) (eC (.int 1))))
    (sIf (tBin (oBl cGe) (eVar 1) (eBin oPow (eC (.int 10)) (eC (.int 18)))) (sRet (eVar 1)) sNil))) sNil)
    (sSeq (sIf (bAnd (tTru (eIx (eVar 0) (eC (.int 0)))) (tBin (oBl cGe) (eIx (eVar 0) (eC (.int 1))) (eCB gLenD (aCons (eIx (eVar 0) (eC (.int 0))) aNil)))) (sSet 1 (eBin oAdd (eVar 1) (eBin oMod (eCB gInt (aCons (eIx (eIx (eVar 0) (eC (.int 0))) (eUn oNeg (eC (.int 1)))) aNil)) (eC (.int 1000003))))) sNil)
    (sSeq (sSet 1 (eBin oMod (eCB gInt (aCons (eBin oAdd (eBin oMul (eVar 1) (eC (.int 48271))) (eBin oMul (eIx (eVar 0) (eC (.int 3))) (eC (.int 69621)))) aNil)) (eC (.int 2147483647))))
    (sRet (eBin oAdd (eBin oDiv (eCB gInt (aCons (eBin oAdd (eBin oAdd (eBin oMul (eVar 1) (eVar 1)) (eBin oMul (eIx (eVar 0) (eC (.int 3))) (eC (.int 7919)))) (eC (.int 11))) aNil)) (eC (.int 64))) (eC (.int 36028797018963968)))))))))
def T__law_fill (ds : List D) (S : Sto) : Res D := runD 2 b__law_fill ds S
set_option linter.unusedVariables false in
theorem ok__law_fill {P : Program} {w : World} {K : PySem.W.Frag} {mg : Str → Option Value} {base : Heap} {f : Addr} {fd : FuncData} (F : Fun K "_law_fill" "_law_fill" s__law_fill f fd) (m : mg "_law_fill" = some (.ref f)) (B : Bt mg)  : Cal P w K mg base "_law_fill" 1 ["c"] T__law_fill :=
  cal_mk F (F.binds (ps := ["c"]) fun _ _ _ _ _ _ us hl => match us, hl with | [_], _ => rfl) m sc__law_fill fun cdv A outer s H E hr tk hp =>
    (dss_cons (ds_putL (dv 0) d_int (d_bin o_add (d_ix (dv 0) d_int) d_int))
    (dss_cons (ds_set (i := 1) sc__law_fill.nd (d_bin o_add (d_bin o_mul (d_ix (dv 0) d_int) d_int) d_int))
    (dss_cons (ds_if (dt_cmp (o_lt (un0 hr)) (d_ix (dv 0) d_int) (d_callB (c_len) (by rfl) B.len bt_len (da_cons (d_ix (dv 0) d_int) da_nil)) (nomark _)) (dss_cons (ds_set (i := 1) sc__law_fill.nd (d_callB (c_max2 rfl) (by rfl) B.max bt_max (da_cons (d_ix (d_ix (dv 0) d_int) (d_ix (dv 0) d_int)) (da_cons (d_bin o_sub (d_bin o_sub d_int d_int) (d_ix (d_ix (dv 0) d_int) (d_ix (dv 0) d_int))) da_nil))))
    (dss_cons (ds_putL (dv 0) d_int (d_bin o_add (d_ix (dv 0) d_int) d_int))
    (dss_one (ds_if (dt_cmp (o_ge) (dv 1) (d_bin o_pow d_int d_int) (nomark _)) (dss_one (ds_ret (dv 1))) dss_nil)))) dss_nil)
    (dss_cons (ds_if (dt_w (dw_and (dt_tru (d_ix (dv 0) d_int)) (dw_and1 (dt_cmp (o_ge) (d_ix (dv 0) d_int) (d_callB (c_len) (by rfl) B.len bt_len (da_cons (d_ix (dv 0) d_int) da_nil)) (nomark _))))) (dss_one (ds_set (i := 1) sc__law_fill.nd (d_bin o_add (dv 1) (d_bin o_mod (d_callTy c_int (by rfl) B.int bt_int (da_cons (d_ix (d_ix (dv 0) d_int) (d_un o_neg d_int)) da_nil)) d_int)))) dss_nil)
    (dss_cons (ds_set (i := 1) sc__law_fill.nd (d_bin o_mod (d_callTy c_int (by rfl) B.int bt_int (da_cons (d_bin o_add (d_bin o_mul (dv 1) d_int) (d_bin o_mul (d_ix (dv 0) d_int) d_int)) da_nil)) d_int))
    (dss_one (ds_ret (d_bin o_add (d_bin o_div (d_callTy c_int (by rfl) B.int bt_int (da_cons (d_bin o_add (d_bin o_add (d_bin o_mul (dv 1) (dv 1)) (d_bin o_mul (d_ix (dv 0) d_int) d_int)) d_int) da_nil)) d_int) d_int))))))))
/-! _law_take -/
abbrev s__law_take : Stmt := topS 28
theorem sc__law_take : FnScope ["c", "many", "digit"] ["c", "many"] (defScope s__law_take) := ⟨rfl, rfl, rfl, by decide +kernel, rfl, by decide +kernel, by decide +kernel⟩
def b__law_take : EvS :=
    (sSeq (sIf (tBin (oBl cLt) (eIx (eVar 0) (eC (.int 2))) (eVar 1)) (sPut' setLD (eVar 0) (eC (.int 2)) (eCall 1 T__law_fill (aCons (eVar 0) aNil))) sNil)
    (sSeq (sSet 2 (eBin oMod (eCB gInt (aCons (eIx (eVar 0) (eC (.int 2))) aNil)) (eVar 1)))
    (sSeq (sPut' setLD (eVar 0) (eC (.int 2)) (eBin oDiv (eIx (eVar 0) (eC (.int 2))) (eVar 1)))
    (sRet (eVar 2)))))
def T__law_take (ds : List D) (S : Sto) : Res D := runD 3 b__law_take ds S
set_option linter.unusedVariables false in
theorem ok__law_take {P : Program} {w : World} {K : PySem.W.Frag} {mg : Str → Option Value} {base : Heap} {f : Addr} {fd : FuncData} (F : Fun K "_law_take" "_law_take" s__law_take f fd) (m : mg "_law_take" = some (.ref f)) (B : Bt mg) (G__law_fill : Cal P w K mg base "_law_fill" 1 ["c"] T__law_fill) : Cal P w K mg base "_law_take" 2 ["c", "many"] T__law_take :=
  cal_mk F (F.binds (ps := ["c", "many"]) fun _ _ _ _ _ _ us hl => match us, hl with | [_, _], _ => rfl) m sc__law_take fun cdv A outer s H E hr tk hp =>
    (dss_cons (ds_if (dt_cmp (o_lt (un0 hr)) (d_ix (dv 0) d_int) (dv 1) (nomark _)) (dss_one (ds_putL (dv 0) d_int (d_cal G__law_fill hr (by decide) tk (by rfl) (da_cons (dv 0) da_nil)))) dss_nil)
    (dss_cons (ds_set (i := 2) sc__law_take.nd (d_bin o_mod (d_callTy c_int (by rfl) B.int bt_int (da_cons (d_ix (dv 0) d_int) da_nil)) (dv 1)))
    (dss_cons (ds_putL (dv 0) d_int (d_bin o_div (d_ix (dv 0) d_int) (dv 1)))
    (dss_one (ds_ret (dv 2))))))
/-! _law_divisor -/
abbrev s__law_divisor : Stmt := topS 30
theorem sc__law_divisor : FnScope ["a", "b", "turn"] ["a", "b"] (defScope s__law_divisor) := ⟨rfl, rfl, rfl, by decide +kernel, rfl, by decide +kernel, by decide +kernel⟩
def b__law_divisor : EvS :=
    (sSeq (sFor (iRng1' (aCons (eC (.int 4000)) aNil)) (gN 2) (sSeq (sIf (tBin (oBl cEq) (eVar 1) (eC (.int 0))) (sRet (eCB gAbs (aCons (eVar 0) aNil))) sNil)
    (sPar 0 1 (aCons (eVar 1) (aCons (eBin oMod (eVar 0) (eVar 1)) aNil)))))
    (sRet (eC (.int 1))))
def T__law_divisor (ds : List D) (S : Sto) : Res D := runD 3 b__law_divisor ds S
set_option linter.unusedVariables false in
theorem ok__law_divisor {P : Program} {w : World} {K : PySem.W.Frag} {mg : Str → Option Value} {base : Heap} {f : Addr} {fd : FuncData} (F : Fun K "_law_divisor" "_law_divisor" s__law_divisor f fd) (m : mg "_law_divisor" = some (.ref f)) (B : Bt mg)  : Cal P w K mg base "_law_divisor" 1 ["a", "b"] T__law_divisor :=
  cal_mk F (F.binds (ps := ["a", "b"]) fun _ _ _ _ _ _ us hl => match us, hl with | [_, _], _ => rfl) m sc__law_divisor fun cdv A outer s H E hr tk hp =>
    (dss_cons (ds_for (vs := [2]) hp rfl (di_rng1 (by rfl) B.range (da_cons d_int da_nil)) (dg_name (i := 2) sc__law_divisor.nd) (dss_cons (ds_if (dt_cmp (o_eq (un64 hr)) (dv 1) d_int (nomark _)) (dss_one (ds_ret (d_callB (c_abs) (by rfl) B.abs bt_abs (da_cons (dv 0) da_nil)))) dss_nil)
    (dss_one (ds_par (i := 0) (j := 1) rfl sc__law_divisor.nd (da_cons (dv 1) (da_cons (d_bin o_mod (dv 0) (dv 1)) da_nil))))))
    (dss_one (ds_ret d_int)))
/-! _law_ratio -/
abbrev s__law_ratio : Stmt := topS 31
theorem sc__law_ratio : FnScope ["above", "below", "both"] ["above", "below"] (defScope s__law_ratio) := ⟨rfl, rfl, rfl, by decide +kernel, rfl, by decide +kernel, by decide +kernel⟩
def b__law_ratio : EvS :=
    (sSeq (sSet 2 (eCall 2 T__law_divisor (aCons (eVar 0) (aCons (eVar 1) aNil))))
    (sSeq (sSet 2 (eIf (tBin (oBl cGt) (eVar 1) (eC (.int 0))) (eVar 2) (eBin oSub (eC (.int 0)) (eVar 2))))
    (sRet (eTup (aCons (eBin oDiv (eVar 0) (eVar 2)) (aCons (eBin oDiv (eVar 1) (eVar 2)) aNil))))))
def T__law_ratio (ds : List D) (S : Sto) : Res D := runD 3 b__law_ratio ds S
set_option linter.unusedVariables false in
theorem ok__law_ratio {P : Program} {w : World} {K : PySem.W.Frag} {mg : Str → Option Value} {base : Heap} {f : Addr} {fd : FuncData} (F : Fun K "_law_ratio" "_law_ratio" s__law_ratio f fd) (m : mg "_law_ratio" = some (.ref f)) (B : Bt mg) (G__law_divisor : Cal P w K mg base "_law_divisor" 1 ["a", "b"] T__law_divisor) : Cal P w K mg base "_law_ratio" 2 ["above", "below"] T__law_ratio :=
  cal_mk F (F.binds (ps := ["above", "below"]) fun _ _ _ _ _ _ us hl => match us, hl with | [_, _], _ => rfl) m sc__law_ratio fun cdv A outer s H E hr tk hp =>
    (dss_cons (ds_set (i := 2) sc__law_ratio.nd (d_cal G__law_divisor hr (by decide) tk (by rfl) (da_cons (dv 0) (da_cons (dv 1) da_nil))))
    (dss_cons (ds_set (i := 2) sc__law_ratio.nd (d_if (dt_cmp (o_gt) (dv 1) d_int (nomark _)) (dv 2) (d_bin o_sub d_int (dv 2))))
    (dss_one (ds_ret (d_tup (da_cons (d_bin o_div (dv 0) (dv 2)) (da_cons (d_bin o_div (dv 1) (dv 2)) da_nil)))))))
/-! _law_plus -/
abbrev s__law_plus : Stmt := topS 32
theorem sc__law_plus : FnScope ["a", "b"] ["a", "b"] (defScope s__law_plus) := ⟨rfl, rfl, rfl, by decide +kernel, rfl, by decide +kernel, by decide +kernel⟩
def b__law_plus : EvS :=
    (sRet (eCall 2 T__law_ratio (aCons (eBin oAdd (eBin oMul (eIx (eVar 0) (eC (.int 0))) (eIx (eVar 1) (eC (.int 1)))) (eBin oMul (eIx (eVar 1) (eC (.int 0))) (eIx (eVar 0) (eC (.int 1))))) (aCons (eBin oMul (eIx (eVar 0) (eC (.int 1))) (eIx (eVar 1) (eC (.int 1)))) aNil))))
def T__law_plus (ds : List D) (S : Sto) : Res D := runD 2 b__law_plus ds S
set_option linter.unusedVariables false in
theorem ok__law_plus {P : Program} {w : World} {K : PySem.W.Frag} {mg : Str → Option Value} {base : Heap} {f : Addr} {fd : FuncData} (F : Fun K "_law_plus" "_law_plus" s__law_plus f fd) (m : mg "_law_plus" = some (.ref f)) (B : Bt mg) (G__law_ratio : Cal P w K mg base "_law_ratio" 2 ["above", "below"] T__law_ratio) : Cal P w K mg base "_law_plus" 3 ["a", "b"] T__law_plus :=
  cal_mk F (F.binds (ps := ["a", "b"]) fun _ _ _ _ _ _ us hl => match us, hl with | [_, _], _ => rfl) m sc__law_plus fun cdv A outer s H E hr tk hp =>
    (dss_one (ds_ret (d_cal G__law_ratio hr (by decide) tk (by rfl) (da_cons (d_bin o_add (d_bin o_mul (d_ix (dv 0) d_int) (d_ix (dv 1) d_int)) (d_bin o_mul (d_ix (dv 1) d_int) (d_ix (dv 0) d_int))) (da_cons (d_bin o_mul (d_ix (dv 0) d_int) (d_ix (dv 1) d_int)) da_nil)))))
/-! _law_times -/
abbrev s__law_times : Stmt := topS 33
theorem sc__law_times : FnScope ["a", "b"] ["a", "b"] (defScope s__law_times) := ⟨rfl, rfl, rfl, by decide +kernel, rfl, by decide +kernel, by decide +kernel⟩
def b__law_times : EvS :=
    (sRet (eCall 2 T__law_ratio (aCons (eBin oMul (eIx (eVar 0) (eC (.int 0))) (eIx (eVar 1) (eC (.int 0)))) (aCons (eBin oMul (eIx (eVar 0) (eC (.int 1))) (eIx (eVar 1) (eC (.int 1)))) aNil))))
def T__law_times (ds : List D) (S : Sto) : Res D := runD 2 b__law_times ds S
set_option linter.unusedVariables false in
theorem ok__law_times {P : Program} {w : World} {K : PySem.W.Frag} {mg : Str → Option Value} {base : Heap} {f : Addr} {fd : FuncData} (F : Fun K "_law_times" "_law_times" s__law_times f fd) (m : mg "_law_times" = some (.ref f)) (B : Bt mg) (G__law_ratio : Cal P w K mg base "_law_ratio" 2 ["above", "below"] T__law_ratio) : Cal P w K mg base "_law_times" 3 ["a", "b"] T__law_times :=
  cal_mk F (F.binds (ps := ["a", "b"]) fun _ _ _ _ _ _ us hl => match us, hl with | [_, _], _ => rfl) m sc__law_times fun cdv A outer s H E hr tk hp =>
    (dss_one (ds_ret (d_cal G__law_ratio hr (by decide) tk (by rfl) (da_cons (d_bin o_mul (d_ix (dv 0) d_int) (d_ix (dv 1) d_int)) (da_cons (d_bin o_mul (d_ix (dv 0) d_int) (d_ix (dv 1) d_int)) da_nil)))))
/-! _law_told -/
abbrev s__law_told : Stmt := topS 34
theorem sc__law_told : FnScope ["table", "key"] ["table"] (defScope s__law_told) := ⟨rfl, rfl, rfl, by decide +kernel, rfl, by decide +kernel, by decide +kernel⟩
def b__law_told : EvS :=
    (sRet (eOfL gFup (lOfL sortD (lLock 0 (lComp [1] (iKeys' (eVar 0)) (gN 1) (tBin (oBn cEq) (eIx (eGet (eVar 0) (eVar 1)) (eC (.int 0))) (eC (.int 0))) (eTup (aCons (eVar 1) (aCons (eGet (eVar 0) (eVar 1)) aNil))))))))
def T__law_told (ds : List D) (S : Sto) : Res D := runD 2 b__law_told ds S
set_option linter.unusedVariables false in
theorem ok__law_told {P : Program} {w : World} {K : PySem.W.Frag} {mg : Str → Option Value} {base : Heap} {f : Addr} {fd : FuncData} (F : Fun K "_law_told" "_law_told" s__law_told f fd) (m : mg "_law_told" = some (.ref f)) (B : Bt mg)  : Cal P w K mg base "_law_told" 1 ["table"] T__law_told :=
  cal_mk F (F.binds (ps := ["table"]) fun _ _ _ _ _ _ us hl => match us, hl with | [_], _ => rfl) m sc__law_told fun cdv A outer s H E hr tk hp =>
    (dss_one (ds_ret (d_callLTy c_fup (by rfl) B.tuple bt_tuple (dl_callL (c_sortL (un64 hr)) (by rfl) B.sorted bt_sorted (dl_lock (i := 0) (dl_comp (own := [("key", 1)]) (vs := [1]) rfl sc__law_told.nd (di_keys (dv 0)) (blkOk_by (N := ["table", "key"]) (sc := defScope s__law_told) (own := [("key", 1)]) (by decide +kernel)) (fun _ _ _ _ _ => (dg_name (i := 1) sc__law_told.nd)) (fun _ _ _ _ _ => (dts_one (dt_cmp (o_ne (un64 hr)) (d_ix (d_dget (un1 hr) (dv 0) (dv 1)) d_int) d_int (nomark _)))) (fun _ _ _ _ _ => (d_tup (da_cons (dv 1) (da_cons (d_dget (un1 hr) (dv 0) (dv 1)) da_nil))))))))))
/-! _law_sum -/
abbrev s__law_sum : Stmt := topS 35
theorem sc__law_sum : FnScope ["p", "q", "factor", "table", "key", "one"] ["p", "q", "factor"] (defScope s__law_sum) := ⟨rfl, rfl, rfl, by decide +kernel, rfl, by decide +kernel, by decide +kernel⟩
def b__law_sum : EvS :=
    (sSeq (sSet 3 eNewT)
    (sSeq (sFor (iTup' (eVar 0)) (gTup' 2 (gCons' (gN 4) (gCons' (gN 5) gNil'))) (sPut' dPutD (eVar 3) (eVar 4) (eVar 5)))
    (sSeq (sFor (iTup' (eVar 1)) (gTup' 2 (gCons' (gN 4) (gCons' (gN 5) gNil'))) (sPut' dPutD (eVar 3) (eVar 4) (eCall 2 T__law_plus (aCons (eGet2' (eVar 3) (eVar 4) (eTup (aCons (eC (.int 0)) (aCons (eC (.int 1)) aNil)))) (aCons (eCall 2 T__law_times (aCons (eVar 5) (aCons (eVar 2) aNil))) aNil)))))
    (sRet (eCall 1 T__law_told (aCons (eVar 3) aNil))))))
def T__law_sum (ds : List D) (S : Sto) : Res D := runD 6 b__law_sum ds S
set_option linter.unusedVariables false in
theorem ok__law_sum {P : Program} {w : World} {K : PySem.W.Frag} {mg : Str → Option Value} {base : Heap} {f : Addr} {fd : FuncData} (F : Fun K "_law_sum" "_law_sum" s__law_sum f fd) (m : mg "_law_sum" = some (.ref f)) (B : Bt mg) (G__law_plus : Cal P w K mg base "_law_plus" 3 ["a", "b"] T__law_plus) (G__law_times : Cal P w K mg base "_law_times" 3 ["a", "b"] T__law_times) (G__law_told : Cal P w K mg base "_law_told" 1 ["table"] T__law_told) : Cal P w K mg base "_law_sum" 4 ["p", "q", "factor"] T__law_sum :=
  cal_mk F (F.binds (ps := ["p", "q", "factor"]) fun _ _ _ _ _ _ us hl => match us, hl with | [_, _, _], _ => rfl) m sc__law_sum fun cdv A outer s H E hr tk hp =>
    (dss_cons (ds_set (i := 3) sc__law_sum.nd d_newT)
    (dss_cons (ds_for (vs := [4, 5]) hp rfl (di_tup (dv 0)) (dg_tup (n := 2) rfl (dgs_cons (dg_name (i := 4) sc__law_sum.nd) (dgs_cons (dg_name (i := 5) sc__law_sum.nd) dgs_nil))) (dss_one (ds_putD (un1 hr) (dv 3) (dv 4) (dv 5))))
    (dss_cons (ds_for (vs := [4, 5]) hp rfl (di_tup (dv 1)) (dg_tup (n := 2) rfl (dgs_cons (dg_name (i := 4) sc__law_sum.nd) (dgs_cons (dg_name (i := 5) sc__law_sum.nd) dgs_nil))) (dss_one (ds_putD (un1 hr) (dv 3) (dv 4) (d_cal G__law_plus hr (by decide) tk (by rfl) (da_cons (d_get2 (un1 hr) (dv 3) (dv 4) (d_tup (da_cons d_int (da_cons d_int da_nil)))) (da_cons (d_cal G__law_times hr (by decide) tk (by rfl) (da_cons (dv 5) (da_cons (dv 2) da_nil))) da_nil))))))
    (dss_one (ds_ret (d_cal G__law_told hr (by decide) tk (by rfl) (da_cons (dv 3) da_nil)))))))
/-! _law_product -/
abbrev s__law_product : Stmt := topS 36
theorem sc__law_product : FnScope ["p", "q", "table", "key", "one", "other", "two", "new", "k"] ["p", "q"] (defScope s__law_product) := ⟨rfl, rfl, rfl, by decide +kernel, rfl, by decide +kernel, by decide +kernel⟩
def b__law_product : EvS :=
    (sSeq (sSet 2 eNewT)
    (sSeq (sFor (iTup' (eVar 0)) (gTup' 2 (gCons' (gN 3) (gCons' (gN 4) gNil'))) (sFor (iTup' (eVar 1)) (gTup' 2 (gCons' (gN 5) (gCons' (gN 6) gNil'))) (sSeq (sSet 7 (eOfL gTup (lComp [8] (iRng1' (aCons (eCB gLenD (aCons (eVar 3) aNil)) aNil)) (gN 8) tYes' (eBin oAdd (eIx (eVar 3) (eVar 8)) (eIx (eVar 5) (eVar 8))))))
    (sPut' dPutD (eVar 2) (eVar 7) (eCall 2 T__law_plus (aCons (eGet2' (eVar 2) (eVar 7) (eTup (aCons (eC (.int 0)) (aCons (eC (.int 1)) aNil)))) (aCons (eCall 2 T__law_times (aCons (eVar 4) (aCons (eVar 6) aNil))) aNil)))))))
    (sRet (eCall 1 T__law_told (aCons (eVar 2) aNil)))))
def T__law_product (ds : List D) (S : Sto) : Res D := runD 9 b__law_product ds S
set_option linter.unusedVariables false in
theorem ok__law_product {P : Program} {w : World} {K : PySem.W.Frag} {mg : Str → Option Value} {base : Heap} {f : Addr} {fd : FuncData} (F : Fun K "_law_product" "_law_product" s__law_product f fd) (m : mg "_law_product" = some (.ref f)) (B : Bt mg) (G__law_plus : Cal P w K mg base "_law_plus" 3 ["a", "b"] T__law_plus) (G__law_times : Cal P w K mg base "_law_times" 3 ["a", "b"] T__law_times) (G__law_told : Cal P w K mg base "_law_told" 1 ["table"] T__law_told) : Cal P w K mg base "_law_product" 4 ["p", "q"] T__law_product :=
  cal_mk F (F.binds (ps := ["p", "q"]) fun _ _ _ _ _ _ us hl => match us, hl with | [_, _], _ => rfl) m sc__law_product fun cdv A outer s H E hr tk hp =>
    (dss_cons (ds_set (i := 2) sc__law_product.nd d_newT)
    (dss_cons (ds_for (vs := [3, 4]) hp rfl (di_tup (dv 0)) (dg_tup (n := 2) rfl (dgs_cons (dg_name (i := 3) sc__law_product.nd) (dgs_cons (dg_name (i := 4) sc__law_product.nd) dgs_nil))) (dss_one (ds_for (vs := [5, 6]) hp rfl (di_tup (dv 1)) (dg_tup (n := 2) rfl (dgs_cons (dg_name (i := 5) sc__law_product.nd) (dgs_cons (dg_name (i := 6) sc__law_product.nd) dgs_nil))) (dss_cons (ds_set (i := 7) sc__law_product.nd (d_callLTy c_tup (by rfl) B.tuple bt_tuple (dl_comp (own := [("k", 8)]) (vs := [8]) rfl sc__law_product.nd (di_rng1 (by rfl) B.range (da_cons (d_callB (c_len) (by rfl) B.len bt_len (da_cons (dv 3) da_nil)) da_nil)) (blkOk_by (N := ["p", "q", "table", "key", "one", "other", "two", "new", "k"]) (sc := defScope s__law_product) (own := [("k", 8)]) (by decide +kernel)) (fun _ _ _ _ _ => (dg_name (i := 8) sc__law_product.nd)) (fun _ _ _ _ _ => dts_nil) (fun _ _ _ _ _ => (d_bin o_add (d_ix (dv 3) (dv 8)) (d_ix (dv 5) (dv 8)))))))
    (dss_one (ds_putD (un1 hr) (dv 2) (dv 7) (d_cal G__law_plus hr (by decide) tk (by rfl) (da_cons (d_get2 (un1 hr) (dv 2) (dv 7) (d_tup (da_cons d_int (da_cons d_int da_nil)))) (da_cons (d_cal G__law_times hr (by decide) tk (by rfl) (da_cons (dv 4) (da_cons (dv 6) da_nil))) da_nil)))))))))
    (dss_one (ds_ret (d_cal G__law_told hr (by decide) tk (by rfl) (da_cons (dv 2) da_nil))))))
/-! _law_fraction -/
abbrev s__law_fraction : Stmt := topS 38
theorem sc__law_fraction : FnScope ["c"] ["c"] (defScope s__law_fraction) := ⟨rfl, rfl, rfl, by decide +kernel, rfl, by decide +kernel, by decide +kernel⟩
def b__law_fraction : EvS :=
    (sRet (eCall 2 T__law_ratio (aCons (eIxL (lDisp (aCons (eBin oSub (eC (.int 0)) (eC (.int 3))) (aCons (eBin oSub (eC (.int 0)) (eC (.int 1))) (aCons (eC (.int 1)) (aCons (eC (.int 2)) (aCons (eC (.int 5)) (aCons (eC (.int 12)) (aCons (eBin oPow (eC (.int 10)) (eC (.int 11))) aNil)))))))) (eCall 2 T__law_take (aCons (eVar 0) (aCons (eC (.int 7)) aNil)))) (aCons (eIxL (lDisp (aCons (eC (.int 1)) (aCons (eC (.int 1)) (aCons (eC (.int 1)) (aCons (eC (.int 2)) (aCons (eC (.int 3)) (aCons (eC (.int 7)) aNil))))))) (eCall 2 T__law_take (aCons (eVar 0) (aCons (eC (.int 6)) aNil)))) aNil))))
def T__law_fraction (ds : List D) (S : Sto) : Res D := runD 1 b__law_fraction ds S
set_option linter.unusedVariables false in
theorem ok__law_fraction {P : Program} {w : World} {K : PySem.W.Frag} {mg : Str → Option Value} {base : Heap} {f : Addr} {fd : FuncData} (F : Fun K "_law_fraction" "_law_fraction" s__law_fraction f fd) (m : mg "_law_fraction" = some (.ref f)) (B : Bt mg) (G__law_ratio : Cal P w K mg base "_law_ratio" 2 ["above", "below"] T__law_ratio) (G__law_take : Cal P w K mg base "_law_take" 2 ["c", "many"] T__law_take) : Cal P w K mg base "_law_fraction" 3 ["c"] T__law_fraction :=
  cal_mk F (F.binds (ps := ["c"]) fun _ _ _ _ _ _ us hl => match us, hl with | [_], _ => rfl) m sc__law_fraction fun cdv A outer s H E hr tk hp =>
    (dss_one (ds_ret (d_cal G__law_ratio hr (by decide) tk (by rfl) (da_cons (d_ixL (dl_disp (da_cons (d_bin o_sub d_int d_int) (da_cons (d_bin o_sub d_int d_int) (da_cons d_int (da_cons d_int (da_cons d_int (da_cons d_int (da_cons (d_bin o_pow d_int d_int) da_nil)))))))) (d_cal G__law_take hr (by decide) tk (by rfl) (da_cons (dv 0) (da_cons d_int da_nil)))) (da_cons (d_ixL (dl_disp (da_cons d_int (da_cons d_int (da_cons d_int (da_cons d_int (da_cons d_int (da_cons d_int da_nil))))))) (d_cal G__law_take hr (by decide) tk (by rfl) (da_cons (dv 0) (da_cons d_int da_nil)))) da_nil)))))
/-! _law_polynomial -/
abbrev s__law_polynomial : Stmt := topS 39
theorem sc__law_polynomial : FnScope ["c", "n", "terms", "most", "table", "turn", "k"] ["c", "n", "terms", "most"] (defScope s__law_polynomial) := ⟨rfl, rfl, rfl, by decide +kernel, rfl, by decide +kernel, by decide +kernel⟩
def b__law_polynomial : EvS :=
    (sSeq (sSet 4 eNewT)
    (sSeq (sFor (iRng1' (aCons (eCall 2 T__law_take (aCons (eVar 0) (aCons (eBin oAdd (eVar 2) (eC (.int 1))) aNil))) aNil)) (gN 5) (sPut' dPutD (eVar 4) (eOfL gTup (lComp [6] (iRng1' (aCons (eVar 1) aNil)) (gN 6) tYes' (eBin oMul (eCall 2 T__law_take (aCons (eVar 0) (aCons (eBin oAdd (eVar 3) (eC (.int 1))) aNil))) (eCall 2 T__law_take (aCons (eVar 0) (aCons (eC (.int 2)) aNil)))))) (eCall 1 T__law_fraction (aCons (eVar 0) aNil))))
    (sRet (eCall 1 T__law_told (aCons (eVar 4) aNil)))))
def T__law_polynomial (ds : List D) (S : Sto) : Res D := runD 7 b__law_polynomial ds S
set_option linter.unusedVariables false in
theorem ok__law_polynomial {P : Program} {w : World} {K : PySem.W.Frag} {mg : Str → Option Value} {base : Heap} {f : Addr} {fd : FuncData} (F : Fun K "_law_polynomial" "_law_polynomial" s__law_polynomial f fd) (m : mg "_law_polynomial" = some (.ref f)) (B : Bt mg) (G__law_take : Cal P w K mg base "_law_take" 2 ["c", "many"] T__law_take) (G__law_fraction : Cal P w K mg base "_law_fraction" 3 ["c"] T__law_fraction) (G__law_told : Cal P w K mg base "_law_told" 1 ["table"] T__law_told) : Cal P w K mg base "_law_polynomial" 4 ["c", "n", "terms", "most"] T__law_polynomial :=
  cal_mk F (F.binds (ps := ["c", "n", "terms", "most"]) fun _ _ _ _ _ _ us hl => match us, hl with | [_, _, _, _], _ => rfl) m sc__law_polynomial fun cdv A outer s H E hr tk hp =>
    (dss_cons (ds_set (i := 4) sc__law_polynomial.nd d_newT)
    (dss_cons (ds_for (vs := [5]) hp rfl (di_rng1 (by rfl) B.range (da_cons (d_cal G__law_take hr (by decide) tk (by rfl) (da_cons (dv 0) (da_cons (d_bin o_add (dv 2) d_int) da_nil))) da_nil)) (dg_name (i := 5) sc__law_polynomial.nd) (dss_one (ds_putD (un1 hr) (dv 4) (d_callLTy c_tup (by rfl) B.tuple bt_tuple (dl_comp (own := [("k", 6)]) (vs := [6]) rfl sc__law_polynomial.nd (di_rng1 (by rfl) B.range (da_cons (dv 1) da_nil)) (blkOk_by (N := ["c", "n", "terms", "most", "table", "turn", "k"]) (sc := defScope s__law_polynomial) (own := [("k", 6)]) (by decide +kernel)) (fun _ _ _ _ _ => (dg_name (i := 6) sc__law_polynomial.nd)) (fun _ _ _ _ _ => dts_nil) (fun _ _ _ _ _ => (d_bin o_mul (d_cal G__law_take hr (by decide) tkB (by rfl) (da_cons (dv 0) (da_cons (d_bin o_add (dv 3) d_int) da_nil))) (d_cal G__law_take hr (by decide) tkB (by rfl) (da_cons (dv 0) (da_cons d_int da_nil))))))) (d_cal G__law_fraction hr (by decide) tk (by rfl) (da_cons (dv 0) da_nil)))))
    (dss_one (ds_ret (d_cal G__law_told hr (by decide) tk (by rfl) (da_cons (dv 4) da_nil))))))
/-! _law_is_integer -/
abbrev s__law_is_integer : Stmt := topS 40
theorem sc__law_is_integer : FnScope ["value"] ["value"] (defScope s__law_is_integer) := ⟨rfl, rfl, rfl, by decide +kernel, rfl, by decide +kernel, by decide +kernel⟩
def b__law_is_integer : EvS :=
    (sRet (eAnd (eIsi "int" (eVar 0)) (eNot (eIsi "bool" (eVar 0)))))
def T__law_is_integer (ds : List D) (S : Sto) : Res D := runD 1 b__law_is_integer ds S
set_option linter.unusedVariables false in
theorem ok__law_is_integer {P : Program} {w : World} {K : PySem.W.Frag} {mg : Str → Option Value} {base : Heap} {f : Addr} {fd : FuncData} (F : Fun K "_law_is_integer" "_law_is_integer" s__law_is_integer f fd) (m : mg "_law_is_integer" = some (.ref f)) (B : Bt mg)  : Cal P w K mg base "_law_is_integer" 1 ["value"] T__law_is_integer :=
  cal_mk F (F.binds (ps := ["value"]) fun _ _ _ _ _ _ us hl => match us, hl with | [_], _ => rfl) m sc__law_is_integer fun cdv A outer s H E hr tk hp =>
    (dss_one (ds_ret (d_and (d_isi (by rfl) B.isi (by rfl) B.int bt_int (dv 0)) (d_one (d_not (d_isi (by rfl) B.isi (by rfl) B.bool bt_bool (dv 0)))))))
/-! _law_is_ratio -/
abbrev s__law_is_ratio : Stmt := topS 41
theorem sc__law_is_ratio : FnScope ["value", "one"] ["value"] (defScope s__law_is_ratio) := ⟨rfl, rfl, rfl, by decide +kernel, rfl, by decide +kernel, by decide +kernel⟩
def b__law_is_ratio : EvS :=
    (sSeq (sIf (bOr (bNot (tTru (eIsi "tuple" (eVar 0)))) (bOr (tBin (oBn cEq) (eCB gLenD (aCons (eVar 0) aNil)) (eC (.int 2))) (bNot (tTru (eOfL gAll (lComp [1] (iTup' (eVar 0)) (gN 1) tYes' (eCall 1 T__law_is_integer (aCons (eVar 1) aNil)))))))) (sRet (eC (.bl false))) sNil)
    (sRet (eAnd (eBin (oBl cGt) (eIx (eVar 0) (eC (.int 1))) (eC (.int 0))) (eBin (oBl cEq) (eCall 2 T__law_divisor (aCons (eIx (eVar 0) (eC (.int 0))) (aCons (eIx (eVar 0) (eC (.int 1))) aNil))) (eC (.int 1))))))
def T__law_is_ratio (ds : List D) (S : Sto) : Res D := runD 2 b__law_is_ratio ds S
set_option linter.unusedVariables false in
theorem ok__law_is_ratio {P : Program} {w : World} {K : PySem.W.Frag} {mg : Str → Option Value} {base : Heap} {f : Addr} {fd : FuncData} (F : Fun K "_law_is_ratio" "_law_is_ratio" s__law_is_ratio f fd) (m : mg "_law_is_ratio" = some (.ref f)) (B : Bt mg) (G__law_is_integer : Cal P w K mg base "_law_is_integer" 1 ["value"] T__law_is_integer) (G__law_divisor : Cal P w K mg base "_law_divisor" 1 ["a", "b"] T__law_divisor) : Cal P w K mg base "_law_is_ratio" 2 ["value"] T__law_is_ratio :=
  cal_mk F (F.binds (ps := ["value"]) fun _ _ _ _ _ _ us hl => match us, hl with | [_], _ => rfl) m sc__law_is_ratio fun cdv A outer s H E hr tk hp =>
    (dss_cons (ds_if (dt_w (dw_or (dt_not (dt_tru (d_isi (by rfl) B.isi (by rfl) B.tuple bt_tuple (dv 0)))) (dw_or (dt_cmp (o_ne (un64 hr)) (d_callB (c_len) (by rfl) B.len bt_len (da_cons (dv 0) da_nil)) d_int (nomark _)) (dw_or1 (dt_not (dt_tru (d_callL (c_all rfl) (by rfl) B.all bt_all (dl_comp (own := [("one", 1)]) (vs := [1]) rfl sc__law_is_ratio.nd (di_tup (dv 0)) (blkOk_by (N := ["value", "one"]) (sc := defScope s__law_is_ratio) (own := [("one", 1)]) (by decide +kernel)) (fun _ _ _ _ _ => (dg_name (i := 1) sc__law_is_ratio.nd)) (fun _ _ _ _ _ => dts_nil) (fun _ _ _ _ _ => (d_cal G__law_is_integer hr (by decide) tkB (by rfl) (da_cons (dv 1) da_nil))))))))))) (dss_one (ds_ret d_bl)) dss_nil)
    (dss_one (ds_ret (d_and (d_cmp (o_gt) (d_ix (dv 0) d_int) d_int (nomark _)) (d_one (d_cmp (o_eq (un64 hr)) (d_cal G__law_divisor hr (by decide) tk (by rfl) (da_cons (d_ix (dv 0) d_int) (da_cons (d_ix (dv 0) d_int) da_nil))) d_int (nomark _)))))))
/-! _law_is_polynomial -/
abbrev s__law_is_polynomial : Stmt := topS 42
theorem sc__law_is_polynomial : FnScope ["value", "n", "row", "k", "one"] ["value", "n"] (defScope s__law_is_polynomial) := ⟨rfl, rfl, rfl, by decide +kernel, rfl, by decide +kernel, by decide +kernel⟩
def b__law_is_polynomial : EvS :=
    (sSeq (sIf (bNot (tTru (eIsi "tuple" (eVar 0)))) (sRet (eC (.bl false))) sNil)
    (sSeq (sFor (iTup' (eVar 0)) (gN 2) (sSeq (sIf (bOr (bNot (tTru (eIsi "tuple" (eVar 2)))) (bOr (tBin (oBn cEq) (eCB gLenD (aCons (eVar 2) aNil)) (eC (.int 2))) (bOr (bNot (tTru (eIsi "tuple" (eIx (eVar 2) (eC (.int 0)))))) (tBin (oBn cEq) (eCB gLenD (aCons (eIx (eVar 2) (eC (.int 0))) aNil)) (eVar 1))))) (sRet (eC (.bl false))) sNil)
    (sSeq (sIf (bNot (tTru (eOfL gAll (lComp [4] (iTup' (eIx (eVar 2) (eC (.int 0)))) (gN 4) tYes' (eAnd (eCall 1 T__law_is_integer (aCons (eVar 4) aNil)) (eBin (oBl cGe) (eVar 4) (eC (.int 0)))))))) (sRet (eC (.bl false))) sNil)
    (sIf (bOr (bNot (tTru (eCall 1 T__law_is_ratio (aCons (eIx (eVar 2) (eC (.int 1))) aNil)))) (tBin (oBl cEq) (eIx (eIx (eVar 2) (eC (.int 1))) (eC (.int 0))) (eC (.int 0)))) (sRet (eC (.bl false))) sNil))))
    (sRet (eOfL gAll (lComp [3] (iRng1' (aCons (eBin oSub (eCB gLenD (aCons (eVar 0) aNil)) (eC (.int 1))) aNil)) (gN 3) tYes' (eBin (oBl cLt) (eIx (eIx (eVar 0) (eVar 3)) (eC (.int 0))) (eIx (eIx (eVar 0) (eBin oAdd (eVar 3) (eC (.int 1)))) (eC (.int 0)))))))))
def T__law_is_polynomial (ds : List D) (S : Sto) : Res D := runD 5 b__law_is_polynomial ds S
set_option linter.unusedVariables false in
theorem ok__law_is_polynomial {P : Program} {w : World} {K : PySem.W.Frag} {mg : Str → Option Value} {base : Heap} {f : Addr} {fd : FuncData} (F : Fun K "_law_is_polynomial" "_law_is_polynomial" s__law_is_polynomial f fd) (m : mg "_law_is_polynomial" = some (.ref f)) (B : Bt mg) (G__law_is_integer : Cal P w K mg base "_law_is_integer" 1 ["value"] T__law_is_integer) (G__law_is_ratio : Cal P w K mg base "_law_is_ratio" 2 ["value"] T__law_is_ratio) : Cal P w K mg base "_law_is_polynomial" 3 ["value", "n"] T__law_is_polynomial :=
  cal_mk F (F.binds (ps := ["value", "n"]) fun _ _ _ _ _ _ us hl => match us, hl with | [_, _], _ => rfl) m sc__law_is_polynomial fun cdv A outer s H E hr tk hp =>
    (dss_cons (ds_if (dt_not (dt_tru (d_isi (by rfl) B.isi (by rfl) B.tuple bt_tuple (dv 0)))) (dss_one (ds_ret d_bl)) dss_nil)
    (dss_cons (ds_for (vs := [2]) hp rfl (di_tup (dv 0)) (dg_name (i := 2) sc__law_is_polynomial.nd) (dss_cons (ds_if (dt_w (dw_or (dt_not (dt_tru (d_isi (by rfl) B.isi (by rfl) B.tuple bt_tuple (dv 2)))) (dw_or (dt_cmp (o_ne (un64 hr)) (d_callB (c_len) (by rfl) B.len bt_len (da_cons (dv 2) da_nil)) d_int (nomark _)) (dw_or (dt_not (dt_tru (d_isi (by rfl) B.isi (by rfl) B.tuple bt_tuple (d_ix (dv 2) d_int)))) (dw_or1 (dt_cmp (o_ne (un64 hr)) (d_callB (c_len) (by rfl) B.len bt_len (da_cons (d_ix (dv 2) d_int) da_nil)) (dv 1) (nomark _))))))) (dss_one (ds_ret d_bl)) dss_nil)
    (dss_cons (ds_if (dt_not (dt_tru (d_callL (c_all rfl) (by rfl) B.all bt_all (dl_comp (own := [("one", 4)]) (vs := [4]) rfl sc__law_is_polynomial.nd (di_tup (d_ix (dv 2) d_int)) (blkOk_by (N := ["value", "n", "row", "k", "one"]) (sc := defScope s__law_is_polynomial) (own := [("one", 4)]) (by decide +kernel)) (fun _ _ _ _ _ => (dg_name (i := 4) sc__law_is_polynomial.nd)) (fun _ _ _ _ _ => dts_nil) (fun _ _ _ _ _ => (d_and (d_cal G__law_is_integer hr (by decide) tkB (by rfl) (da_cons (dv 4) da_nil)) (d_one (d_cmp (o_ge) (dv 4) d_int (nomark _))))))))) (dss_one (ds_ret d_bl)) dss_nil)
    (dss_one (ds_if (dt_w (dw_or (dt_not (dt_tru (d_cal G__law_is_ratio hr (by decide) tk (by rfl) (da_cons (d_ix (dv 2) d_int) da_nil)))) (dw_or1 (dt_cmp (o_eq (un64 hr)) (d_ix (d_ix (dv 2) d_int) d_int) d_int (nomark _))))) (dss_one (ds_ret d_bl)) dss_nil)))))
    (dss_one (ds_ret (d_callL (c_all rfl) (by rfl) B.all bt_all (dl_comp (own := [("k", 3)]) (vs := [3]) rfl sc__law_is_polynomial.nd (di_rng1 (by rfl) B.range (da_cons (d_bin o_sub (d_callB (c_len) (by rfl) B.len bt_len (da_cons (dv 0) da_nil)) d_int) da_nil)) (blkOk_by (N := ["value", "n", "row", "k", "one"]) (sc := defScope s__law_is_polynomial) (own := [("k", 3)]) (by decide +kernel)) (fun _ _ _ _ _ => (dg_name (i := 3) sc__law_is_polynomial.nd)) (fun _ _ _ _ _ => dts_nil) (fun _ _ _ _ _ => (d_cmp (o_lt (un0 hr)) (d_ix (d_ix (dv 0) (dv 3)) d_int) (d_ix (d_ix (dv 0) (d_bin o_add (dv 3) d_int)) d_int) (nomark _)))))))))
/-! _law_is_problem -/
abbrev s__law_is_problem : Stmt := topS 43
theorem sc__law_is_problem : FnScope ["value", "one"] ["value"] (defScope s__law_is_problem) := ⟨rfl, rfl, rfl, by decide +kernel, rfl, by decide +kernel, by decide +kernel⟩
def b__law_is_problem : EvS :=
    (sSeq (sIf (bOr (bNot (tTru (eIsi "tuple" (eVar 0)))) (bOr (tBin (oBn cEq) (eCB gLenD (aCons (eVar 0) aNil)) (eC (.int 2))) (bOr (bNot (tTru (eCall 1 T__law_is_integer (aCons (eIx (eVar 0) (eC (.int 0))) aNil)))) (tBin (oBl cLt) (eIx (eVar 0) (eC (.int 0))) (eC (.int 1)))))) (sRet (eC (.bl false))) sNil)
    (sRet (eAnd (eIsi "tuple" (eIx (eVar 0) (eC (.int 1)))) (eOfL gAll (lComp [1] (iTup' (eIx (eVar 0) (eC (.int 1)))) (gN 1) tYes' (eCall 2 T__law_is_polynomial (aCons (eVar 1) (aCons (eIx (eVar 0) (eC (.int 0))) aNil))))))))
def T__law_is_problem (ds : List D) (S : Sto) : Res D := runD 2 b__law_is_problem ds S
set_option linter.unusedVariables false in
theorem ok__law_is_problem {P : Program} {w : World} {K : PySem.W.Frag} {mg : Str → Option Value} {base : Heap} {f : Addr} {fd : FuncData} (F : Fun K "_law_is_problem" "_law_is_problem" s__law_is_problem f fd) (m : mg "_law_is_problem" = some (.ref f)) (B : Bt mg) (G__law_is_integer : Cal P w K mg base "_law_is_integer" 1 ["value"] T__law_is_integer) (G__law_is_polynomial : Cal P w K mg base "_law_is_polynomial" 3 ["value", "n"] T__law_is_polynomial) : Cal P w K mg base "_law_is_problem" 4 ["value"] T__law_is_problem :=
  cal_mk F (F.binds (ps := ["value"]) fun _ _ _ _ _ _ us hl => match us, hl with | [_], _ => rfl) m sc__law_is_problem fun cdv A outer s H E hr tk hp =>
    (dss_cons (ds_if (dt_w (dw_or (dt_not (dt_tru (d_isi (by rfl) B.isi (by rfl) B.tuple bt_tuple (dv 0)))) (dw_or (dt_cmp (o_ne (un64 hr)) (d_callB (c_len) (by rfl) B.len bt_len (da_cons (dv 0) da_nil)) d_int (nomark _)) (dw_or (dt_not (dt_tru (d_cal G__law_is_integer hr (by decide) tk (by rfl) (da_cons (d_ix (dv 0) d_int) da_nil)))) (dw_or1 (dt_cmp (o_lt (un0 hr)) (d_ix (dv 0) d_int) d_int (nomark _))))))) (dss_one (ds_ret d_bl)) dss_nil)
    (dss_one (ds_ret (d_and (d_isi (by rfl) B.isi (by rfl) B.tuple bt_tuple (d_ix (dv 0) d_int)) (d_one (d_callL (c_all rfl) (by rfl) B.all bt_all (dl_comp (own := [("one", 1)]) (vs := [1]) rfl sc__law_is_problem.nd (di_tup (d_ix (dv 0) d_int)) (blkOk_by (N := ["value", "one"]) (sc := defScope s__law_is_problem) (own := [("one", 1)]) (by decide +kernel)) (fun _ _ _ _ _ => (dg_name (i := 1) sc__law_is_problem.nd)) (fun _ _ _ _ _ => dts_nil) (fun _ _ _ _ _ => (d_cal G__law_is_polynomial hr (by decide) tkB (by rfl) (da_cons (dv 1) (da_cons (d_ix (dv 0) d_int) da_nil)))))))))))
/-! _law_bent -/
abbrev s__law_bent : Stmt := topS 44
theorem sc__law_bent : FnScope ["c", "p", "n", "rows", "kind", "k", "odd", "key", "one", "j"] ["c", "p", "n"] (defScope s__law_bent) := ⟨rfl, rfl, rfl, by decide +kernel, rfl, by decide +kernel, by decide +kernel⟩
def b__law_bent : EvS :=
    (sSeq (sSet 3 (eMat (lCB gLst (aCons (eVar 1) aNil))))
    (sSeq (sSet 4 (eCall 2 T__law_take (aCons (eVar 0) (aCons (eC (.int 8)) aNil))))
    (sSeq (sIf (bOr (tBin (oBl cEq) (eVar 4) (eC (.int 0))) (bNot (tTru (eVar 3)))) (sSeq (sSet 6 (eMat (lDisp (aCons (eTup aNil) (aCons (eC (.str "")) (aCons (eC (.int 0)) (aCons (eTup (aCons (eTup aNil) aNil)) (aCons (eTup (aCons (eTup (aCons (eBin oMul (eTup (aCons (eC (.int 0)) aNil)) (eVar 2)) (aCons (eTup (aCons (eC (.int 0)) (aCons (eC (.int 1)) aNil))) aNil))) aNil)) (aCons (eTup (aCons (eTup (aCons (eBin oMul (eTup (aCons (eC (.int 0)) aNil)) (eVar 2)) (aCons (eTup (aCons (eC (.int 1)) (aCons (eC (.int 1)) aNil))) aNil))) aNil)) (aCons (eTup (aCons (eTup (aCons (eBin oMul (eTup (aCons (eC (.int 1)) aNil)) (eVar 2)) (aCons (eTup (aCons (eC (.int 2)) (aCons (eC (.int 4)) aNil))) aNil))) aNil)) (aCons (eTup (aCons (eTup (aCons (eBin oMul (eTup (aCons (eC (.int 1)) aNil)) (eVar 2)) (aCons (eC (.int 3)) aNil))) aNil)) aNil)))))))))))
    (sRet (eIx (eVar 6) (eCall 2 T__law_take (aCons (eVar 0) (aCons (eC (.int 8)) aNil)))))) sNil)
    (sSeq (sSet 5 (eCall 2 T__law_take (aCons (eVar 0) (aCons (eCB gLenD (aCons (eVar 3) aNil)) aNil))))
    (sSeq (sAsg (eIx (eVar 3) (eVar 5)) (gTup' 2 (gCons' (gN 7) (gCons' (gN 8) gNil'))))
    (sSeq (sIf (tBin (oBl cEq) (eVar 4) (eC (.int 1))) (sExpr (eMet "list" gApp (eVar 3) (aCons (eIx (eVar 3) (eVar 5)) aNil))) (sIf (tBin (oBl cEq) (eVar 4) (eC (.int 2))) (sSet 3 (eMat (lRev (eVar 3)))) (sIf (tBin (oBl cEq) (eVar 4) (eC (.int 3))) (sSeq (sSet 6 (eMat (lDisp (aCons (eTup (aCons (eBin oMul (eIx (eVar 8) (eC (.int 0))) (eC (.int 2))) (aCons (eBin oMul (eIx (eVar 8) (eC (.int 1))) (eC (.int 2))) aNil))) (aCons (eTup (aCons (eIx (eVar 8) (eC (.int 0))) (aCons (eBin oSub (eC (.int 0)) (eIx (eVar 8) (eC (.int 1)))) aNil))) (aCons (eTup (aCons (eC (.int 0)) (aCons (eC (.int 1)) aNil))) (aCons (eTup (aCons (eIx (eVar 8) (eC (.int 0))) (aCons (eC (.int 0)) aNil))) (aCons (eBin oAdd (eVar 8) (eTup (aCons (eC (.int 1)) aNil))) aNil))))))))
    (sPut' setLD (eVar 3) (eVar 5) (eTup (aCons (eVar 7) (aCons (eIx (eVar 6) (eCall 2 T__law_take (aCons (eVar 0) (aCons (eC (.int 5)) aNil)))) aNil))))) (sIf (tBin (oBl cEq) (eVar 4) (eC (.int 4))) (sSeq (sSet 9 (eCall 2 T__law_take (aCons (eVar 0) (aCons (eVar 2) aNil))))
    (sPut' setLD (eVar 3) (eVar 5) (eTup (aCons (eBin oAdd (eBin oAdd (eSlT (eVar 7) pNo (pSome (eVar 9))) (eTup (aCons (eIxL (lDisp (aCons (eBin oSub (eC (.int 0)) (eC (.int 1))) (aCons (eC (.str "1")) (aCons (eTup (aCons (eC (.int 1)) (aCons (eC (.int 1)) aNil))) (aCons (eC (.bl true)) aNil))))) (eCall 2 T__law_take (aCons (eVar 0) (aCons (eC (.int 4)) aNil)))) aNil))) (eSlT (eVar 7) (pSome (eBin oAdd (eVar 9) (eC (.int 1)))) pNo)) (aCons (eVar 8) aNil))))) (sIf (tBin (oBl cEq) (eVar 4) (eC (.int 5))) (sPut' setLD (eVar 3) (eVar 5) (eIf (tBin (oBl cEq) (eCall 2 T__law_take (aCons (eVar 0) (aCons (eC (.int 2)) aNil))) (eC (.int 0))) (eTup (aCons (eBin oAdd (eVar 7) (eTup (aCons (eC (.int 0)) aNil))) (aCons (eVar 8) aNil))) (eTup (aCons (eSlT (eVar 7) (pSome (eC (.int 1))) pNo) (aCons (eVar 8) aNil))))) (sIf (tBin (oBl cEq) (eVar 4) (eC (.int 6))) (sPut' setLD (eVar 3) (eVar 5) (eIf (tBin (oBl cEq) (eCall 2 T__law_take (aCons (eVar 0) (aCons (eC (.int 2)) aNil))) (eC (.int 0))) (eTup (aCons (eVar 8) (aCons (eVar 7) aNil))) (eTup (aCons (eVar 7) (aCons (eVar 8) (aCons (eTup aNil) aNil)))))) sNil))))))
    (sRet (eCB gTupD (aCons (eVar 3) aNil)))))))))
def T__law_bent (ds : List D) (S : Sto) : Res D := runD 10 b__law_bent ds S
set_option linter.unusedVariables false in
theorem ok__law_bent {P : Program} {w : World} {K : PySem.W.Frag} {mg : Str → Option Value} {base : Heap} {f : Addr} {fd : FuncData} (F : Fun K "_law_bent" "_law_bent" s__law_bent f fd) (m : mg "_law_bent" = some (.ref f)) (B : Bt mg) (G__law_take : Cal P w K mg base "_law_take" 2 ["c", "many"] T__law_take) : Cal P w K mg base "_law_bent" 3 ["c", "p", "n"] T__law_bent :=
  cal_mk F (F.binds (ps := ["c", "p", "n"]) fun _ _ _ _ _ _ us hl => match us, hl with | [_, _, _], _ => rfl) m sc__law_bent fun cdv A outer s H E hr tk hp =>
    (dss_cons (ds_set (i := 3) sc__law_bent.nd (d_mat (dl_callTy c_lst (by rfl) B.list bt_list (da_cons (dv 1) da_nil))))
    (dss_cons (ds_set (i := 4) sc__law_bent.nd (d_cal G__law_take hr (by decide) tk (by rfl) (da_cons (dv 0) (da_cons d_int da_nil))))
    (dss_cons (ds_if (dt_w (dw_or (dt_cmp (o_eq (un64 hr)) (dv 4) d_int (nomark _)) (dw_or1 (dt_not (dt_tru (dv 3)))))) (dss_cons (ds_set (i := 6) sc__law_bent.nd (d_mat (dl_disp (da_cons (d_tup da_nil) (da_cons d_str (da_cons d_int (da_cons (d_tup (da_cons (d_tup da_nil) da_nil)) (da_cons (d_tup (da_cons (d_tup (da_cons (d_bin o_mul (d_tup (da_cons d_int da_nil)) (dv 2)) (da_cons (d_tup (da_cons d_int (da_cons d_int da_nil))) da_nil))) da_nil)) (da_cons (d_tup (da_cons (d_tup (da_cons (d_bin o_mul (d_tup (da_cons d_int da_nil)) (dv 2)) (da_cons (d_tup (da_cons d_int (da_cons d_int da_nil))) da_nil))) da_nil)) (da_cons (d_tup (da_cons (d_tup (da_cons (d_bin o_mul (d_tup (da_cons d_int da_nil)) (dv 2)) (da_cons (d_tup (da_cons d_int (da_cons d_int da_nil))) da_nil))) da_nil)) (da_cons (d_tup (da_cons (d_tup (da_cons (d_bin o_mul (d_tup (da_cons d_int da_nil)) (dv 2)) (da_cons d_int da_nil))) da_nil)) da_nil)))))))))))
    (dss_one (ds_ret (d_ix (dv 6) (d_cal G__law_take hr (by decide) tk (by rfl) (da_cons (dv 0) (da_cons d_int da_nil))))))) dss_nil)
    (dss_cons (ds_set (i := 5) sc__law_bent.nd (d_cal G__law_take hr (by decide) tk (by rfl) (da_cons (dv 0) (da_cons (d_callB (c_len) (by rfl) B.len bt_len (da_cons (dv 3) da_nil)) da_nil))))
    (dss_cons (ds_asg (vs := [7, 8]) (d_ix (dv 3) (dv 5)) (dg_tup (n := 2) rfl (dgs_cons (dg_name (i := 7) sc__law_bent.nd) (dgs_cons (dg_name (i := 8) sc__law_bent.nd) dgs_nil))))
    (dss_cons (ds_if (dt_cmp (o_eq (un64 hr)) (dv 4) d_int (nomark _)) (dss_one (ds_expr (d_met PySem.F.plainAttrs_list PySem.F.slot_list_append PySem.F.type_list_append m_app (dv 3) (da_cons (d_ix (dv 3) (dv 5)) da_nil)))) (dss_one (ds_if (dt_cmp (o_eq (un64 hr)) (dv 4) d_int (nomark _)) (dss_one (ds_set (i := 3) sc__law_bent.nd (d_mat (dl_rev (dv 3))))) (dss_one (ds_if (dt_cmp (o_eq (un64 hr)) (dv 4) d_int (nomark _)) (dss_cons (ds_set (i := 6) sc__law_bent.nd (d_mat (dl_disp (da_cons (d_tup (da_cons (d_bin o_mul (d_ix (dv 8) d_int) d_int) (da_cons (d_bin o_mul (d_ix (dv 8) d_int) d_int) da_nil))) (da_cons (d_tup (da_cons (d_ix (dv 8) d_int) (da_cons (d_bin o_sub d_int (d_ix (dv 8) d_int)) da_nil))) (da_cons (d_tup (da_cons d_int (da_cons d_int da_nil))) (da_cons (d_tup (da_cons (d_ix (dv 8) d_int) (da_cons d_int da_nil))) (da_cons (d_bin o_add (dv 8) (d_tup (da_cons d_int da_nil))) da_nil))))))))
    (dss_one (ds_putL (dv 3) (dv 5) (d_tup (da_cons (dv 7) (da_cons (d_ix (dv 6) (d_cal G__law_take hr (by decide) tk (by rfl) (da_cons (dv 0) (da_cons d_int da_nil)))) da_nil)))))) (dss_one (ds_if (dt_cmp (o_eq (un64 hr)) (dv 4) d_int (nomark _)) (dss_cons (ds_set (i := 9) sc__law_bent.nd (d_cal G__law_take hr (by decide) tk (by rfl) (da_cons (dv 0) (da_cons (dv 2) da_nil))))
    (dss_one (ds_putL (dv 3) (dv 5) (d_tup (da_cons (d_bin o_add (d_bin o_add (d_slT (dv 7) do_no (do_some (dv 9))) (d_tup (da_cons (d_ixL (dl_disp (da_cons (d_bin o_sub d_int d_int) (da_cons d_str (da_cons (d_tup (da_cons d_int (da_cons d_int da_nil))) (da_cons d_bl da_nil))))) (d_cal G__law_take hr (by decide) tk (by rfl) (da_cons (dv 0) (da_cons d_int da_nil)))) da_nil))) (d_slT (dv 7) (do_some (d_bin o_add (dv 9) d_int)) do_no)) (da_cons (dv 8) da_nil)))))) (dss_one (ds_if (dt_cmp (o_eq (un64 hr)) (dv 4) d_int (nomark _)) (dss_one (ds_putL (dv 3) (dv 5) (d_if (dt_cmp (o_eq (un64 hr)) (d_cal G__law_take hr (by decide) tk (by rfl) (da_cons (dv 0) (da_cons d_int da_nil))) d_int (nomark _)) (d_tup (da_cons (d_bin o_add (dv 7) (d_tup (da_cons d_int da_nil))) (da_cons (dv 8) da_nil))) (d_tup (da_cons (d_slT (dv 7) (do_some d_int) do_no) (da_cons (dv 8) da_nil)))))) (dss_one (ds_if (dt_cmp (o_eq (un64 hr)) (dv 4) d_int (nomark _)) (dss_one (ds_putL (dv 3) (dv 5) (d_if (dt_cmp (o_eq (un64 hr)) (d_cal G__law_take hr (by decide) tk (by rfl) (da_cons (dv 0) (da_cons d_int da_nil))) d_int (nomark _)) (d_tup (da_cons (dv 8) (da_cons (dv 7) da_nil))) (d_tup (da_cons (dv 7) (da_cons (dv 8) (da_cons (d_tup da_nil) da_nil))))))) dss_nil)))))))))))
    (dss_one (ds_ret (d_callTy c_tupD (by rfl) B.tuple bt_tuple (da_cons (dv 3) da_nil))))))))))
/-! law -/
abbrev s_law : Stmt := topS 45
theorem sc_law : FnScope ["script", "c", "n", "one", "k", "power", "turn", "p", "q", "bent", "many", "value", "key", "part"] ["script"] (defScope s_law) := ⟨rfl, rfl, rfl, by decide +kernel, rfl, by decide +kernel, by decide +kernel⟩
def b_law_0 : EvS :=
    (sSet 2 (eBin oAdd (eC (.int 1)) (eCall 2 T__law_take (aCons (eVar 1) (aCons (eC (.int 3)) aNil)))))
def b_law_1 : EvS :=
    (sPar 7 8 (aCons (eCall 4 T__law_polynomial (aCons (eVar 1) (aCons (eVar 2) (aCons (eC (.int 5)) (aCons (eC (.int 3)) aNil))))) (aCons (eCall 4 T__law_polynomial (aCons (eVar 1) (aCons (eVar 2) (aCons (eC (.int 4)) (aCons (eC (.int 3)) aNil))))) aNil)))
def b_law_2 : EvS :=
    (sIf (tBin (oBl cEq) (eCall 2 T__law_take (aCons (eVar 1) (aCons (eC (.int 5)) aNil))) (eC (.int 0))) (sSet 8 (eVar 7)) sNil)
def b_law_3 : EvS :=
    (sIf (bOr (tBin (oBn cEq) (eCB gRepr (aCons (eCall 2 T_added (aCons (eVar 7) (aCons (eVar 8) aNil))) aNil)) (eCB gRepr (aCons (eCall 3 T__law_sum (aCons (eVar 7) (aCons (eVar 8) (aCons (eTup (aCons (eC (.int 1)) (aCons (eC (.int 1)) aNil))) aNil)))) aNil))) (tBin (oBn cEq) (eCB gRepr (aCons (eCall 2 T_less (aCons (eVar 7) (aCons (eVar 8) aNil))) aNil)) (eCB gRepr (aCons (eCall 3 T__law_sum (aCons (eVar 7) (aCons (eVar 8) (aCons (eTup (aCons (eBin oSub (eC (.int 0)) (eC (.int 1))) (aCons (eC (.int 1)) aNil))) aNil)))) aNil)))) (sRet (eC (.bl false))) sNil)
def b_law_4 : EvS :=
    (sIf (tBin (oBn cEq) (eCB gRepr (aCons (eCall 2 T_multiplied (aCons (eVar 7) (aCons (eVar 8) aNil))) aNil)) (eCB gRepr (aCons (eCall 2 T__law_product (aCons (eVar 7) (aCons (eVar 8) aNil))) aNil))) (sRet (eC (.bl false))) sNil)
def b_law_5 : EvS :=
    (sSet 3 (eIf (tBin (oBl cGt) (eCall 2 T__law_take (aCons (eVar 1) (aCons (eC (.int 5)) aNil))) (eC (.int 0))) (eCall 1 T__law_fraction (aCons (eVar 1) aNil)) (eTup (aCons (eC (.int 0)) (aCons (eC (.int 1)) aNil)))))
def b_law_6 : EvS :=
    (sIf (tBin (oBn cEq) (eCB gRepr (aCons (eCall 2 T_scaled (aCons (eVar 7) (aCons (eVar 3) aNil))) aNil)) (eCB gRepr (aCons (eCall 3 T__law_sum (aCons (eTup aNil) (aCons (eVar 7) (aCons (eVar 3) aNil)))) aNil))) (sRet (eC (.bl false))) sNil)
def b_law_7 : EvS :=
    (sSet 4 (eBin oAdd (eC (.int 1)) (eCall 2 T__law_take (aCons (eVar 1) (aCons (eC (.int 4)) aNil)))))
def b_law_8 : EvS :=
    (sSet 5 (eVar 7))
def b_law_9b_0 : EvS :=
    (sSet 5 (eCall 2 T__law_product (aCons (eVar 5) (aCons (eVar 7) aNil))))
def b_law_9b : EvS :=
    b_law_9b_0
def b_law_9 : EvS := (sFor (iRng1' (aCons (eBin oSub (eVar 4) (eC (.int 1))) aNil)) (gN 6) b_law_9b)
def b_law_10 : EvS :=
    (sIf (tBin (oBn cEq) (eCB gRepr (aCons (eCall 2 T_raised (aCons (eVar 7) (aCons (eVar 4) aNil))) aNil)) (eCB gRepr (aCons (eVar 5) aNil))) (sRet (eC (.bl false))) sNil)
def b_law_11 : EvS :=
    (sIf (tBin (oBn cEq) (eCB gRepr (aCons (eCall 1 T_degree (aCons (eVar 7) aNil)) aNil)) (eCB gRepr (aCons (eOfL gMax (lCat (lDisp (aCons (eBin oSub (eC (.int 0)) (eC (.int 1))) aNil)) (lComp [12, 13] (iTup' (eVar 7)) (gTup' 2 (gCons' (gN 12) (gCons' (gN 13) gNil'))) tYes' (eCB gSumD (aCons (eVar 12) aNil))))) aNil))) (sRet (eC (.bl false))) sNil)
def b_law_12b_0 : EvS :=
    (sSet 9 (eCall 3 T__law_bent (aCons (eVar 1) (aCons (eVar 7) (aCons (eVar 2) aNil)))))
def b_law_12b_1 : EvS :=
    (sSet 10 (eBin oAdd (eVar 2) (eBin oDiv (eCall 2 T__law_take (aCons (eVar 1) (aCons (eC (.int 5)) aNil))) (eC (.int 4)))))
def b_law_12b_2 : EvS :=
    (sIf (tBin (oBn cEq) (eCB gRepr (aCons (eCall 2 T_is_polynomial (aCons (eVar 9) (aCons (eVar 10) aNil))) aNil)) (eCB gRepr (aCons (eCall 2 T__law_is_polynomial (aCons (eVar 9) (aCons (eVar 10) aNil))) aNil))) (sRet (eC (.bl false))) sNil)
def b_law_12b_3 : EvS :=
    (sSet 11 (eIxL (lDisp (aCons (eTup (aCons (eVar 10) (aCons (eTup (aCons (eVar 9) (aCons (eVar 8) aNil))) aNil))) (aCons (eTup (aCons (eVar 10) (aCons (eTup (aCons (eVar 9) aNil)) aNil))) (aCons (eTup (aCons (eVar 10) (aCons (eVar 9) aNil))) (aCons (eVar 9) (aCons (eTup (aCons (eVar 10) aNil)) (aCons (eTup (aCons (eVar 10) (aCons (eTup (aCons (eVar 8) (aCons (eVar 7) aNil))) (aCons (eTup aNil) aNil)))) aNil))))))) (eCall 2 T__law_take (aCons (eVar 1) (aCons (eC (.int 6)) aNil)))))
def b_law_12b_4 : EvS :=
    (sIf (tBin (oBl cEq) (eCall 2 T__law_take (aCons (eVar 1) (aCons (eC (.int 6)) aNil))) (eC (.int 0))) (sSet 11 (eTup (aCons (eIxL (lDisp (aCons (eC (.int 0)) (aCons (eC (.bl true)) (aCons (eC (.str "1")) (aCons (eBin oSub (eC (.int 0)) (eC (.int 1))) aNil))))) (eCall 2 T__law_take (aCons (eVar 1) (aCons (eC (.int 4)) aNil)))) (aCons (eTup (aCons (eVar 7) aNil)) aNil)))) sNil)
def b_law_12b_5 : EvS :=
    (sIf (tBin (oBn cEq) (eCB gRepr (aCons (eCall 1 T_is_problem (aCons (eVar 11) aNil)) aNil)) (eCB gRepr (aCons (eCall 1 T__law_is_problem (aCons (eVar 11) aNil)) aNil))) (sRet (eC (.bl false))) sNil)
def b_law_12b : EvS :=
    (sSeq b_law_12b_0 (sSeq b_law_12b_1 (sSeq b_law_12b_2 (sSeq b_law_12b_3 (sSeq b_law_12b_4 b_law_12b_5)))))
def b_law_12 : EvS := (sFor (iRng1' (aCons (eC (.int 4)) aNil)) (gN 6) b_law_12b)
def b_law_13 : EvS :=
    (sRet (eAnd (eBin (oBl cEq) (eCB gRepr (aCons (eCall 2 T_is_polynomial (aCons (eVar 7) (aCons (eVar 2) aNil))) aNil)) (eC (.str "True"))) (eBin (oBl cEq) (eCB gRepr (aCons (eCall 1 T_is_problem (aCons (eTup (aCons (eVar 2) (aCons (eTup (aCons (eVar 7) (aCons (eVar 8) aNil))) aNil))) aNil)) aNil)) (eC (.str "True")))))
def b_law : EvS :=
    (sSeq b_law_0 (sSeq b_law_1 (sSeq b_law_2 (sSeq b_law_3 (sSeq b_law_4 (sSeq b_law_5 (sSeq b_law_6 (sSeq b_law_7 (sSeq b_law_8 (sSeq b_law_9 (sSeq b_law_10 (sSeq b_law_11 (sSeq b_law_12 b_law_13)))))))))))))
def T_law (ds : List D) (S : Sto) : Res D := runD 14 b_law ds S
set_option linter.unusedVariables false in
theorem dr_law {P : Program} {w : World} {K : PySem.W.Frag} {mg : Str → Option Value} {base : Heap} {f : Addr} (B : Bt mg) (G__law_take : Cal P w K mg base "_law_take" 2 ["c", "many"] T__law_take) (G__law_polynomial : Cal P w K mg base "_law_polynomial" 4 ["c", "n", "terms", "most"] T__law_polynomial) (G_added : Cal P w K mg base "added" 4 ["p", "q"] T_added) (G__law_sum : Cal P w K mg base "_law_sum" 4 ["p", "q", "factor"] T__law_sum) (G_less : Cal P w K mg base "less" 5 ["p", "q"] T_less) (G_multiplied : Cal P w K mg base "multiplied" 5 ["p", "q"] T_multiplied) (G__law_product : Cal P w K mg base "_law_product" 4 ["p", "q"] T__law_product) (G__law_fraction : Cal P w K mg base "_law_fraction" 3 ["c"] T__law_fraction) (G_scaled : Cal P w K mg base "scaled" 4 ["p", "fraction"] T_scaled) (G_raised : Cal P w K mg base "raised" 6 ["p", "k"] T_raised) (G_degree : Cal P w K mg base "degree" 1 ["p"] T_degree) (G__law_bent : Cal P w K mg base "_law_bent" 3 ["c", "p", "n"] T__law_bent) (G_is_polynomial : Cal P w K mg base "is_polynomial" 3 ["value", "n"] T_is_polynomial) (G__law_is_polynomial : Cal P w K mg base "_law_is_polynomial" 3 ["value", "n"] T__law_is_polynomial) (G_is_problem : Cal P w K mg base "is_problem" 4 ["value"] T_is_problem) (G__law_is_problem : Cal P w K mg base "_law_is_problem" 4 ["value"] T__law_is_problem) {cdv : Value} {A : Around} {outer : List Env} {s : Shared} {H : Hp} {E : XK} (hr : Room 7 (A.deeper (envOfC "law" (defScope s_law) s.heap.objs.size f cdv))) (hgd : (A.deeper (envOfC "law" (defScope s_law) s.heap.objs.size f cdv)).guards = some [])
    (tk : Takes (cxOf (L2.CX P w) P w K mg base ["script", "c", "n", "one", "k", "power", "turn", "p", "q", "bent", "many", "value", "key", "part"] "law" (defScope s_law) f cdv A outer s H E) (WE0 E)) (hp : PassesOwn (model P w) (A.deeper (envOfC "law" (defScope s_law) s.heap.objs.size f cdv)) (cxOf (L2.CX P w) P w K mg base ["script", "c", "n", "one", "k", "power", "turn", "p", "q", "bent", "many", "value", "key", "part"] "law" (defScope s_law) f cdv A outer s H E).env (cxOf (L2.CX P w) P w K mg base ["script", "c", "n", "one", "k", "power", "turn", "p", "q", "bent", "many", "value", "key", "part"] "law" (defScope s_law) f cdv A outer s H E).xe) : DSs (cxOf (L2.CX P w) P w K mg base ["script", "c", "n", "one", "k", "power", "turn", "p", "q", "bent", "many", "value", "key", "part"] "law" (defScope s_law) f cdv A outer s H E) (WE0 E) ((defBody s_law).drop 1) b_law :=
    (dss_cons (ds_set (i := 2) sc_law.nd (d_bin o_add d_int (d_cal G__law_take hr (by decide) tk (by rfl) (da_cons (dv 1) (da_cons d_int da_nil)))))
    (dss_cons (ds_par (i := 7) (j := 8) rfl sc_law.nd (da_cons (d_cal G__law_polynomial hr (by decide) tk (by rfl) (da_cons (dv 1) (da_cons (dv 2) (da_cons d_int (da_cons d_int da_nil))))) (da_cons (d_cal G__law_polynomial hr (by decide) tk (by rfl) (da_cons (dv 1) (da_cons (dv 2) (da_cons d_int (da_cons d_int da_nil))))) da_nil)))
    (dss_cons (ds_if (dt_cmp (o_eq (un64 hr)) (d_cal G__law_take hr (by decide) tk (by rfl) (da_cons (dv 1) (da_cons d_int da_nil))) d_int (nomark _)) (dss_one (ds_set (i := 8) sc_law.nd (dv 7))) dss_nil)
    (dss_cons (ds_if (dt_w (dw_or (dt_cmp (o_ne (un64 hr)) (d_callB (c_repr hgd (un64 hr)) (by rfl) B.repr bt_repr (da_cons (d_cal G_added hr (by decide) tk (by rfl) (da_cons (dv 7) (da_cons (dv 8) da_nil))) da_nil)) (d_callB (c_repr hgd (un64 hr)) (by rfl) B.repr bt_repr (da_cons (d_cal G__law_sum hr (by decide) tk (by rfl) (da_cons (dv 7) (da_cons (dv 8) (da_cons (d_tup (da_cons d_int (da_cons d_int da_nil))) da_nil)))) da_nil)) (nomark _)) (dw_or1 (dt_cmp (o_ne (un64 hr)) (d_callB (c_repr hgd (un64 hr)) (by rfl) B.repr bt_repr (da_cons (d_cal G_less hr (by decide) tk (by rfl) (da_cons (dv 7) (da_cons (dv 8) da_nil))) da_nil)) (d_callB (c_repr hgd (un64 hr)) (by rfl) B.repr bt_repr (da_cons (d_cal G__law_sum hr (by decide) tk (by rfl) (da_cons (dv 7) (da_cons (dv 8) (da_cons (d_tup (da_cons (d_bin o_sub d_int d_int) (da_cons d_int da_nil))) da_nil)))) da_nil)) (nomark _))))) (dss_one (ds_ret d_bl)) dss_nil)
    (dss_cons (ds_if (dt_cmp (o_ne (un64 hr)) (d_callB (c_repr hgd (un64 hr)) (by rfl) B.repr bt_repr (da_cons (d_cal G_multiplied hr (by decide) tk (by rfl) (da_cons (dv 7) (da_cons (dv 8) da_nil))) da_nil)) (d_callB (c_repr hgd (un64 hr)) (by rfl) B.repr bt_repr (da_cons (d_cal G__law_product hr (by decide) tk (by rfl) (da_cons (dv 7) (da_cons (dv 8) da_nil))) da_nil)) (nomark _)) (dss_one (ds_ret d_bl)) dss_nil)
    (dss_cons (ds_set (i := 3) sc_law.nd (d_if (dt_cmp (o_gt) (d_cal G__law_take hr (by decide) tk (by rfl) (da_cons (dv 1) (da_cons d_int da_nil))) d_int (nomark _)) (d_cal G__law_fraction hr (by decide) tk (by rfl) (da_cons (dv 1) da_nil)) (d_tup (da_cons d_int (da_cons d_int da_nil)))))
    (dss_cons (ds_if (dt_cmp (o_ne (un64 hr)) (d_callB (c_repr hgd (un64 hr)) (by rfl) B.repr bt_repr (da_cons (d_cal G_scaled hr (by decide) tk (by rfl) (da_cons (dv 7) (da_cons (dv 3) da_nil))) da_nil)) (d_callB (c_repr hgd (un64 hr)) (by rfl) B.repr bt_repr (da_cons (d_cal G__law_sum hr (by decide) tk (by rfl) (da_cons (d_tup da_nil) (da_cons (dv 7) (da_cons (dv 3) da_nil)))) da_nil)) (nomark _)) (dss_one (ds_ret d_bl)) dss_nil)
    (dss_cons (ds_set (i := 4) sc_law.nd (d_bin o_add d_int (d_cal G__law_take hr (by decide) tk (by rfl) (da_cons (dv 1) (da_cons d_int da_nil)))))
    (dss_cons (ds_set (i := 5) sc_law.nd (dv 7))
    (dss_cons (ds_for (vs := [6]) hp rfl (di_rng1 (by rfl) B.range (da_cons (d_bin o_sub (dv 4) d_int) da_nil)) (dg_name (i := 6) sc_law.nd) (dss_one (ds_set (i := 5) sc_law.nd (d_cal G__law_product hr (by decide) tk (by rfl) (da_cons (dv 5) (da_cons (dv 7) da_nil))))))
    (dss_cons (ds_if (dt_cmp (o_ne (un64 hr)) (d_callB (c_repr hgd (un64 hr)) (by rfl) B.repr bt_repr (da_cons (d_cal G_raised hr (by decide) tk (by rfl) (da_cons (dv 7) (da_cons (dv 4) da_nil))) da_nil)) (d_callB (c_repr hgd (un64 hr)) (by rfl) B.repr bt_repr (da_cons (dv 5) da_nil)) (nomark _)) (dss_one (ds_ret d_bl)) dss_nil)
    (dss_cons (ds_if (dt_cmp (o_ne (un64 hr)) (d_callB (c_repr hgd (un64 hr)) (by rfl) B.repr bt_repr (da_cons (d_cal G_degree hr (by decide) tk (by rfl) (da_cons (dv 7) da_nil)) da_nil)) (d_callB (c_repr hgd (un64 hr)) (by rfl) B.repr bt_repr (da_cons (d_callL (c_maxL rfl) (by rfl) B.max bt_max (dl_cat (dl_disp (da_cons (d_bin o_sub d_int d_int) da_nil)) (dl_comp (own := [("key", 12), ("part", 13)]) (vs := [12, 13]) rfl sc_law.nd (di_tup (dv 7)) (blkOk_by (N := ["script", "c", "n", "one", "k", "power", "turn", "p", "q", "bent", "many", "value", "key", "part"]) (sc := defScope s_law) (own := [("key", 12), ("part", 13)]) (by decide +kernel)) (fun _ _ _ _ _ => (dg_tup (n := 2) rfl (dgs_cons (dg_name (i := 12) sc_law.nd) (dgs_cons (dg_name (i := 13) sc_law.nd) dgs_nil)))) (fun _ _ _ _ _ => dts_nil) (fun _ _ _ _ _ => (d_callB (c_sum rfl) (by rfl) B.sum bt_sum (da_cons (dv 12) da_nil)))))) da_nil)) (nomark _)) (dss_one (ds_ret d_bl)) dss_nil)
    (dss_cons (ds_for (vs := [6]) hp rfl (di_rng1 (by rfl) B.range (da_cons d_int da_nil)) (dg_name (i := 6) sc_law.nd) (dss_cons (ds_set (i := 9) sc_law.nd (d_cal G__law_bent hr (by decide) tk (by rfl) (da_cons (dv 1) (da_cons (dv 7) (da_cons (dv 2) da_nil)))))
    (dss_cons (ds_set (i := 10) sc_law.nd (d_bin o_add (dv 2) (d_bin o_div (d_cal G__law_take hr (by decide) tk (by rfl) (da_cons (dv 1) (da_cons d_int da_nil))) d_int)))
    (dss_cons (ds_if (dt_cmp (o_ne (un64 hr)) (d_callB (c_repr hgd (un64 hr)) (by rfl) B.repr bt_repr (da_cons (d_cal G_is_polynomial hr (by decide) tk (by rfl) (da_cons (dv 9) (da_cons (dv 10) da_nil))) da_nil)) (d_callB (c_repr hgd (un64 hr)) (by rfl) B.repr bt_repr (da_cons (d_cal G__law_is_polynomial hr (by decide) tk (by rfl) (da_cons (dv 9) (da_cons (dv 10) da_nil))) da_nil)) (nomark _)) (dss_one (ds_ret d_bl)) dss_nil)
    (dss_cons (ds_set (i := 11) sc_law.nd (d_ixL (dl_disp (da_cons (d_tup (da_cons (dv 10) (da_cons (d_tup (da_cons (dv 9) (da_cons (dv 8) da_nil))) da_nil))) (da_cons (d_tup (da_cons (dv 10) (da_cons (d_tup (da_cons (dv 9) da_nil)) da_nil))) (da_cons (d_tup (da_cons (dv 10) (da_cons (dv 9) da_nil))) (da_cons (dv 9) (da_cons (d_tup (da_cons (dv 10) da_nil)) (da_cons (d_tup (da_cons (dv 10) (da_cons (d_tup (da_cons (dv 8) (da_cons (dv 7) da_nil))) (da_cons (d_tup da_nil) da_nil)))) da_nil))))))) (d_cal G__law_take hr (by decide) tk (by rfl) (da_cons (dv 1) (da_cons d_int da_nil)))))
    (dss_cons (ds_if (dt_cmp (o_eq (un64 hr)) (d_cal G__law_take hr (by decide) tk (by rfl) (da_cons (dv 1) (da_cons d_int da_nil))) d_int (nomark _)) (dss_one (ds_set (i := 11) sc_law.nd (d_tup (da_cons (d_ixL (dl_disp (da_cons d_int (da_cons d_bl (da_cons d_str (da_cons (d_bin o_sub d_int d_int) da_nil))))) (d_cal G__law_take hr (by decide) tk (by rfl) (da_cons (dv 1) (da_cons d_int da_nil)))) (da_cons (d_tup (da_cons (dv 7) da_nil)) da_nil))))) dss_nil)
    (dss_one (ds_if (dt_cmp (o_ne (un64 hr)) (d_callB (c_repr hgd (un64 hr)) (by rfl) B.repr bt_repr (da_cons (d_cal G_is_problem hr (by decide) tk (by rfl) (da_cons (dv 11) da_nil)) da_nil)) (d_callB (c_repr hgd (un64 hr)) (by rfl) B.repr bt_repr (da_cons (d_cal G__law_is_problem hr (by decide) tk (by rfl) (da_cons (dv 11) da_nil)) da_nil)) (nomark _)) (dss_one (ds_ret d_bl)) dss_nil))))))))
    (dss_one (ds_ret (d_and (d_cmp (o_eq (un64 hr)) (d_callB (c_repr hgd (un64 hr)) (by rfl) B.repr bt_repr (da_cons (d_cal G_is_polynomial hr (by decide) tk (by rfl) (da_cons (dv 7) (da_cons (dv 2) da_nil))) da_nil)) d_str (nomark _)) (d_one (d_cmp (o_eq (un64 hr)) (d_callB (c_repr hgd (un64 hr)) (by rfl) B.repr bt_repr (da_cons (d_cal G_is_problem hr (by decide) tk (by rfl) (da_cons (d_tup (da_cons (dv 2) (da_cons (d_tup (da_cons (dv 7) (da_cons (dv 8) da_nil))) da_nil))) da_nil)) da_nil)) d_str (nomark _)))))))))))))))))))
end
end DV
/-! L40a: _law_start, the law's head. -/
namespace DV
open PySem PySem.Spec PyProof.Rows L2
abbrev s_start : Stmt := topS 26
theorem sc_start : FnScope ["script", "cell"] ["script"] (defScope s_start) := ⟨rfl, rfl, rfl, by decide +kernel, rfl, by decide +kernel, by decide +kernel⟩
/-- the law's own state: two new lists -/
def spStart (K : PySem.W.Frag) : Sp := fun vs H Q _ => ∃ (a : Addr) (ns : List Int), vs = [.ref a] ∧ SqL K H a (ns.map V.int) ∧ ns.length ≤ 63 ∧
  ∀ H' p0 p1, p0 ≠ p1 → Same H H' → H' p0 = some (.lst (ns.map V.int)) → H' p1 = some (.lst [.ref p0, .int 0, .int 0, .int 0, .int 20]) → Q (.ref p1) H'
theorem ok_start {P : Program} {w : World} {K : PySem.W.Frag} {mg : Str → Option Value} {base : Heap} {f : Addr} {fd : FuncData} (F : Fun K "_law_start" "_law_start" s_start f fd) (B : Bt mg) : FnOk P w K mg base (L2.CX P w) 1 f fd ["script"] (spStart K) := by
  refine F.okX sc_start (fun vs H Q E h => ?_) (fun cdv A outer s H vs Q E hr h => ?_)
  · obtain ⟨a, ns, rfl, _⟩ := h
    rfl
  · obtain ⟨a, ns, rfl, hS, hl, k⟩ := h
    refine ⟨_, pss_one (ps_ret (pe_lst (pa_cons (pe_lc (own := [("cell", 1)]) (g := gName 1) (tt := tYes) rfl sc_start.nd (pi_list (pe_slice sl_list (pv 0) po_none (po_some pe_int))) (blkOk_by (N := ["script", "cell"]) (sc := defScope s_start) (own := [("cell", 1)]) (by decide +kernel))
      (fun _ _ _ _ _ => pg_name (i := 1) sc_start.nd rfl (.inl rfl)) (fun _ _ _ _ _ => pts_nil) (fun _ _ _ _ _ => pe_callTy call_int1 (by rfl) B.int bt_int (pa_cons (pv 1) pa_nil)))
      (pa_cons pe_int (pa_cons pe_int (pa_cons pe_int (pa_cons pe_int pa_nil))))))), ?_⟩
    -- script[:63]
    refine ⟨.ref a, rfl, 63, rfl, a, ns.map V.int, rfl, hS, fun c nc => ⟨c, rfl, ⟨_, .inl (.inl upd_same)⟩, fun D nD => ?_⟩⟩
    have hcut : cutV (ns.map V.int) none (some 63) = ns.map V.int := by
      unfold cutV
      rw [HT.sIx_none, show HT.sIx (ns.map V.int).length (ns.map V.int).length (some 63) = min 63 (ns.map V.int).length from HT.sIx_nat _ _ 63, List.drop_zero]
      rw [List.length_map, Nat.min_eq_right hl]
      exact List.take_of_length_le (by rw [List.length_map]; omega)
    rw [hcut] at nD ⊢
    have ncD : c ≠ D := fun e => by rw [e, upd_same] at nD; cases nD
    have nHD : H D = none := by rw [upd_ne ncD.symm] at nD; exact nD
    refine lc_list (xs := ns.map V.int) (fun i H' => Same H H' ∧ H' c = some (.lst (ns.map V.int)) ∧ H' D = some (.lst ((ns.map V.int).take i))) ⟨fun b o e => ?_, ?_, ?_⟩ (fun i H' _ h => .inl (.inl h.2.1)) (fun i x H' hi hP => ?_) (fun H' hP => ?_)
    · rw [upd_ne (ne_of_none e nHD), upd_ne (ne_of_none e nc)]; exact e
    · rw [upd_ne ncD, upd_same]
    · rw [upd_same]; rfl
    · obtain ⟨h1, h2, h3⟩ := hP
      obtain ⟨n, rfl⟩ : ∃ n, x = V.int n := by
        rw [List.getElem?_map] at hi
        cases hn : ns[i]? with
        | none => rw [hn] at hi; cases hi
        | some n => rw [hn] at hi; exact ⟨n, (Option.some.inj hi).symm⟩
      refine ⟨rfl, .int n, rfl, .inl ⟨n, rfl, _, h3, ?_, fun b o e => ?_, ?_, ?_⟩⟩
      · rw [List.length_take, List.length_map]; exact Nat.lt_of_le_of_lt (Nat.min_le_right _ _) (Nat.lt_of_le_of_lt hl (by decide))
      · rw [upd_ne (ne_of_none e nHD)]; exact h1 b o e
      · rw [upd_ne ncD]; exact h2
      · rw [upd_same, List.take_add_one, hi]; rfl
    · obtain ⟨h1, h2, h3⟩ := hP
      rw [List.take_of_length_le (Nat.le_refl _)] at h3
      refine ⟨(show 5 ≤ sizeLine by decide), fun p np => ?_⟩
      have npD : D ≠ p := ne_of_none h3 np
      refine k _ D p npD (fun b o e => ?_) (by rw [upd_ne npD]; exact h3) upd_same
      rw [upd_ne (ne_of_none (h1 b o e) np)]; exact h1 b o e
theorem RVs_ints {K : PySem.W.Frag} {r : List Addr} {H : Hp} : ∀ ns : List Int, RVs K r H (ns.map D.int) (ns.map V.int)
  | [] => .nil
  | n :: ns => .cons (.int n) (RVs_ints ns)
theorem state_two {K : PySem.W.Frag} {H : Hp} {p0 p1 : Addr} {ns : List Int} {t : L2.St} {n : Nat} (ne : p0 ≠ p1) (h0 : H p0 = some (.lst (ns.map V.int))) (h1 : H p1 = some (.lst [.ref p0, .int 0, .int 0, .int 0, .int 20])) (hl : t.length = n + 2) (ht : t[1]? = some (some (.ref p1))) :
    RA K [p0, p1] H t (none :: some (.loc 1) :: List.replicate n none) [.lst (ns.map .int), .lst [.loc 0, .int 0, .int 0, .int 0, .int 20]] := by
  refine ⟨⟨rfl, by simp [ne], fun k u e => ?_⟩, by simp [hl], fun i d e => ?_⟩
  · match k, e with
    | 0, e => cases e; exact ⟨p0, rfl, _, h0, RVs_ints ns⟩
    | 1, e => cases e; exact ⟨p1, rfl, _, h1, .cons (.loc rfl) (.cons (.int 0) (.cons (.int 0) (.cons (.int 0) (.cons (.int 20) .nil))))⟩
    | k + 2, e => simp at e
  · match i, e with
    | 0, e => cases e
    | 1, e => cases e; exact ⟨_, ht, .loc rfl⟩
    | k + 2, e =>
      simp only [List.getElem?_cons_succ, List.getElem?_replicate] at e
      split at e <;> cases e
end DV
/-! P1: ratios, plain. -/
namespace DV
open PySem L2
/-- a fraction as the program has it -/
def frD (x : Rat) : D := .tup [.int x.num, .int (x.den : Int)]
def fr? (d : D) (x : Rat) : Prop := d.seq? = some [.int x.num, .int (x.den : Int)]
theorem fr_frD (x : Rat) : fr? (frD x) x := rfl
theorem gcd_loop (S : Sto) : ∀ (k a b : Nat), b < k →
    whileD (tBin (oBn cEq) (eVar 1) (eC (.int 0))) (sPar 0 1 (aCons (eVar 1) (aCons (eBin oMod (eVar 0) (eVar 1)) aNil))) k [some (.int a), some (.int b)] S = .nx [some (.int (Nat.gcd a b : Nat)), some (.int 0)] S
  | 0, a, b, h => by omega
  | k + 1, a, b, h => by
    unfold whileD
    by_cases hb : b = 0
    · subst hb; simp
    · have h2 : 0 < b := by omega
      have e : ((a : Int) % (b : Int)) = ((a % b : Nat) : Int) := by simp
      have ih := gcd_loop S k b (a % b) (by have := Nat.mod_lt a (show b > 0 by omega); omega)
      simp [hb, h2]
      rw [show (↑a % ↑b : Int) = ((a % b : Nat) : Int) by simp, ih, Nat.gcd_comm a b, Nat.gcd_rec b a, Nat.gcd_comm]
theorem T_common_divisor_ok (a b : Int) (S : Sto) : T_common_divisor [.int a, .int b] S = .ok (.int (Int.gcd a b : Nat)) S := by
  have h := gcd_loop S (b.natAbs + 2) a.natAbs b.natAbs (by omega)
  have e1 : ∀ i : Int, (if i < 0 then -i else i) = (i.natAbs : Int) := fun i => by split <;> omega
  simp [T_common_divisor, b_common_divisor, fuI, e1, h, Int.gcd]
theorem lg {n k : Nat} (h : n < 2 ^ (k + 1)) : n.log2 ≤ k := by
  by_cases h0 : n = 0
  · subst h0; simp
  · have := (Nat.log2_lt h0).mpr h; omega
/-- n / m in lowest terms -/
theorem T_ratio_ok (n : Int) (m : Nat) (S : Sto) (hm : 0 < m) (hb : m < 2 ^ 9000) : T_ratio [.int n, .int m] S = .ok (frD (mkRat n m)) S := by
  have hg : 0 < Int.gcd n m := Int.gcd_pos_of_ne_zero_right _ (by omega)
  have hle : Int.gcd n m ≤ m := Nat.le_of_dvd hm (by simpa using Int.gcd_dvd_natAbs_right n m)
  have hl : (Int.gcd n m).log2 < 9000 := Nat.lt_of_le_of_lt (lg (k := 8999) (by omega)) (by decide)
  have e1 : (mkRat n m).num = n / (Int.gcd n m : Int) := by rw [Rat.num_mkRat, if_neg (by omega)]; simp [Int.gcd, Nat.gcd_comm]
  have e2 : ((mkRat n m).den : Int) = (m : Int) / (Int.gcd n m : Int) := by rw [Rat.den_mkRat, if_neg (by omega)]; simp [Int.gcd, Nat.gcd_comm]
  by_cases h1 : m = 1
  · subst h1
    have hg1 : Int.gcd n 1 = 1 := by simp
    simp at e1 e2
    simp [T_ratio, b_ratio, frD, e1, e2]
  · have h1' : ¬ ((m : Int) = 1) := by omega
    have h2' : ¬ ((m : Int) < 0) := by omega
    simp [T_ratio, b_ratio, frD, h1, h1', h2', T_common_divisor_ok, e1, e2, hg, hl]
/-- small enough for all that is done here -/
def Sm (x : Rat) : Prop := x.num.natAbs < 2 ^ 400 ∧ x.den < 2 ^ 400
theorem mul_lt_pow {a b i j : Nat} (ha : a < 2 ^ i) (hb : b < 2 ^ j) : a * b < 2 ^ (i + j) := by
  rw [Nat.pow_add]
  exact Nat.mul_lt_mul_of_lt_of_lt ha hb
theorem fr_ix0 {d : D} {x : Rat} {S : Sto} (h : fr? d x) : ixD d (.int 0) S = some (.int x.num) := by rw [ix_seq h]; rfl
theorem fr_ix1 {d : D} {x : Rat} {S : Sto} (h : fr? d x) : ixD d (.int 1) S = some (.int x.den) := by rw [ix_seq h]; rfl
theorem T_plus_ok {d e : D} {x y : Rat} (S : Sto) (hd : fr? d x) (he : fr? e y) (hx : Sm x) (hy : Sm y) : T_plus [d, e] S = .ok (frD (x + y)) S := by
  obtain ⟨x1, x2⟩ := hx
  obtain ⟨y1, y2⟩ := hy
  have a1 := lg (k := 399) x1
  have a2 := lg (k := 399) x2
  have a3 := lg (k := 399) y1
  have a4 := lg (k := 399) y2
  have b1 : x.num.natAbs.log2 + y.den.log2 < 1000000 := by omega
  have b2 : y.num.natAbs.log2 + x.den.log2 < 1000000 := by omega
  have b3 : x.den.log2 + y.den.log2 < 1000000 := by omega
  have hr := T_ratio_ok (x.num * y.den + y.num * x.den) (x.den * y.den) S (Nat.mul_pos x.den_pos y.den_pos) (Nat.lt_of_lt_of_le (mul_lt_pow x2 y2) (Nat.pow_le_pow_right (by decide) (by decide)))
  rw [← Rat.add_def'] at hr
  simp only [Int.natCast_mul] at hr
  by_cases h1 : x.den = 1 ∧ y.den = 1
  · obtain ⟨h1, h2⟩ := h1
    have e1 : (x + y).num = x.num + y.num := by rw [Rat.add_def', h1, h2]; simp [Rat.num_mkRat]
    have e2 : (x + y).den = 1 := by rw [Rat.add_def', h1, h2]; simp [Rat.den_mkRat]
    simp [T_plus, b_plus, fr_ix0 hd, fr_ix1 hd, fr_ix0 he, fr_ix1 he, h1, h2, e1, e2, frD]
  · have key : (if (x.den : Int) = (y.den : Int) then (some (D.bl (decide ((y.den : Int) = 1)))) else some (D.bl false)) = some (D.bl false) := by
      by_cases h : (x.den : Int) = (y.den : Int)
      · rw [if_pos h, decide_eq_false (by omega)]
      · rw [if_neg h]
    by_cases h : x.den = y.den
    · have h2 : ¬ y.den = 1 := fun z => h1 ⟨by omega, z⟩
      rw [h] at b2 b3 hr
      have h3 : ¬ ((y.den : Int) = 1) := by omega
      simp [T_plus, b_plus, fr_ix0 hd, fr_ix1 hd, fr_ix0 he, fr_ix1 he, h, h2, h3, b1, b2, b3, hr]
    · have h' : ¬ ((x.den : Int) = (y.den : Int)) := by omega
      simp [T_plus, b_plus, fr_ix0 hd, fr_ix1 hd, fr_ix0 he, fr_ix1 he, h', h, b1, b2, b3, hr]
theorem T_times_ok {d e : D} {x y : Rat} (S : Sto) (hd : fr? d x) (he : fr? e y) (hx : Sm x) (hy : Sm y) : T_times [d, e] S = .ok (frD (x * y)) S := by
  obtain ⟨x1, x2⟩ := hx
  obtain ⟨y1, y2⟩ := hy
  have a1 := lg (k := 399) x1
  have a2 := lg (k := 399) x2
  have a3 := lg (k := 399) y1
  have a4 := lg (k := 399) y2
  have b1 : x.num.natAbs.log2 + y.num.natAbs.log2 < 1000000 := by omega
  have b3 : x.den.log2 + y.den.log2 < 1000000 := by omega
  have hr := T_ratio_ok (x.num * y.num) (x.den * y.den) S (Nat.mul_pos x.den_pos y.den_pos) (Nat.lt_of_lt_of_le (mul_lt_pow x2 y2) (Nat.pow_le_pow_right (by decide) (by decide)))
  rw [← Rat.mul_def'] at hr
  simp only [Int.natCast_mul] at hr
  simp [T_times, b_times, fr_ix0 hd, fr_ix1 hd, fr_ix0 he, fr_ix1 he, b1, b3, hr]
/-- the rule for a loop over items -/
theorem forD_rule {g : GvT} {f : EvS} (I : List D → AEnv → Sto → Prop) (step : ∀ d ds env S, I (d :: ds) env S → ∃ q env' S', g d env S = some q ∧ f q.1 q.2 = .nx env' S' ∧ I ds env' S') :
    ∀ ds env S, I ds env S → ∃ env' S', forD g f ds env S = .nx env' S' ∧ I [] env' S'
  | [], env, S, h => ⟨env, S, rfl, h⟩
  | d :: ds, env, S, h => by
    obtain ⟨q, e1, S1, h1, h2, h3⟩ := step d ds env S h
    obtain ⟨e2, S2, h4, h5⟩ := forD_rule I step ds e1 S1 h3
    exact ⟨e2, S2, by unfold forD; rw [h1]; simp only; rw [h2]; exact h4, h5⟩
abbrev ldStep : EvS := sSeq (sIf (tBin (oBl cEq) (eVar 1) (eC (.int 0))) (sRet (eCB gAbs (aCons (eVar 0) aNil))) sNil) (sPar 0 1 (aCons (eVar 1) (aCons (eBin oMod (eVar 0) (eVar 1)) aNil)))
theorem ld_end (a : Int) (t : D) (o : Option D) (ds : List D) (S : Sto) : forD (gN 2) ldStep (t :: ds) [some (.int a), some (.int (0 : Nat)), o] S = .ret (.int (a.natAbs : Int)) S := by
  have e1 : (if a < 0 then -a else a) = (a.natAbs : Int) := by split <;> omega
  simp [forD, e1]
theorem ld_next (a : Int) (b : Nat) (hb : b ≠ 0) (t : D) (o : Option D) (ds : List D) (S : Sto) : forD (gN 2) ldStep (t :: ds) [some (.int a), some (.int b), o] S = forD (gN 2) ldStep ds [some (.int b), some (.int ((a % b).toNat : Nat)), some t] S := by
  have h0 : ¬ ((b : Int) = 0) := by omega
  have h1 : 0 < b := by omega
  have h2 : (0 : Int) ≤ a % b := Int.emod_nonneg _ h0
  rw [show (((a % b).toNat : Nat) : Int) = a % b by omega]
  conv => lhs; unfold forD
  simp [hb, h1]
theorem ld_loop (S : Sto) : ∀ (j : Nat) (ds : List D) (a b : Nat) (o : Option D), b < 2 ^ j → 2 * j + 1 ≤ ds.length → forD (gN 2) ldStep ds [some (.int a), some (.int b), o] S = .ret (.int (Nat.gcd a b : Nat)) S
  | 0, t :: ds, a, b, o, hb, hl => by
    have : b = 0 := by simpa using hb
    subst this
    rw [ld_end]; simp
  | j + 1, [], a, b, o, hb, hl => by simp at hl
  | j + 1, [t], a, b, o, hb, hl => by simp at hl
  | j + 1, [t, t2], a, b, o, hb, hl => by simp at hl; omega
  | j + 1, t :: t2 :: t3 :: ds, a, b, o, hb, hl => by
    by_cases h0 : b = 0
    · subst h0; rw [ld_end]; simp
    · rw [ld_next _ _ h0]
      have e1 : ((a : Int) % (b : Int)).toNat = a % b := by rw [← Int.natCast_emod, Int.toNat_natCast]
      rw [e1]
      have hlt := Nat.mod_lt a (show b > 0 by omega)
      by_cases h1 : a % b = 0
      · rw [h1, ld_end, Nat.gcd_comm, Nat.gcd_rec, h1]; simp
      · rw [ld_next _ _ h1]
        have e2 : ((b : Int) % ((a % b : Nat) : Int)).toNat = b % (a % b) := by rw [← Int.natCast_emod, Int.toNat_natCast]
        rw [e2]
        have h2 : b % (a % b) < 2 ^ j := by
          have h3 := Nat.mod_lt b (show a % b > 0 by omega)
          have h4 : b % (a % b) ≤ b - a % b := by
            have h5 := Nat.div_add_mod b (a % b)
            have h6 : 1 ≤ b / (a % b) := (Nat.one_le_div_iff (by omega)).mpr (by omega)
            have h7 := Nat.mul_le_mul_left (a % b) h6
            omega
          have h8 : 2 ^ (j + 1) = 2 * 2 ^ j := by rw [Nat.pow_succ]; omega
          omega
        rw [ld_loop S j (t3 :: ds) (a % b) (b % (a % b)) _ h2 (by simp at hl ⊢; omega)]
        rw [Nat.gcd_comm a b, Nat.gcd_rec b a, Nat.gcd_comm (a % b) b, Nat.gcd_comm (a % b) (b % (a % b)), ← Nat.gcd_rec]
        rw [Nat.gcd_comm]
theorem rng_len (lo : Int) (n : Nat) : (rngD lo n).length = n := by simp [rngD]
theorem T_law_divisor_ok (a : Int) (b : Nat) (S : Sto) (hb : b < 2 ^ 1500) : T__law_divisor [.int a, .int b] S = .ok (.int (Int.gcd a b : Nat)) S := by
  have key : ∀ o, forD (gN 2) ldStep (rngD 0 4000) [some (.int a), some (.int b), o] S = .ret (.int (Int.gcd a b : Nat)) S := by
    intro o
    have hl := rng_len 0 4000
    generalize rngD 0 4000 = L at hl
    cases L with
    | nil => simp at hl
    | cons t L =>
      by_cases h0 : b = 0
      · subst h0; rw [ld_end]; simp [Int.gcd]
      · rw [ld_next _ _ h0]
        have h2 : (0 : Int) ≤ a % b := Int.emod_nonneg _ (by omega)
        have h3 : (a % b : Int) < b := Int.emod_lt_of_pos _ (by omega)
        rw [ld_loop S 1500 L b _ _ (by omega) (by simp at hl; omega)]
        have e : Nat.gcd b (a % b).toNat = Int.gcd a b := by
          have h4 : Int.gcd (b * (a / b) + a % b) b = Int.gcd (a % b) b := by rw [Int.add_comm]; exact Int.gcd_add_mul_left_left b (a % b) (a / b)
          rw [Int.mul_ediv_add_emod] at h4
          rw [h4]
          show _ = Nat.gcd (a % (b : Int)).natAbs b
          rw [Nat.gcd_comm, show (a % (b : Int)).natAbs = (a % b).toNat by omega]
        rw [e]
  have hb : rngB 4000 = true := rfl
  simp [T__law_divisor, b__law_divisor, hb]
  rw [key]
theorem T_law_ratio_ok (n : Int) (m : Nat) (S : Sto) (hm : 0 < m) (hb : m < 2 ^ 1500) : T__law_ratio [.int n, .int m] S = .ok (frD (mkRat n m)) S := by
  have hg : 0 < Int.gcd n m := Int.gcd_pos_of_ne_zero_right _ (by omega)
  have hle : Int.gcd n m ≤ m := Nat.le_of_dvd hm (by simpa using Int.gcd_dvd_natAbs_right n m)
  have hl : (Int.gcd n m).log2 < 9000 := Nat.lt_of_le_of_lt (lg (k := 1499) (by omega)) (by decide)
  have e1 : (mkRat n m).num = n / (Int.gcd n m : Int) := by rw [Rat.num_mkRat, if_neg (by omega)]; simp [Int.gcd, Nat.gcd_comm]
  have e2 : ((mkRat n m).den : Int) = (m : Int) / (Int.gcd n m : Int) := by rw [Rat.den_mkRat, if_neg (by omega)]; simp [Int.gcd, Nat.gcd_comm]
  simp [T__law_ratio, b__law_ratio, frD, T_law_divisor_ok _ _ _ hb, hm, e1, e2, hg, hl]
theorem T_law_plus_ok {d e : D} {x y : Rat} (S : Sto) (hd : fr? d x) (he : fr? e y) (hx : Sm x) (hy : Sm y) : T__law_plus [d, e] S = .ok (frD (x + y)) S := by
  obtain ⟨x1, x2⟩ := hx
  obtain ⟨y1, y2⟩ := hy
  have a1 := lg (k := 399) x1
  have a2 := lg (k := 399) x2
  have a3 := lg (k := 399) y1
  have a4 := lg (k := 399) y2
  have b1 : x.num.natAbs.log2 + y.den.log2 < 1000000 := by omega
  have b2 : y.num.natAbs.log2 + x.den.log2 < 1000000 := by omega
  have b3 : x.den.log2 + y.den.log2 < 1000000 := by omega
  have hr := T_law_ratio_ok (x.num * y.den + y.num * x.den) (x.den * y.den) S (Nat.mul_pos x.den_pos y.den_pos) (Nat.lt_of_lt_of_le (mul_lt_pow x2 y2) (Nat.pow_le_pow_right (by decide) (by decide)))
  rw [← Rat.add_def'] at hr
  simp only [Int.natCast_mul] at hr
  simp [T__law_plus, b__law_plus, fr_ix0 hd, fr_ix1 hd, fr_ix0 he, fr_ix1 he, b1, b2, b3, hr]
theorem T_law_times_ok {d e : D} {x y : Rat} (S : Sto) (hd : fr? d x) (he : fr? e y) (hx : Sm x) (hy : Sm y) : T__law_times [d, e] S = .ok (frD (x * y)) S := by
  obtain ⟨x1, x2⟩ := hx
  obtain ⟨y1, y2⟩ := hy
  have a1 := lg (k := 399) x1
  have a2 := lg (k := 399) x2
  have a3 := lg (k := 399) y1
  have a4 := lg (k := 399) y2
  have b1 : x.num.natAbs.log2 + y.num.natAbs.log2 < 1000000 := by omega
  have b3 : x.den.log2 + y.den.log2 < 1000000 := by omega
  have hr := T_law_ratio_ok (x.num * y.num) (x.den * y.den) S (Nat.mul_pos x.den_pos y.den_pos) (Nat.lt_of_lt_of_le (mul_lt_pow x2 y2) (Nat.pow_le_pow_right (by decide) (by decide)))
  rw [← Rat.mul_def'] at hr
  simp only [Int.natCast_mul] at hr
  simp [T__law_times, b__law_times, fr_ix0 hd, fr_ix1 hd, fr_ix0 he, fr_ix1 he, b1, b3, hr]
end DV
/-! P2: tables and what is told of them. -/
namespace DV
open PySem L2
abbrev Mon := List Int
abbrev Tb := List (Mon × Rat)
def kI (m : Mon) : List Key := m.map Sum.inl
def mD (m : Mon) : D := .tup (m.map .int)
def tmD (a : Mon × Rat) : D := .tup [mD a.1, frD a.2]
def polyL (L : Tb) : List D := L.map tmD
def encT (T : Tb) : List (List Key × D) := T.map fun a => (kI a.1, frD a.2)
theorem kI_inj : ∀ {a b : Mon}, kI a = kI b → a = b
  | [], [], _ => rfl
  | [], b :: bs, h => by simp [kI] at h
  | a :: as, [], h => by simp [kI] at h
  | a :: as, b :: bs, h => by
    simp only [kI, List.map_cons, List.cons.injEq, Sum.inl.injEq] at h
    rw [h.1, kI_inj (a := as) (b := bs) h.2]
theorem kI_eq {a b : Mon} : kI a = kI b ↔ a = b := ⟨kI_inj, fun h => by rw [h]⟩
def lk (T : Tb) (m : Mon) : Option Rat := (T.find? fun a => decide (a.1 = m)).map (·.2)
def cf (T : Tb) (m : Mon) : Rat := (lk T m).getD 0
def pt (T : Tb) (m : Mon) (x : Rat) : Tb := if (T.any fun a => decide (a.1 = m)) = true then T.map fun a => if a.1 = m then (a.1, x) else a else T ++ [(m, x)]
def dp (T : Tb) (m : Mon) : Tb := T.filter fun a => decide (a.1 ≠ m)
def keys (T : Tb) : List Mon := T.map (·.1)
@[simp] theorem keyT_mD (m : Mon) : keyT? (mD m) = some (kI m) := by simp [mD, keyT?, kI]
theorem look_enc (T : Tb) (m : Mon) : lookD (encT T) (kI m) = (lk T m).map frD := by
  unfold lookD lk encT
  rw [List.find?_map]
  have : ((fun kv : List Key × D => decide (kv.1 = kI m)) ∘ fun a : Mon × Rat => (kI a.1, frD a.2)) = fun a => decide (a.1 = m) := by
    funext a; simp [kI_eq]
  rw [this]
  cases T.find? fun a => decide (a.1 = m) <;> rfl
theorem put_enc (T : Tb) (m : Mon) (x : Rat) : putD (encT T) (kI m) (frD x) = encT (pt T m x) := by
  unfold putD pt encT
  have e : ((T.map fun a => (kI a.1, frD a.2)).any fun kv => decide (kv.1 = kI m)) = T.any fun a => decide (a.1 = m) := by
    rw [List.any_map]; congr 1; funext a; simp [kI_eq]
  rw [e]
  split
  · rw [List.map_map, List.map_map]
    congr 1; funext a
    by_cases h : a.1 = m <;> simp [kI_eq, h]
  · simp
theorem drop_enc (T : Tb) (m : Mon) : dropD (encT T) (kI m) = encT (dp T m) := by
  unfold dropD dp encT
  rw [List.filter_map]
  congr 2
  funext a; simp [kI_eq]
theorem cf_nil (m : Mon) : cf [] m = 0 := rfl
theorem cf_cons (a : Mon × Rat) (T : Tb) (m : Mon) : cf (a :: T) m = if a.1 = m then a.2 else cf T m := by
  unfold cf lk
  rw [List.find?_cons]
  by_cases h : a.1 = m <;> simp [h]
theorem cf_not {T : Tb} {m : Mon} (h : m ∉ keys T) : cf T m = 0 := by
  induction T with
  | nil => rfl
  | cons a T ih =>
    simp only [keys, List.map_cons, List.mem_cons, not_or] at h
    rw [cf_cons, if_neg (fun e => h.1 e.symm)]
    exact ih h.2
theorem cf_mem {T : Tb} (nd : (keys T).Nodup) {a : Mon × Rat} (h : a ∈ T) : cf T a.1 = a.2 := by
  induction T with
  | nil => cases h
  | cons b T ih =>
    simp only [keys, List.map_cons, List.nodup_cons] at nd
    rw [cf_cons]
    rcases List.mem_cons.mp h with rfl | h
    · rw [if_pos rfl]
    · rw [if_neg (fun e => nd.1 (by rw [e]; exact List.mem_map_of_mem h))]
      exact ih nd.2 h
theorem cf_append (T U : Tb) (m : Mon) : cf (T ++ U) m = if m ∈ keys T then cf T m else cf U m := by
  induction T with
  | nil => simp [keys]
  | cons a T ih =>
    rw [List.cons_append, cf_cons, cf_cons, ih]
    by_cases h : a.1 = m
    · simp [h, keys]
    · have : m ∈ keys (a :: T) ↔ m ∈ keys T := by
        unfold keys
        rw [List.map_cons, List.mem_cons]
        exact ⟨fun e => e.elim (fun e => absurd e.symm h) id, .inr⟩
      simp only [this, if_neg h]
theorem any_keys {T : Tb} {m : Mon} : (T.any fun a => decide (a.1 = m)) = true ↔ m ∈ keys T := by
  simp [keys]
theorem keys_pt (T : Tb) (m : Mon) (x : Rat) : keys (pt T m x) = if m ∈ keys T then keys T else keys T ++ [m] := by
  unfold pt
  by_cases h : m ∈ keys T
  · rw [if_pos (any_keys.mpr h), if_pos h]
    unfold keys
    rw [List.map_map]
    congr 1; funext a
    show (if a.1 = m then (a.1, x) else a).1 = a.1
    split <;> rfl
  · rw [if_neg (fun e => h (any_keys.mp e)), if_neg h]
    simp [keys]
theorem nd_pt {T : Tb} {m : Mon} {x : Rat} (nd : (keys T).Nodup) : (keys (pt T m x)).Nodup := by
  rw [keys_pt]
  split
  · exact nd
  · rename_i h
    rw [List.nodup_append]
    refine ⟨nd, by simp, ?_⟩
    intro a ha b hb
    simp at hb
    subst hb
    exact fun e => h (by rw [← e]; exact ha)
theorem nd_dp {T : Tb} {m : Mon} (nd : (keys T).Nodup) : (keys (dp T m)).Nodup := nd.sublist (List.Sublist.map _ List.filter_sublist)
theorem cf_pt (T : Tb) (m : Mon) (x : Rat) (k : Mon) : cf (pt T m x) k = if k = m then x else cf T k := by
  unfold pt
  by_cases h : m ∈ keys T
  · rw [if_pos (any_keys.mpr h)]
    induction T with
    | nil => simp [keys] at h
    | cons a T ih =>
      rw [List.map_cons, cf_cons, cf_cons]
      by_cases h1 : a.1 = m
      · rw [if_pos h1]
        by_cases hk : k = m
        · subst hk; simp [h1]
        · have : ¬ (a.1 = k) := fun e => hk (by rw [← e, h1])
          rw [if_neg this, if_neg hk, if_neg this]
          by_cases hm : m ∈ keys T
          · rw [ih hm, if_neg hk]
          · congr 1
            have : T.map (fun a => if a.1 = m then (a.1, x) else a) = T := by
              conv => rhs; rw [← List.map_id T]
              refine List.map_congr_left fun b hb => ?_
              rw [if_neg (fun e => hm (by rw [← e]; exact List.mem_map_of_mem hb))]; rfl
            rw [this]
      · have hm : m ∈ keys T := by
          simp only [keys, List.map_cons, List.mem_cons] at h
          rcases h with h | h
          · exact absurd h.symm h1
          · exact h
        rw [if_neg h1, ih hm]
        by_cases hk : k = m
        · subst hk; simp [h1]
        · simp [hk]
  · rw [if_neg (fun e => h (any_keys.mp e)), cf_append]
    by_cases hk : k = m
    · subst hk; rw [if_neg h, if_pos rfl, cf_cons, if_pos rfl]
    · rw [if_neg hk]
      have e0 : cf [(m, x)] k = 0 := by rw [cf_cons, if_neg (fun e => hk e.symm), cf_nil]
      rw [e0]
      split
      · rfl
      · rename_i h2; exact (cf_not h2).symm
theorem cf_dp (T : Tb) (m : Mon) (k : Mon) : cf (dp T m) k = if k = m then 0 else cf T k := by
  unfold dp
  induction T with
  | nil => simp [cf_nil]
  | cons a T ih =>
    by_cases h : a.1 = m
    · rw [List.filter_cons_of_neg (by simpa using h), ih, cf_cons]
      by_cases hk : k = m
      · simp [hk]
      · rw [if_neg hk, if_neg hk, if_neg (fun e => hk (by rw [← e, h]))]
    · rw [List.filter_cons_of_pos (by simpa using h), cf_cons, ih, cf_cons]
      by_cases hk : k = m
      · subst hk; simp [h]
      · simp [hk]
theorem len_pt (T : Tb) (m : Mon) (x : Rat) : (pt T m x).length ≤ T.length + 1 := by
  unfold pt; split <;> simp
theorem len_dp (T : Tb) (m : Mon) : (dp T m).length ≤ T.length := List.length_filter_le _ _
/-! ### the canonical form -/
structure Canon (L : Tb) : Prop where
  up : L.Pairwise fun a b => a.1 < b.1
  nz : ∀ a ∈ L, a.2 ≠ 0
theorem lex_tri : ∀ a b : Mon, a < b ∨ a = b ∨ b < a
  | [], [] => .inr (.inl rfl)
  | [], b :: bs => .inl (by simp)
  | a :: as, [] => .inr (.inr (by simp))
  | a :: as, b :: bs => by
    rw [List.cons_lt_cons_iff, List.cons_lt_cons_iff]
    rcases lex_tri as bs with h | h | h
    · by_cases e : a = b
      · exact .inl (.inr ⟨e, h⟩)
      · by_cases l : a < b
        · exact .inl (.inl l)
        · exact .inr (.inr (.inl (by omega)))
    · by_cases e : a = b
      · exact .inr (.inl (by rw [e, h]))
      · by_cases l : a < b
        · exact .inl (.inl l)
        · exact .inr (.inr (.inl (by omega)))
    · by_cases e : a = b
      · exact .inr (.inr (.inr ⟨e.symm, h⟩))
      · by_cases l : a < b
        · exact .inl (.inl l)
        · exact .inr (.inr (.inl (by omega)))
theorem lex_irr (a : Mon) : ¬ a < a := List.lt_irrefl a
theorem lex_asy {a b : Mon} (h : a < b) : ¬ b < a := fun h2 => List.lt_irrefl a (List.lt_trans h h2)
theorem Canon.nd {L : Tb} (h : Canon L) : (keys L).Nodup := by
  unfold keys List.Nodup
  rw [List.pairwise_map]
  refine h.up.imp fun {a b} (h : a.1 < b.1) => (?_ : a.1 ≠ b.1)
  exact fun e => lex_irr b.1 (by rw [e] at h; exact h)
theorem Canon.nd' {L : Tb} (h : Canon L) : L.Nodup := by
  refine h.up.imp fun {a b} (h : a.1 < b.1) => (?_ : a ≠ b)
  exact fun e => lex_irr b.1 (by rw [e] at h; exact h)
theorem Canon.mem {L : Tb} (h : Canon L) (a : Mon × Rat) : a ∈ L ↔ cf L a.1 = a.2 ∧ a.2 ≠ 0 := by
  refine ⟨fun m => ⟨cf_mem h.nd m, h.nz a m⟩, fun ⟨e, nz⟩ => ?_⟩
  by_cases k : a.1 ∈ keys L
  · obtain ⟨b, hb, e2⟩ := List.mem_map.mp k
    have : b = a := by
      have e3 := cf_mem h.nd hb
      rw [e2, e] at e3
      exact Prod.ext e2 e3.symm
    rw [← this]; exact hb
  · rw [cf_not k] at e; exact absurd e.symm nz
theorem canon_ext {L L' : Tb} (h : Canon L) (h' : Canon L') (e : ∀ m, cf L m = cf L' m) : L = L' := by
  have p : L.Perm L' := (List.perm_ext_iff_of_nodup h.nd' h'.nd').mpr fun a => by rw [h.mem, h'.mem, e]
  exact List.Perm.eq_of_pairwise (le := fun a b : Mon × Rat => a.1 < b.1) (fun a b _ _ h1 h2 => absurd h2 (lex_asy h1)) h.up h'.up p
end DV
/-! P3: told, _law_told. -/
namespace DV
open PySem L2
theorem compD_map {α : Type} {vs : List Nat} {g : GvT} {q : AEnv → Sto → Res Bool} {te : EvE} {env : AEnv} {S : Sto} (f : α → D) (b : α → Bool) (h : α → D) : ∀ (L : List α) (acc : List D),
    (∀ a ∈ L, ∃ env1, g (f a) (wipeA env vs) S = some (env1, S) ∧ q env1 S = .ok (b a) S ∧ (b a = true → te env1 S = .ok (h a) S)) → acc.length + L.length ≤ LN →
    compD vs g q te env (L.map f) acc S = .ok (acc ++ (L.filter b).map h) S
  | [], acc, _, _ => by simp [compD]
  | a :: L, acc, k, hl => by
    obtain ⟨env1, h1, h2, h3⟩ := k a List.mem_cons_self
    have ih := fun acc => compD_map f b h L acc fun x hx => k x (List.mem_cons_of_mem _ hx)
    rw [List.map_cons]
    unfold compD
    rw [h1]
    simp only [h2, Res.bind0]
    rw [List.length_cons] at hl
    have hLN : LN = 16777216 := rfl
    cases hb : b a with
    | false =>
      rw [if_neg Bool.false_ne_true, ih acc (by omega), List.filter_cons_of_neg (by simp [hb])]
    | true =>
      rw [if_pos rfl]
      simp only [h3 hb]
      rw [if_pos (by omega), ih (acc ++ [h a]) (by simp; omega), List.filter_cons_of_pos (by simp [hb])]
      simp
theorem pys_ints : ∀ m : List Int, pys (m.map D.int) = some (m.map PyData.int)
  | [] => rfl
  | i :: m => by simp [pys, D.py, pys_ints m]
theorem py_mD (m : Mon) : (mD m).py = some (.tuple (m.map .int)) := by simp [mD, D.py, pys_ints]
theorem py_frD (x : Rat) : (frD x).py = some (.tuple [.int x.num, .int x.den]) := by simp [frD, D.py, pys]
theorem py_tmD (a : Mon × Rat) : (tmD a).py = some (.tuple [.tuple (a.1.map .int), .tuple [.int a.2.num, .int a.2.den]]) := by simp [tmD, D.py, pys, py_mD, py_frD]
theorem enc_mD (m : Mon) : encD (mD m) = .tuple (m.map .int) := by simp [encD, py_mD]
theorem enc_tmD (a : Mon × Rat) : encD (tmD a) = .tuple [.tuple (a.1.map .int), .tuple [.int a.2.num, .int a.2.den]] := by simp [encD, py_tmD]
theorem depth_mon (m : Mon) : (PyData.tuple (m.map .int)).depth = 1 := by rw [PyData.depth, PySem.W.depth_ints]
theorem alike_mon (a b : Mon) : PySem.W.alike (.tuple (a.map .int)) (.tuple (b.map .int)) = true := by rw [PySem.W.alike]; exact PySem.W.alike_ints a b
theorem lt_mon (a b : Mon) : PySem.W.dataLt (.tuple (a.map .int)) (.tuple (b.map .int)) = decide (a < b) := PySem.W.dataLt_ints a b
theorem eqv_mon : ∀ a b : Mon, PyData.eqvAll (a.map .int) (b.map .int) = decide (a = b)
  | [], [] => by simp [PyData.eqvAll]
  | [], _ :: _ => by simp [PyData.eqvAll]
  | _ :: _, [] => by simp [PyData.eqvAll]
  | a :: as, b :: bs => by
    simp only [List.map_cons, PyData.eqvAll, PyData.eqv, eqv_mon as bs, List.cons.injEq]
    by_cases h1 : a = b <;> by_cases h2 : as = bs <;> simp [h1, h2]
theorem alike_tm (a b : Mon × Rat) : PySem.W.alike (encD (tmD a)) (encD (tmD b)) = true := by
  rw [enc_tmD, enc_tmD]
  simp [PySem.W.alike, PySem.W.alikeAll, PySem.W.alike_ints]
theorem sort_pairwise (ds : List D) : (ds.mergeSort (PySem.W.dataLe false encD)).Pairwise fun a b => PySem.W.dataLe false encD a b = true := by
  have t := PySem.W.sortLe_total (PyProof.Rows.listOrd PyProof.Rows.itemOrd) false fun b => PySem.W.keyToks (encD b)
  exact List.pairwise_mergeSort t.trans (fun a b => by rcases t.total a b with h | h <;> simp [PySem.W.dataLe, h]) ds
/-- a list of D's that come from things, sorted -/
theorem sort_map {α : Type} (f : α → D) (L : List α) : ∃ L' : List α, L'.Perm L ∧ (L.map f).mergeSort (PySem.W.dataLe false encD) = L'.map f ∧ L'.Pairwise fun a b => PySem.W.dataLe false encD (f a) (f b) = true := by
  refine ⟨L.mergeSort fun a b => PySem.W.dataLe false encD (f a) (f b), List.mergeSort_perm _ _, (List.map_mergeSort (f := f) (r := fun a b => PySem.W.dataLe false encD (f a) (f b)) (s := PySem.W.dataLe false encD) (fun a _ b _ => rfl)).symm, ?_⟩
  have h := sort_pairwise (L.map f)
  rw [← List.map_mergeSort (r := fun a b => PySem.W.dataLe false encD (f a) (f b)) (fun a _ b _ => rfl), List.pairwise_map] at h
  exact h
theorem lk_mem {T : Tb} (nd : (keys T).Nodup) {a : Mon × Rat} (h : a ∈ T) : lk T a.1 = some a.2 := by
  induction T with
  | nil => cases h
  | cons b T ih =>
    simp only [keys, List.map_cons, List.nodup_cons] at nd
    unfold lk
    rw [List.find?_cons]
    rcases List.mem_cons.mp h with rfl | h
    · simp
    · have : ¬ b.1 = a.1 := fun e => nd.1 (by rw [e]; exact List.mem_map_of_mem h)
      simp only [this, decide_false]
      exact ih nd.2 h
def isT (S : Sto) (n : Nat) (T : Tb) : Prop := S[n]? = some (.dT (encT T)) ∨ S[n]? = some (.rT (encT T))
theorem get_T {S : Sto} {n : Nat} {T : Tb} (h : isT S n T) (m : Mon) : dGetD (.loc n) (mD m) S = some ((lk T m).map frD) := by
  rcases h with h | h <;> simp [dGetD, h, look_enc]
@[simp] theorem ix_fr0 (x : Rat) (S : Sto) : ixD (frD x) (.int 0) S = some (.int x.num) := fr_ix0 (fr_frD x)
@[simp] theorem ix_fr1 (x : Rat) (S : Sto) : ixD (frD x) (.int 1) S = some (.int x.den) := fr_ix1 (fr_frD x)
def nz (a : Mon × Rat) : Bool := decide (a.2 ≠ 0)
/-- each key of a table: the pair, if it is not 0 -/
theorem told_step {S : Sto} {n : Nat} {T : Tb} (h : isT S n T) (nd : (keys T).Nodup) {a : Mon × Rat} (ha : a ∈ T) :
    (tBin (oBn cEq) (eIx (eGet (eVar 0) (eVar 1)) (eC (.int 0))) (eC (.int 0)) [some (.loc n), some (mD a.1)] S = .ok (nz a) S) ∧
      (eTup (aCons (eVar 1) (aCons (eGet (eVar 0) (eVar 1)) aNil)) [some (.loc n), some (mD a.1)] S = .ok (tmD a) S) := by
  have e := get_T h a.1
  rw [lk_mem nd ha] at e
  constructor
  · simp [e, nz, Rat.num_eq_zero]
  · simp [e, tmD]
theorem keysD_enc (T : Tb) : keysD (encT T) = T.map fun a => mD a.1 := by
  unfold keysD encT mD kI
  rw [List.map_map]
  congr 1; funext a
  simp [kD, Function.comp_def]
theorem sortOk_keys {T : Tb} (hk : ∀ a ∈ T, a.1 ≠ []) (hl : T.length ≤ LN) : SortOk (T.map fun a => mD a.1) := by
  refine ⟨fun d hd => ?_, ?_, ?_, by rw [List.length_map]; exact hl⟩
  · obtain ⟨a, _, rfl⟩ := List.mem_map.mp hd
    exact ⟨_, py_mD _, by rw [depth_mon]; omega⟩
  · rw [List.map_map]
    exact PySem.W.AllAlike.of fun a b => by simp only [Function.comp, enc_mD]; exact alike_mon _ _
  · refine .inl fun d hd => ?_
    rw [List.map_map] at hd
    obtain ⟨a, ha, rfl⟩ := List.mem_map.mp hd
    simp only [Function.comp, enc_mD]
    cases hm : a.1 with
    | nil => exact absurd hm (hk a ha)
    | cons x r => exact ⟨_, _, rfl⟩
theorem sortOk_tm {T : Tb} (hl : T.length ≤ LN) : SortOk (T.map tmD) := by
  refine ⟨fun d hd => ?_, ?_, ?_, by rw [List.length_map]; exact hl⟩
  · obtain ⟨a, _, rfl⟩ := List.mem_map.mp hd
    refine ⟨_, py_tmD _, ?_⟩
    simp [PyData.depth, PyData.depthAll, PySem.W.depth_ints]
  · rw [List.map_map]
    exact PySem.W.AllAlike.of fun a b => alike_tm a b
  · refine .inl fun d hd => ?_
    rw [List.map_map] at hd
    obtain ⟨a, ha, rfl⟩ := List.mem_map.mp hd
    exact ⟨_, _, enc_tmD a⟩
/-- what told makes of a table -/
structure ToldOf (T L : Tb) : Prop where
  cn : Canon L
  cf : ∀ m, cf L m = cf T m
  sub : ∀ a ∈ L, a ∈ T
  len : L.length ≤ T.length
theorem told_of {T L : Tb} (nd : (keys T).Nodup) (p : L.Perm (T.filter nz)) (up : L.Pairwise fun a b => a.1 < b.1) : ToldOf T L := by
  have hs : ∀ a, a ∈ L ↔ a ∈ T ∧ a.2 ≠ 0 := fun a => by rw [p.mem_iff, List.mem_filter]; simp [nz]
  have cn : Canon L := ⟨up, fun a ha => ((hs a).mp ha).2⟩
  refine ⟨cn, fun m => ?_, fun a ha => ((hs a).mp ha).1, by rw [p.length_eq]; exact List.length_filter_le _ _⟩
  by_cases h : m ∈ keys L
  · obtain ⟨a, ha, rfl⟩ := List.mem_map.mp h
    rw [cf_mem cn.nd ha, cf_mem nd ((hs a).mp ha).1]
  · rw [cf_not h]
    by_cases h2 : m ∈ keys T
    · obtain ⟨a, ha, rfl⟩ := List.mem_map.mp h2
      rw [cf_mem nd ha]
      apply Classical.byContradiction
      intro z
      exact h (List.mem_map_of_mem ((hs a).mpr ⟨ha, fun e => z e.symm⟩))
    · rw [cf_not h2]
theorem T_told_ok {S : Sto} {n : Nat} {T : Tb} (h : S[n]? = some (.dT (encT T))) (nd : (keys T).Nodup) (hk : ∀ a ∈ T, a.1 ≠ []) (hl : T.length ≤ LN) : ∃ L, T_told [.loc n] S = .ok (.tup (polyL L)) S ∧ ToldOf T L := by
  obtain ⟨L', p, e, up⟩ := sort_map (fun a : Mon × Rat => mD a.1) T
  have ndL : (keys L').Nodup := (p.map _).nodup_iff.mpr nd
  have es : sortD (keysD (encT T)) = some (L'.map fun a => mD a.1) := by
    rw [keysD_enc]
    unfold sortD
    rw [if_pos (sortOk_keys hk hl), e]
  have ec := compD_map (vs := [1]) (g := gN 1) (q := tBin (oBn cEq) (eIx (eGet (eVar 0) (eVar 1)) (eC (.int 0))) (eC (.int 0))) (te := eTup (aCons (eVar 1) (aCons (eGet (eVar 0) (eVar 1)) aNil))) (env := [some (.loc n), none]) (S := S)
    (fun a : Mon × Rat => mD a.1) nz tmD L' [] (fun a ha => ⟨[some (.loc n), some (mD a.1)], rfl, (told_step (.inl h) nd (p.mem_iff.mp ha)).1, fun _ => (told_step (.inl h) nd (p.mem_iff.mp ha)).2⟩) (by rw [p.length_eq]; simpa using hl)
  refine ⟨L'.filter nz, ?_, told_of nd (p.filter _) ?_⟩
  · have hG : gSortK [.loc n] S = some (L'.map fun a => mD a.1) := by simp [gSortK, h, es]
    rw [List.nil_append] at ec
    simp [T_told, b_told, hG, ec, polyL]
  · refine List.Pairwise.filter _ ?_
    have ndL' : L'.Pairwise fun a b => a.1 ≠ b.1 := by
      unfold keys List.Nodup at ndL
      rw [List.pairwise_map] at ndL
      exact ndL
    refine (up.and ndL').imp fun {a b} ⟨h1, h2⟩ => ?_
    have h3 : (!PySem.W.dataLt (encD (mD b.1)) (encD (mD a.1))) = true := h1
    rw [enc_mD, enc_mD, lt_mon] at h3
    rcases lex_tri a.1 b.1 with l | l | l
    · exact l
    · exact absurd l h2
    · simp [l] at h3
theorem T_law_told_ok {S : Sto} {n : Nat} {T : Tb} (h : S[n]? = some (.dT (encT T))) (nd : (keys T).Nodup) (hl : T.length ≤ LN) : ∃ L, T__law_told [.loc n] S = .ok (.fup (polyL L)) S ∧ ToldOf T L := by
  have hn : n < S.length := (List.getElem?_eq_some_iff.mp h).1
  obtain ⟨L', p, e, up⟩ := sort_map tmD (T.filter nz)
  have h1 : rTof S n = some (S.set n (.rT (encT T))) := by simp [rTof, h]
  have hS1 : (S.set n (.rT (encT T)))[n]? = some (.rT (encT T)) := by rw [List.getElem?_set_self hn]
  have h2 : unT (S.set n (.rT (encT T))) n = some S := by
    unfold unT
    rw [hS1]
    simp only [List.set_set]
    congr 1
    exact List.ext_getElem? fun i => by
      by_cases hi : n = i
      · subst hi; rw [List.getElem?_set_self hn, h]
      · rw [List.getElem?_set_ne hi]
  have ec := compD_map (vs := [1]) (g := gN 1) (q := tBin (oBn cEq) (eIx (eGet (eVar 0) (eVar 1)) (eC (.int 0))) (eC (.int 0))) (te := eTup (aCons (eVar 1) (aCons (eGet (eVar 0) (eVar 1)) aNil))) (env := [some (.loc n), none]) (S := S.set n (.rT (encT T)))
    (fun a : Mon × Rat => mD a.1) nz tmD T [] (fun a ha => ⟨[some (.loc n), some (mD a.1)], rfl, (told_step (.inr hS1) nd ha).1, fun _ => (told_step (.inr hS1) nd ha).2⟩) (by simpa using hl)
  rw [← keysD_enc] at ec
  have es : sortD ((T.filter nz).map tmD) = some (L'.map tmD) := by
    unfold sortD
    rw [if_pos (sortOk_tm (Nat.le_trans (List.length_filter_le _ _) hl)), e]
  refine ⟨L', ?_, told_of nd p ?_⟩
  · have hK : iKeyK (.loc n) (S.set n (.rT (encT T))) = .ok (keysD (encT T)) (S.set n (.rT (encT T))) := by simp [hS1]
    have hC : lLock 0 (lComp [1] (iKeys' (eVar 0)) (gN 1) (tBin (oBn cEq) (eIx (eGet (eVar 0) (eVar 1)) (eC (.int 0))) (eC (.int 0))) (eTup (aCons (eVar 1) (aCons (eGet (eVar 0) (eVar 1)) aNil)))) [some (.loc n), none] S = .ok ((T.filter nz).map tmD) S := by
      rw [List.nil_append] at ec
      simp [h1, hS1, ec, h2]
    simp only [T__law_told, b__law_told, run_def, start_def, sRet, eOfL, lOfL]
    show (match sbind (((((lLock 0 _) [some (.loc n), none] S).bind _).bind _)) _ _ with | .nx _ S' => _ | .ret d S' => _ | .exc c _ S' => _ | _ => _) = _
    rw [hC]
    simp [es, polyL]
  · have ndL : (keys (T.filter nz)).Nodup := nd.sublist (List.Sublist.map _ List.filter_sublist)
    have ndL' : L'.Pairwise fun a b => a.1 ≠ b.1 := by
      have h3 : (keys L').Nodup := (p.map _).nodup_iff.mpr ndL
      unfold keys List.Nodup at h3
      rw [List.pairwise_map] at h3
      exact h3
    refine (up.and ndL').imp fun {a b} ⟨h1, h2⟩ => ?_
    have h3 : (!PySem.W.dataLt (encD (tmD b)) (encD (tmD a))) = true := h1
    rw [enc_tmD, enc_tmD, PySem.W.dataLt_pair (alike_mon _ _) (by simp [PySem.W.alike, PySem.W.alikeAll])] at h3
    rw [show PyData.eqv (.tuple (b.1.map .int)) (.tuple (a.1.map .int)) = decide (b.1 = a.1) from eqv_mon _ _, if_neg (by simpa using fun e => h2 e.symm), lt_mon] at h3
    rcases lex_tri a.1 b.1 with l | l | l
    · exact l
    · exact absurd l h2
    · simp [l] at h3
end DV
/-! P4: sums and products. -/
namespace DV
open PySem L2
/-! ### sizes -/
/-- k / M with |k| at most B -/
def CB (M B : Nat) (x : Rat) : Prop := ∃ k : Int, x = mkRat k M ∧ k.natAbs ≤ B
theorem CB.zero (M B : Nat) : CB M B 0 := ⟨0, by simp, by simp⟩
theorem CB.mono {M B C : Nat} {x : Rat} (h : CB M B x) (l : B ≤ C) : CB M C x := by obtain ⟨k, e, b⟩ := h; exact ⟨k, e, by omega⟩
theorem CB.add {M B C : Nat} {x y : Rat} (hM : M ≠ 0) (h : CB M B x) (g : CB M C y) : CB M (B + C) (x + y) := by
  obtain ⟨k, rfl, b⟩ := h
  obtain ⟨l, rfl, c⟩ := g
  refine ⟨k + l, ?_, by omega⟩
  rw [Rat.mkRat_add_mkRat _ _ hM hM, ← Int.add_mul]
  exact Rat.mkRat_mul_right hM
theorem CB.mul {M N B C : Nat} {x y : Rat} (h : CB M B x) (g : CB N C y) : CB (M * N) (B * C) (x * y) := by
  obtain ⟨k, rfl, b⟩ := h
  obtain ⟨l, rfl, c⟩ := g
  exact ⟨k * l, Rat.mkRat_mul_mkRat _ _ _ _, by rw [Int.natAbs_mul]; exact Nat.mul_le_mul b c⟩
theorem CB.sm {M B : Nat} {x : Rat} (h : CB M B x) (hM : M < 2 ^ 400) (hB : B < 2 ^ 400) : Sm x := by
  obtain ⟨k, rfl, b⟩ := h
  constructor
  · rw [Rat.num_mkRat]
    split
    · exact Nat.pow_pos (by decide)
    · have h1 : (k / ((M.gcd k.natAbs : Nat) : Int)).natAbs ≤ k.natAbs := Int.natAbs_ediv_le_natAbs _ _
      exact Nat.lt_of_le_of_lt (Nat.le_trans h1 b) hB
  · rw [Rat.den_mkRat]
    split
    · exact Nat.one_lt_two_pow (by decide)
    · exact Nat.lt_of_le_of_lt (Nat.div_le_self _ _) hM
/-! ### contributions -/
def acc (l : Tb) (m : Mon) : Rat := (l.map fun a => if a.1 = m then a.2 else 0).sum
theorem acc_nil (m : Mon) : acc [] m = 0 := rfl
theorem acc_cons (a : Mon × Rat) (l : Tb) (m : Mon) : acc (a :: l) m = (if a.1 = m then a.2 else 0) + acc l m := by simp [acc]
theorem acc_append (l l' : Tb) (m : Mon) : acc (l ++ l') m = acc l m + acc l' m := by
  induction l with
  | nil => rw [List.nil_append, acc_nil, Rat.zero_add]
  | cons a l ih => rw [List.cons_append, acc_cons, acc_cons, ih, Rat.add_assoc]
theorem acc_cb {M B : Nat} (hM : M ≠ 0) {l : Tb} (h : ∀ a ∈ l, CB M B a.2) (m : Mon) : CB M (l.length * B) (acc l m) := by
  induction l with
  | nil => rw [acc_nil]; exact CB.zero _ _
  | cons a l ih =>
    rw [acc_cons, List.length_cons, Nat.add_mul, Nat.one_mul, Nat.add_comm]
    refine CB.add hM ?_ (ih fun x hx => h x (List.mem_cons_of_mem _ hx))
    split
    · exact h a List.mem_cons_self
    · exact CB.zero _ _
theorem acc_canon {L : Tb} (nd : (keys L).Nodup) (m : Mon) : acc L m = cf L m := by
  induction L with
  | nil => rfl
  | cons a L ih =>
    simp only [keys, List.map_cons, List.nodup_cons] at nd
    rw [acc_cons, cf_cons, ih nd.2]
    by_cases h : a.1 = m
    · rw [if_pos h, if_pos h, cf_not (by rw [← h]; exact nd.1), Rat.add_zero]
    · rw [if_neg h, if_neg h, Rat.zero_add]
/-! ### tables in the store -/
/-- a table as it should be: N the unknowns -/
structure TbOk (N : Nat) (T : Tb) : Prop where
  nd : (keys T).Nodup
  ln : ∀ a ∈ T, a.1.length = N
theorem TbOk.ne {N : Nat} {T : Tb} (h : TbOk N T) (hN : 0 < N) : ∀ a ∈ T, a.1 ≠ [] := fun a ha e => by
  have := h.ln a ha; rw [e] at this; simp at this; omega
theorem TbOk.pt {N : Nat} {T : Tb} {m : Mon} {x : Rat} (h : TbOk N T) (hm : m.length = N) : TbOk N (pt T m x) := ⟨nd_pt h.nd, fun a ha => by
  have : a.1 ∈ keys (DV.pt T m x) := List.mem_map_of_mem ha
  rw [keys_pt] at this
  split at this
  · obtain ⟨b, hb, e⟩ := List.mem_map.mp this; rw [← e]; exact h.ln b hb
  · rcases List.mem_append.mp this with h1 | h1
    · obtain ⟨b, hb, e⟩ := List.mem_map.mp h1; rw [← e]; exact h.ln b hb
    · simp at h1; rw [h1]; exact hm⟩
theorem TbOk.dp {N : Nat} {T : Tb} {m : Mon} (h : TbOk N T) : TbOk N (dp T m) := ⟨nd_dp h.nd, fun a ha => h.ln a (List.mem_filter.mp ha).1⟩
theorem TbOk.nil (N : Nat) : TbOk N [] := ⟨List.Pairwise.nil, fun _ h => nomatch h⟩
def tabAt (S : Sto) (n : Nat) (T : Tb) : Prop := S[n]? = some (.dT (encT T))
theorem tabAt.lt {S : Sto} {n : Nat} {T : Tb} (h : tabAt S n T) : n < S.length := (List.getElem?_eq_some_iff.mp h).1
theorem tabAt.set {S : Sto} {n : Nat} {T T' : Tb} (h : tabAt S n T) : tabAt (S.set n (.dT (encT T'))) n T' := List.getElem?_set_self h.lt
theorem set_same {S : Sto} {n : Nat} {o : MO} (h : S[n]? = some o) : S.set n o = S := List.ext_getElem? fun i => by
  by_cases hi : n = i
  · subst hi; rw [List.getElem?_set_self (List.getElem?_eq_some_iff.mp h).1, h]
  · rw [List.getElem?_set_ne hi]
theorem put_T {S : Sto} {n : Nat} {T : Tb} (h : tabAt S n T) (hl : T.length < LN) (m : Mon) (x : Rat) : dPutD (.loc n) (mD m) (frD x) S = some (S.set n (.dT (encT (pt T m x)))) := by
  have h' : S[n]? = some (.dT (encT T)) := h
  have hl' : (encT T).length < LN := by simpa [encT] using hl
  simp only [dPutD, h', if_pos hl', keyT_mD, Option.map_some, put_enc]
theorem pop_T {S : Sto} {n : Nat} {T : Tb} (h : tabAt S n T) (m : Mon) : ∃ d, gPopT (.loc n) [mD m, .non] S = some (d, S.set n (.dT (encT (dp T m)))) := by
  have h' : S[n]? = some (.dT (encT T)) := h
  simp only [gPopT, h', keyT_mD, look_enc]
  cases hk : lk T m with
  | some x => exact ⟨frD x, by simp only [Option.map_some, drop_enc]⟩
  | none =>
    refine ⟨.non, ?_⟩
    have hm : m ∉ keys T := fun e => by
      unfold lk at hk
      obtain ⟨a, ha, e2⟩ := List.mem_map.mp e
      simp only [Option.map_eq_none_iff, List.find?_eq_none, decide_eq_true_eq] at hk
      exact hk a ha e2
    have : dp T m = T := by
      unfold dp
      rw [List.filter_eq_self]
      intro a ha
      simp only [decide_eq_true_eq]
      exact fun e => hm (by rw [← e]; exact List.mem_map_of_mem ha)
    rw [this, set_same h']; rfl
theorem dc_T {S : Sto} {n : Nat} {T : Tb} (h : tabAt S n T) : isDc (.loc n) S = true := by
  have h' : S[n]? = some (.dT (encT T)) := h
  simp [isDc, h']
theorem ty_T {S : Sto} {n : Nat} {T : Tb} (h : tabAt S n T) : tyD "dict" (.loc n) S = true := by
  have h' : S[n]? = some (.dT (encT T)) := h
  simp [tyD, h']
theorem fr_get (T : Tb) (m : Mon) {z : D} (hz : fr? z 0) : fr? (((lk T m).map frD).getD z) (cf T m) := by
  unfold cf
  cases lk T m with
  | none => exact hz
  | some x => exact fr_frD x
theorem fr_zeroC : fr? (.cst (List.map D.int [0, 1])) 0 := rfl
theorem fr_zeroT : fr? (.tup [.int 0, .int 1]) 0 := rfl
/-! ### joined -/
def addM (a b : Mon) : Mon := List.zipWith (· + ·) a b
theorem addM_comm (a b : Mon) : addM a b = addM b a := by
  unfold addM; exact List.zipWith_comm_of_comm (fun x y => Int.add_comm x y)
theorem addM_len {a b : Mon} {N : Nat} (ha : a.length = N) (hb : b.length = N) : (addM a b).length = N := by simp [addM, ha, hb]
theorem zip_add : ∀ a b : Mon, (a.zip b).map (fun q => D.int (q.1 + q.2)) = (addM a b).map .int
  | [], _ => by simp [addM]
  | _ :: _, [] => by simp [addM]
  | x :: a, y :: b => by
    have := zip_add a b
    unfold addM at this ⊢
    rw [List.zip_cons_cons, List.map_cons, this, List.zipWith_cons_cons, List.map_cons]
theorem T_joined_ok (a b : Mon) (S : Sto) (ha : a.length ≤ LN) : T_joined [mD a, mD b] S = .ok (mD (addM a b)) S := by
  have hz : zipD (a.map D.int) (b.map D.int) = (a.zip b).map fun q => D.tup [.int q.1, .int q.2] := by
    unfold zipD
    rw [List.zip_map, List.map_map]; rfl
  have ec := compD_map (vs := [2, 3]) (g := gTup' 2 (gCons' (gN 2) (gCons' (gN 3) gNil'))) (q := tYes') (te := eBin oAdd (eVar 2) (eVar 3)) (env := [some (mD a), some (mD b), none, none]) (S := S)
    (fun q : Int × Int => D.tup [.int q.1, .int q.2]) (fun _ => true) (fun q => .int (q.1 + q.2)) (a.zip b) [] (fun q _ => ⟨[some (mD a), some (mD b), some (.int q.1), some (.int q.2)], by simp [wipeA], by simp, fun _ => by simp⟩) (by have := List.length_zip (l₁ := a) (l₂ := b); simp only [List.length_nil]; omega)
  have hf : ((a.zip b).filter fun _ => true) = a.zip b := List.filter_eq_self.mpr fun _ _ => rfl
  rw [← hz, hf, List.nil_append] at ec
  have hm : (a.zip b).map (fun q => D.int (q.1 + q.2)) = (addM a b).map .int := zip_add a b
  rw [hm] at ec
  simp [T_joined, b_joined, mD] at ec ⊢
  rw [ec]
end DV
/-! P5: add_to, added, multiplied and their like in the law. -/
namespace DV
open PySem L2
theorem pow1000 : (2 : Nat) ^ 400 < 2 ^ 1000 := Nat.pow_lt_pow_right (by decide) (by decide)
/-- one more contribution -/
def bumps (T : Tb) (l : Tb) (T' : Tb) : Prop := ∀ k, cf T' k = cf T k + acc l k
theorem bumps.nil (T : Tb) : bumps T [] T := fun k => by rw [acc_nil, Rat.add_zero]
theorem bumps.put {T T1 : Tb} {l : Tb} (h : bumps T l T1) (k : Mon) (x : Rat) : bumps T (l ++ [(k, x)]) (pt T1 k (cf T1 k + x)) := fun m => by
  rw [cf_pt, acc_append, acc_cons, acc_nil, Rat.add_zero, ← Rat.add_assoc, ← h m]
  by_cases e : m = k
  · subst e; simp
  · rw [if_neg e, if_neg (fun z => e z.symm), Rat.add_zero]
theorem bumps.drop {T T1 : Tb} {l : Tb} (h : bumps T l T1) (k : Mon) (x : Rat) (e0 : cf T1 k + x = 0) : bumps T (l ++ [(k, x)]) (dp T1 k) := fun m => by
  rw [cf_dp, acc_append, acc_cons, acc_nil, Rat.add_zero, ← Rat.add_assoc, ← h m]
  by_cases e : m = k
  · subst e; simp [e0]
  · rw [if_neg e, if_neg (fun z => e z.symm), Rat.add_zero]
theorem bumps.cb {T T1 : Tb} {l : Tb} {M B B0 : Nat} (h : bumps T l T1) (hM : M ≠ 0) (h0 : ∀ k, CB M B0 (cf T k)) (hl : ∀ a ∈ l, CB M B a.2) (k : Mon) : CB M (B0 + l.length * B) (cf T1 k) := by
  rw [h k]; exact CB.add hM (h0 k) (acc_cb hM hl k)
theorem bumps.trans {T T1 T2 : Tb} {l l' : Tb} (h : bumps T l T1) (h' : bumps T1 l' T2) : bumps T (l ++ l') T2 := fun k => by rw [h' k, h k, acc_append, Rat.add_assoc]
def mulBy (L : Tb) (m : Mon) (y : Rat) : Tb := L.map fun a => (addM a.1 m, a.2 * y)
theorem T_add_to_ok {n N M B B0 : Nat} {S : Sto} {T L : Tb} {p f : D} {m : Mon} {y : Rat} (hT : tabAt S n T) (ok : TbOk N T) (hp : p.seq? = some (polyL L)) (hL : ∀ a ∈ L, a.1.length = N) (hm : m.length = N) (hf : fr? f y) (hN : N ≤ LN) (hM : M ≠ 0)
    (hy : Sm y) (hs : ∀ a ∈ L, Sm a.2) (hB : ∀ a ∈ L, CB M B (a.2 * y)) (h0 : ∀ k, CB M B0 (cf T k)) (hM4 : M < 2 ^ 400) (hB4 : B0 + L.length * B < 2 ^ 400) (hB5 : B < 2 ^ 400) (hl : T.length + L.length < LN) :
    ∃ T', T_add_to [.loc n, p, mD m, f] S = .ok .non (S.set n (.dT (encT T'))) ∧ TbOk N T' ∧ bumps T (mulBy L m y) T' ∧ T'.length ≤ T.length + L.length := by
  have hlen : ∀ L1 L2 : Tb, L = L1 ++ L2 → L1.length ≤ L.length := fun L1 L2 e => by rw [e, List.length_append]; omega
  obtain ⟨env', S', h1, L1, L2, T1, t4, t5, t6, t7, e1, e2, e3, e4, e5, e6, e7⟩ := forD_rule (g := gTup' 2 (gCons' (gN 4) (gCons' (gN 5) gNil'))) (f := (sSeq (sSet 6 (eCall 2 T_joined (aCons (eVar 4) (aCons (eVar 2) aNil))))
    (sSeq (sSet 7 (eCall 2 T_plus (aCons (eGet2' (eVar 0) (eVar 6) (eC (.cst (List.map D.int [0, 1])))) (aCons (eCall 2 T_times (aCons (eVar 5) (aCons (eVar 3) aNil))) aNil))))
    (sIf (tBin (oBn cEq) (eIx (eVar 7) (eC (.int 0))) (eC (.int 0))) (sPut' dPutD (eVar 0) (eVar 6) (eVar 7)) (sExpr (eMet "dict" gPopT (eVar 0) (aCons (eVar 6) (aCons (eC .non) aNil))))))))
    (fun ds env S1 => ∃ L1 L2 T1 t4 t5 t6 t7, L = L1 ++ L2 ∧ ds = polyL L2 ∧ env = [some (.loc n), some p, some (mD m), some f, t4, t5, t6, t7] ∧ S1 = S.set n (.dT (encT T1)) ∧ TbOk N T1 ∧ bumps T (mulBy L1 m y) T1 ∧ T1.length ≤ T.length + L1.length)
    (by
      rintro d ds env S1 ⟨L1, L2, T1, t4, t5, t6, t7, e1, e2, rfl, rfl, e5, e6, e7⟩
      cases L2 with
      | nil => simp [polyL] at e2
      | cons a L2 =>
        simp only [polyL, List.map_cons, List.cons.injEq] at e2
        obtain ⟨rfl, rfl⟩ := e2
        have ha : a ∈ L := by rw [e1]; simp
        have hL1 : L1.length + 1 ≤ L.length := by rw [e1]; simp
        have hTS : tabAt (S.set n (.dT (encT T1))) n T1 := hT.set
        have hcb := e6.cb hM h0 (B := B) (by
          intro b hb
          obtain ⟨c, hc, rfl⟩ := List.mem_map.mp hb
          exact hB c (by rw [e1]; exact List.mem_append_left _ hc)) (addM a.1 m)
        have hle : B0 + (mulBy L1 m y).length * B ≤ B0 + L.length * B := by
          simp only [mulBy, List.length_map]
          exact Nat.add_le_add_left (Nat.mul_le_mul_right _ (by omega)) _
        have s1 : Sm (cf T1 (addM a.1 m)) := hcb.sm hM4 (by omega)
        have s2 : Sm (a.2 * y) := (hB a ha).sm hM4 hB5
        generalize hS1 : S.set n (.dT (encT T1)) = S1 at *
        have hj : T_joined [mD a.1, mD m] S1 = .ok (mD (addM a.1 m)) S1 := T_joined_ok _ _ _ (by rw [hL a ha]; exact hN)
        have ht : T_times [frD a.2, f] S1 = .ok (frD (a.2 * y)) S1 := T_times_ok S1 (fr_frD _) hf (hs a ha) hy
        have hg : dGetD (.loc n) (mD (addM a.1 m)) S1 = some ((lk T1 (addM a.1 m)).map frD) := get_T (.inl hTS) _
        have hdc := dc_T hTS
        have hpl : T_plus [((lk T1 (addM a.1 m)).map frD).getD (.cst [.int 0, .int 1]), frD (a.2 * y)] S1 = .ok (frD (cf T1 (addM a.1 m) + a.2 * y)) S1 := T_plus_ok S1 (fr_get T1 _ fr_zeroC) (fr_frD _) s1 s2
        have hw : wipeA [] [] = [] := rfl
        have eL : L = (L1 ++ [a]) ++ L2 := by rw [e1]; simp
        have em : mulBy (L1 ++ [a]) m y = mulBy L1 m y ++ [(addM a.1 m, a.2 * y)] := by simp [mulBy]
        have e8 : S1.set n = S.set n := by funext o; rw [← hS1, List.set_set]
        by_cases hz : cf T1 (addM a.1 m) + a.2 * y = 0
        · obtain ⟨dd, hpop⟩ := pop_T hTS (addM a.1 m)
          refine ⟨([some (.loc n), some p, some (mD m), some f, some (mD a.1), some (frD a.2), t6, t7], S1), [some (.loc n), some p, some (mD m), some f, some (mD a.1), some (frD a.2), some (mD (addM a.1 m)), some (frD (cf T1 (addM a.1 m) + a.2 * y))], S.set n (.dT (encT (dp T1 (addM a.1 m)))), by simp [tmD], ?_,
            L1 ++ [a], L2, dp T1 (addM a.1 m), _, _, _, _, eL, rfl, rfl, rfl, e5.dp, by rw [em]; exact e6.drop _ _ hz, ?_⟩
          · rw [e8] at hpop
            simp [hj, ht, hg, hdc, hpl, ty_T hTS, hpop, Rat.num_eq_zero, hz]
          · have := len_dp T1 (addM a.1 m); simp; omega
        · have hput := put_T hTS (by omega) (addM a.1 m) (cf T1 (addM a.1 m) + a.2 * y)
          refine ⟨([some (.loc n), some p, some (mD m), some f, some (mD a.1), some (frD a.2), t6, t7], S1), [some (.loc n), some p, some (mD m), some f, some (mD a.1), some (frD a.2), some (mD (addM a.1 m)), some (frD (cf T1 (addM a.1 m) + a.2 * y))], S.set n (.dT (encT (pt T1 (addM a.1 m) (cf T1 (addM a.1 m) + a.2 * y)))), by simp [tmD], ?_,
            L1 ++ [a], L2, pt T1 (addM a.1 m) (cf T1 (addM a.1 m) + a.2 * y), _, _, _, _, eL, rfl, rfl, rfl, e5.pt (addM_len (hL a ha) hm), by rw [em]; exact e6.put _ _, ?_⟩
          · rw [e8] at hput
            simp [hj, ht, hg, hdc, hpl, hput, Rat.num_eq_zero, hz]
          · have := len_pt T1 (addM a.1 m) (cf T1 (addM a.1 m) + a.2 * y); simp; omega)
    (polyL L) [some (.loc n), some p, some (mD m), some f, none, none, none, none] S ⟨[], L, T, none, none, none, none, rfl, rfl, rfl, (set_same hT).symm, ok, bumps.nil T, by simp⟩
  have hL2 : L2 = [] := by
    cases L2 with
    | nil => rfl
    | cons a L2 => simp [polyL] at e2
  subst hL2
  rw [List.append_nil] at e1
  subst e1
  refine ⟨T1, ?_, e5, e6, e7⟩
  subst e4
  simp only [T_add_to, b_add_to, run_def, start_def, sFor, iTup', eVar, iTupK]
  simp [hp] at h1 ⊢
  simp [h1]
end DV
/-! P6: added, multiplied, their like in the law. -/
namespace DV
open PySem L2
/-- a polynomial that has the coefficients f, in N unknowns, of at most c terms -/
structure PolyIs (N c : Nat) (f : Mon → Rat) (L : Tb) : Prop where
  cn : Canon L
  cf : ∀ k, cf L k = f k
  ln : ∀ a ∈ L, a.1.length = N
  le : L.length ≤ c
theorem PolyIs.of {N c : Nat} {f : Mon → Rat} {T L : Tb} (h : ToldOf T L) (ok : TbOk N T) (hl : T.length ≤ c) (hf : ∀ k, DV.cf T k = f k) : PolyIs N c f L := ⟨h.cn, fun k => by rw [h.cf, hf], fun a ha => ok.ln a (h.sub a ha), Nat.le_trans h.len hl⟩
theorem pairs_poly : ∀ L : Tb, pairsT? (polyL L) = some (encT L)
  | [] => rfl
  | a :: L => by
    have ih := pairs_poly L
    simp only [polyL, encT, List.map_cons, tmD] at ih ⊢
    simp [pairsT?, ih]
theorem nodup_kI {l : List Mon} (h : l.Nodup) : (l.map kI).Nodup := by
  unfold List.Nodup at h ⊢
  rw [List.pairwise_map]
  exact h.imp fun {a b} h => (fun e => h (kI_inj e) : kI a ≠ kI b)
theorem dict_poly {L : Tb} (nd : (keys L).Nodup) : dictT (polyL L) = some (encT L) := by
  unfold dictT
  rw [pairs_poly, Option.bind_some, if_pos]
  have e : (encT L).map (·.1) = (keys L).map kI := by simp [encT, keys]
  rw [e]
  exact nodup_kI nd
theorem tab_new (S : Sto) (T : Tb) : tabAt (S ++ [.dT (encT T)]) S.length T := by simp [tabAt]
theorem set_new (S : Sto) (x y : MO) : (S ++ [x]).set S.length y = S ++ [y] := by simp
/-- the loop over a polynomial that bumps a table -/
theorem bump_loop {g : GvT} {f : EvS} {n N M B B0 : Nat} {S : Sto} {T Q R : Tb} {h : Mon × Rat → Mon × Rat} (E : AEnv → Prop) (hT : tabAt S n T) (ok : TbOk N T) (hR : R = Q.map h) (hln : ∀ a ∈ Q, (h a).1.length = N) (hM : M ≠ 0)
    (hB : ∀ a ∈ Q, CB M B (h a).2) (h0 : ∀ k, CB M B0 (cf T k)) (hM4 : M < 2 ^ 400) (hB4 : B0 + Q.length * B < 2 ^ 400) (hB5 : B < 2 ^ 400) (hl : T.length + Q.length < LN)
    (step : ∀ a ∈ Q, ∀ env S1 T1, E env → tabAt S1 n T1 → TbOk N T1 → T1.length < LN → Sm (cf T1 (h a).1) → Sm (h a).2 → ∃ q env', g (tmD a) env S1 = some q ∧ f q.1 q.2 = .nx env' (S1.set n (.dT (encT (pt T1 (h a).1 (cf T1 (h a).1 + (h a).2))))) ∧ E env') :
    ∀ env, E env → ∃ env' T', forD g f (polyL Q) env S = .nx env' (S.set n (.dT (encT T'))) ∧ E env' ∧ TbOk N T' ∧ bumps T R T' ∧ T'.length ≤ T.length + Q.length := by
  subst hR
  intro env he
  obtain ⟨env', S', h1, L1, L2, T1, e1, e2, e3, e4, e5, e6, e7⟩ := forD_rule (g := g) (f := f)
    (fun ds env S1 => ∃ L1 L2 T1, Q = L1 ++ L2 ∧ ds = polyL L2 ∧ E env ∧ S1 = S.set n (.dT (encT T1)) ∧ TbOk N T1 ∧ bumps T (L1.map h) T1 ∧ T1.length ≤ T.length + L1.length)
    (by
      rintro d ds env S1 ⟨L1, L2, T1, e1, e2, e3, rfl, e5, e6, e7⟩
      cases L2 with
      | nil => simp [polyL] at e2
      | cons a L2 =>
        simp only [polyL, List.map_cons, List.cons.injEq] at e2
        obtain ⟨rfl, rfl⟩ := e2
        have ha : a ∈ Q := by rw [e1]; simp
        have hL1 : L1.length + 1 ≤ Q.length := by rw [e1]; simp
        have hTS : tabAt (S.set n (.dT (encT T1))) n T1 := hT.set
        have hcb := e6.cb hM h0 (B := B) (by
          intro b hb
          obtain ⟨c, hc, rfl⟩ := List.mem_map.mp hb
          exact hB c (by rw [e1]; exact List.mem_append_left _ hc)) (h a).1
        have hle : B0 + (L1.map h).length * B ≤ B0 + Q.length * B := by
          rw [List.length_map]
          exact Nat.add_le_add_left (Nat.mul_le_mul_right _ (by omega)) _
        have s1 : Sm (cf T1 (h a).1) := hcb.sm hM4 (by omega)
        have s2 : Sm (h a).2 := (hB a ha).sm hM4 hB5
        obtain ⟨q, env', g1, g2, g3⟩ := step a ha env _ T1 e3 hTS e5 (by omega) s1 s2
        rw [List.set_set] at g2
        refine ⟨q, env', _, g1, g2, L1 ++ [a], L2, _, by rw [e1]; simp, rfl, g3, rfl, e5.pt (hln a ha), ?_, ?_⟩
        · rw [List.map_append]; exact e6.put _ _
        · have := len_pt T1 (h a).1 (cf T1 (h a).1 + (h a).2); simp; omega)
    (polyL Q) env S ⟨[], Q, T, rfl, rfl, he, (set_same hT).symm, ok, bumps.nil T, by simp⟩
  have hL2 : L2 = [] := by
    cases L2 with
    | nil => rfl
    | cons a L2 => simp [polyL] at e2
  subst hL2
  rw [List.append_nil] at e1
  subst e1
  subst e4
  exact ⟨env', T1, h1, e3, e5, e6, e7⟩
theorem T_added_ok {N M B B0 : Nat} {S : Sto} {P Q : Tb} {q : D} (hq : q.seq? = some (polyL Q)) (hP : Canon P) (hPl : ∀ a ∈ P, a.1.length = N) (hQl : ∀ a ∈ Q, a.1.length = N) (hN : 0 < N) (hM : M ≠ 0)
    (hB : ∀ a ∈ Q, CB M B a.2) (h0 : ∀ k, CB M B0 (cf P k)) (hM4 : M < 2 ^ 400) (hB4 : B0 + Q.length * B < 2 ^ 400) (hB5 : B < 2 ^ 400) (hl : P.length + Q.length < LN) :
    ∃ L g, T_added [.fup (polyL P), q] S = .ok (.tup (polyL L)) (S ++ g) ∧ PolyIs N (P.length + Q.length) (fun k => cf P k + acc Q k) L := by
  have hT := tab_new S P
  obtain ⟨env', T', h1, ⟨o1, o2, rfl⟩, h3, h4, h5⟩ := bump_loop (g := gTup' 2 (gCons' (gN 3) (gCons' (gN 4) gNil'))) (f := (sPut' dPutD (eVar 2) (eVar 3) (eCall 2 T_plus (aCons (eGet2' (eVar 2) (eVar 3) (eC (.cst (List.map D.int [0, 1])))) (aCons (eVar 4) aNil))))) (h := id) (R := Q)
    (fun env => ∃ o1 o2, env = [some (.fup (polyL P)), some q, some (.loc S.length), o1, o2]) hT ⟨hP.nd, hPl⟩ (by simp) hQl hM hB h0 hM4 hB4 hB5 hl
    (by
      rintro a ha env S1 T1 ⟨o1, o2, rfl⟩ hS1 ok1 hl1 s1 s2
      have hg := get_T (.inl hS1) a.1
      have hdc := dc_T hS1
      have hpl : T_plus [((lk T1 a.1).map frD).getD (.cst [.int 0, .int 1]), frD a.2] S1 = .ok (frD (cf T1 a.1 + a.2)) S1 := T_plus_ok S1 (fr_get T1 _ fr_zeroC) (fr_frD _) s1 s2
      have hput := put_T hS1 hl1 a.1 (cf T1 a.1 + a.2)
      refine ⟨([some (.fup (polyL P)), some q, some (.loc S.length), some (mD a.1), some (frD a.2)], S1), [some (.fup (polyL P)), some q, some (.loc S.length), some (mD a.1), some (frD a.2)], by simp [tmD], ?_, _, _, rfl⟩
      simp [hg, hdc, hpl, hput])
    [some (.fup (polyL P)), some q, some (.loc S.length), none, none] ⟨_, _, rfl⟩
  rw [set_new] at h1
  obtain ⟨L, e, tl⟩ := T_told_ok (tab_new S T') h3.nd (h3.ne hN) (by omega)
  refine ⟨L, [.dT (encT T')], ?_, .of tl h3 h5 h4⟩
  simp [T_added, b_added, dict_poly hP.nd, hq] at h1 ⊢
  simp [h1, e]
theorem T_law_sum_ok {N M B B0 : Nat} {S : Sto} {P Q : Tb} {p q f : D} {y : Rat} (hp : p.seq? = some (polyL P)) (hq : q.seq? = some (polyL Q)) (hP : Canon P) (hPl : ∀ a ∈ P, a.1.length = N) (hQl : ∀ a ∈ Q, a.1.length = N) (hM : M ≠ 0) (hf : fr? f y) (hy : Sm y) (hs : ∀ a ∈ Q, Sm a.2)
    (hB : ∀ a ∈ Q, CB M B (a.2 * y)) (h0 : ∀ a ∈ P, CB M B0 a.2) (hM4 : M < 2 ^ 400) (hB4 : P.length * B0 + Q.length * B < 2 ^ 400) (hB5 : B < 2 ^ 400) (hB6 : B0 < 2 ^ 400) (hl : P.length + Q.length < LN) :
    ∃ L g, T__law_sum [p, q, f] S = .ok (.fup (polyL L)) (S ++ g) ∧ PolyIs N (P.length + Q.length) (fun k => cf P k + acc (Q.map fun a => (a.1, a.2 * y)) k) L := by
  have hT := tab_new S []
  have hLN : LN = 16777216 := rfl
  -- the first loop copies
  have copy : ∀ (L1 L2 : Tb), P = L1 ++ L2 → ∀ o1 o2, ∃ o3 o4, forD (gTup' 2 (gCons' (gN 4) (gCons' (gN 5) gNil'))) (sPut' dPutD (eVar 3) (eVar 4) (eVar 5)) (polyL L2) [some p, some q, some f, some (.loc S.length), o1, o2] (S ++ [.dT (encT L1)]) = .nx [some p, some q, some f, some (.loc S.length), o3, o4] (S ++ [.dT (encT P)]) := by
    intro L1 L2
    induction L2 generalizing L1 with
    | nil => intro e o1 o2; rw [List.append_nil] at e; subst e; exact ⟨o1, o2, rfl⟩
    | cons a L2 ih =>
      intro e o1 o2
      obtain ⟨o3, o4, h⟩ := ih (L1 ++ [a]) (by rw [e]; simp) (some (mD a.1)) (some (frD a.2))
      refine ⟨o3, o4, ?_⟩
      have hput := put_T (tab_new S L1) (by have : L1.length ≤ P.length := (by rw [e]; simp); omega) a.1 a.2
      have hno : a.1 ∉ keys L1 := by
        have nd := hP.nd
        rw [e] at nd
        simp only [keys, List.map_append, List.map_cons] at nd
        rw [List.nodup_append] at nd
        intro hc
        exact nd.2.2 a.1 hc a.1 List.mem_cons_self rfl
      have hpt : pt L1 a.1 a.2 = L1 ++ [a] := by
        unfold pt
        rw [if_neg (fun z => hno (any_keys.mp z))]
      rw [hpt, set_new] at hput
      rw [← h]
      show forD _ _ (tmD a :: polyL L2) _ _ = _
      conv => lhs; unfold forD
      simp [tmD, hput]
  obtain ⟨o3, o4, hc⟩ := copy [] P rfl none none
  obtain ⟨env', T', h1, ⟨o1, o2, rfl⟩, h3, h4, h5⟩ := bump_loop (g := gTup' 2 (gCons' (gN 4) (gCons' (gN 5) gNil'))) (f := (sPut' dPutD (eVar 3) (eVar 4) (eCall 2 T__law_plus (aCons (eGet2' (eVar 3) (eVar 4) (eTup (aCons (eC (.int 0)) (aCons (eC (.int 1)) aNil)))) (aCons (eCall 2 T__law_times (aCons (eVar 5) (aCons (eVar 2) aNil))) aNil))))) (h := fun a => (a.1, a.2 * y)) (R := Q.map fun a => (a.1, a.2 * y))
    (fun env => ∃ o1 o2, env = [some p, some q, some f, some (.loc S.length), o1, o2]) (tab_new S P) ⟨hP.nd, hPl⟩ rfl hQl hM hB (fun k => by rw [← acc_canon hP.nd]; exact acc_cb hM h0 k) hM4 hB4 hB5 hl
    (by
      rintro a ha env S1 T1 ⟨o1, o2, rfl⟩ hS1 ok1 hl1 s1 s2
      have hg := get_T (.inl hS1) a.1
      have hdc := dc_T hS1
      have ht : T__law_times [frD a.2, f] S1 = .ok (frD (a.2 * y)) S1 := T_law_times_ok S1 (fr_frD _) hf (hs a ha) hy
      have hpl : T__law_plus [((lk T1 a.1).map frD).getD (.tup [.int 0, .int 1]), frD (a.2 * y)] S1 = .ok (frD (cf T1 a.1 + a.2 * y)) S1 := T_law_plus_ok S1 (fr_get T1 _ fr_zeroT) (fr_frD _) s1 s2
      have hput := put_T hS1 hl1 a.1 (cf T1 a.1 + a.2 * y)
      refine ⟨([some p, some q, some f, some (.loc S.length), some (mD a.1), some (frD a.2)], S1), [some p, some q, some f, some (.loc S.length), some (mD a.1), some (frD a.2)], by simp [tmD], ?_, _, _, rfl⟩
      simp [hg, hdc, ht, hpl, hput])
    [some p, some q, some f, some (.loc S.length), o3, o4] ⟨_, _, rfl⟩
  rw [set_new] at h1
  obtain ⟨L, e, tl⟩ := T_law_told_ok (tab_new S T') h3.nd (by omega)
  refine ⟨L, [.dT (encT T')], ?_, .of tl h3 h5 h4⟩
  rw [show encT [] = [] from rfl] at hc
  simp [T__law_sum, b__law_sum, hp, hq] at h1 ⊢
  simp [hc, hq, h1, e]
/-- all products, in the order of the program -/
def prodA (P Q : Tb) : Tb := Q.flatMap fun b => mulBy P b.1 b.2
/-- all products, in the order of the law -/
def prodB (P Q : Tb) : Tb := P.flatMap fun a => Q.map fun b => (addM a.1 b.1, a.2 * b.2)
theorem acc_swap (P Q : Tb) (m : Mon) : acc (prodA P Q) m = acc (prodB P Q) m := by
  induction P with
  | nil =>
    induction Q with
    | nil => rfl
    | cons b Q ih => simp only [prodA, List.flatMap_cons, acc_append, prodB, List.flatMap_nil] at ih ⊢; rw [ih]; simp [mulBy, acc]; exact Rat.zero_add 0
  | cons a P ih =>
    have e2 : acc (prodB (a :: P) Q) m = acc (Q.map fun b => (addM a.1 b.1, a.2 * b.2)) m + acc (prodB P Q) m := by simp only [prodB, List.flatMap_cons, acc_append]
    have e1 : ∀ Q : Tb, acc (prodA (a :: P) Q) m = acc (Q.map fun b => (addM a.1 b.1, a.2 * b.2)) m + acc (prodA P Q) m := by
      intro Q
      induction Q with
      | nil => simp [prodA, acc]; exact (Rat.zero_add 0).symm
      | cons b Q ihq =>
        have h1 : acc (prodA (a :: P) (b :: Q)) m = acc (mulBy (a :: P) b.1 b.2) m + acc (prodA (a :: P) Q) m := by simp only [prodA, List.flatMap_cons, acc_append]
        have h2 : acc (prodA P (b :: Q)) m = acc (mulBy P b.1 b.2) m + acc (prodA P Q) m := by simp only [prodA, List.flatMap_cons, acc_append]
        have h3 : acc (mulBy (a :: P) b.1 b.2) m = (if addM a.1 b.1 = m then a.2 * b.2 else 0) + acc (mulBy P b.1 b.2) m := by simp only [mulBy, List.map_cons, acc_cons]
        rw [h1, h2, h3, ihq, List.map_cons, acc_cons]
        generalize (if addM a.1 b.1 = m then a.2 * b.2 else 0) = x1
        generalize acc (mulBy P b.1 b.2) m = x2
        generalize acc (Q.map fun b => (addM a.1 b.1, a.2 * b.2)) m = x3
        generalize acc (prodA P Q) m = x4
        rw [Rat.add_assoc, Rat.add_assoc, Rat.add_left_comm x2 x3 x4]
    rw [e1, e2, ih]
theorem len_prodA (P : Tb) : ∀ Q : Tb, (prodA P Q).length = Q.length * P.length
  | [] => by simp [prodA]
  | b :: Q => by
    have ih := len_prodA P Q
    have : prodA P (b :: Q) = mulBy P b.1 b.2 ++ prodA P Q := by simp [prodA]
    rw [this, List.length_append, ih, List.length_cons, Nat.add_mul]
    simp [mulBy]; omega
theorem len_prodB (P : Tb) (Q : Tb) : (prodB P Q).length = P.length * Q.length := by
  induction P with
  | nil => simp [prodB]
  | cons a P ih =>
    have : prodB (a :: P) Q = (Q.map fun b => (addM a.1 b.1, a.2 * b.2)) ++ prodB P Q := by simp [prodB]
    rw [this, List.length_append, ih, List.length_cons, Nat.add_mul]
    simp; omega
theorem T_multiplied_ok {N M B : Nat} {S : Sto} {P Q : Tb} {p q : D} (hp : p.seq? = some (polyL P)) (hq : q.seq? = some (polyL Q)) (hPl : ∀ a ∈ P, a.1.length = N) (hQl : ∀ a ∈ Q, a.1.length = N) (hN : 0 < N) (hN2 : N ≤ LN) (hM : M ≠ 0)
    (hsP : ∀ a ∈ P, Sm a.2) (hsQ : ∀ a ∈ Q, Sm a.2) (hB : ∀ a ∈ P, ∀ b ∈ Q, CB M B (a.2 * b.2)) (hM4 : M < 2 ^ 400) (hB4 : Q.length * (P.length * B) + B < 2 ^ 400) (hl : Q.length * P.length < LN) :
    ∃ L g, T_multiplied [p, q] S = .ok (.tup (polyL L)) (S ++ g) ∧ PolyIs N (Q.length * P.length) (acc (prodA P Q)) L := by
  have hLN : LN = 16777216 := rfl
  obtain ⟨env', S', h1, L1, L2, T1, o1, o2, e1, e2, rfl, e4, e5, e6, e7⟩ := forD_rule (g := gTup' 2 (gCons' (gN 3) (gCons' (gN 4) gNil'))) (f := (sExpr (eCall 4 T_add_to (aCons (eVar 2) (aCons (eVar 0) (aCons (eVar 3) (aCons (eVar 4) aNil)))))))
    (fun ds env S1 => ∃ L1 L2 T1 o1 o2, Q = L1 ++ L2 ∧ ds = polyL L2 ∧ env = [some p, some q, some (.loc S.length), o1, o2] ∧ S1 = S ++ [.dT (encT T1)] ∧ TbOk N T1 ∧ bumps [] (prodA P L1) T1 ∧ T1.length ≤ L1.length * P.length)
    (by
      rintro d ds env S1 ⟨L1, L2, T1, o1, o2, e1, e2, rfl, rfl, e5, e6, e7⟩
      cases L2 with
      | nil => simp [polyL] at e2
      | cons b L2 =>
        simp only [polyL, List.map_cons, List.cons.injEq] at e2
        obtain ⟨rfl, rfl⟩ := e2
        have hb : b ∈ Q := by rw [e1]; simp
        have hL1 : L1.length + 1 ≤ Q.length := by rw [e1]; simp
        have hplen := len_prodA P L1
        have hcb : ∀ k, CB M (L1.length * P.length * B) (cf T1 k) := fun k => by
          have := e6.cb hM (fun k => CB.zero M 0) (B := B) (fun c hc => by
            unfold prodA at hc
            obtain ⟨b', hb', hc⟩ := List.mem_flatMap.mp hc
            obtain ⟨a', ha', rfl⟩ := List.mem_map.mp hc
            exact hB a' ha' b' (by rw [e1]; exact List.mem_append_left _ hb')) k
          rw [hplen] at this
          simpa using this
        have hle : L1.length * P.length * B + P.length * B ≤ Q.length * (P.length * B) := by
          rw [Nat.mul_assoc]
          have h2 : L1.length * (P.length * B) + P.length * B = (L1.length + 1) * (P.length * B) := by rw [Nat.add_mul, Nat.one_mul]
          rw [h2]
          exact Nat.mul_le_mul_right _ hL1
        have hle2 : L1.length * P.length + P.length ≤ Q.length * P.length := by
          have h2 : L1.length * P.length + P.length = (L1.length + 1) * P.length := by rw [Nat.add_mul, Nat.one_mul]
          rw [h2]
          exact Nat.mul_le_mul_right _ hL1
        obtain ⟨T2, g1, g2, g3, g4⟩ := T_add_to_ok (tab_new S T1) e5 hp hPl (hQl b hb) (fr_frD b.2) hN2 hM (hsQ b hb) hsP (fun a ha => hB a ha b hb) hcb hM4 (by omega) (by omega) (by omega)
        rw [set_new] at g1
        refine ⟨([some p, some q, some (.loc S.length), some (mD b.1), some (frD b.2)], S ++ [.dT (encT T1)]), [some p, some q, some (.loc S.length), some (mD b.1), some (frD b.2)], _, by simp [tmD], by simp [g1], L1 ++ [b], L2, T2, _, _, by rw [e1]; simp, rfl, rfl, rfl, g2, ?_, ?_⟩
        · have : prodA P (L1 ++ [b]) = prodA P L1 ++ mulBy P b.1 b.2 := by simp [prodA]
          rw [this]; exact e6.trans g3
        · rw [List.length_append, Nat.add_mul]; simp; omega)
    (polyL Q) [some p, some q, some (.loc S.length), none, none] (S ++ [.dT []]) ⟨[], Q, [], none, none, rfl, rfl, rfl, rfl, TbOk.nil N, bumps.nil [], by simp⟩
  have hL2 : L2 = [] := by
    cases L2 with
    | nil => rfl
    | cons a L2 => simp [polyL] at e2
  subst hL2
  rw [List.append_nil] at e1
  subst e1
  subst e4
  obtain ⟨L, e, tl⟩ := T_told_ok (tab_new S T1) e5.nd (e5.ne hN) (by omega)
  refine ⟨L, [.dT (encT T1)], ?_, .of tl e5 e7 fun k => by rw [e6 k]; show (0 : Rat) + _ = _; rw [Rat.zero_add]⟩
  simp [T_multiplied, b_multiplied, hq] at h1 ⊢
  simp [h1, e]
/-- one key of the law's product: its parts are added, place by place -/
theorem law_key (a b : Mon) (N : Nat) (S : Sto) (ha : a.length = N) (hb : b.length = N) (hN : N < 1000) (v0 v1 v2 v4 v6 : Option D) (o7 o8 : Option D) :
    compD [8] (gN 8) tYes' (eBin oAdd (eIx (eVar 3) (eVar 8)) (eIx (eVar 5) (eVar 8))) [v0, v1, v2, some (mD a), v4, some (mD b), v6, o7, o8] (rngD 0 N) [] S = .ok ((addM a b).map .int) S := by
  have ec := compD_map (vs := [8]) (g := gN 8) (q := tYes') (te := eBin oAdd (eIx (eVar 3) (eVar 8)) (eIx (eVar 5) (eVar 8))) (env := [v0, v1, v2, some (mD a), v4, some (mD b), v6, o7, o8]) (S := S)
    (fun i : Nat => D.int (0 + i)) (fun _ => true) (fun i => .int (a[i]?.getD 0 + b[i]?.getD 0)) (List.range N) [] (fun i hi => ⟨[v0, v1, v2, some (mD a), v4, some (mD b), v6, o7, some (.int i)], by simp [wipeA], by simp, fun _ => by
      have hi' : i < N := List.mem_range.mp hi
      have h1 : a[i]? = some a[i] := List.getElem?_eq_getElem (by omega)
      have h2 : b[i]? = some b[i] := List.getElem?_eq_getElem (by omega)
      simp [mD, h1, h2]⟩) (by have hLN : LN = 16777216 := rfl; simp only [List.length_nil, List.length_range]; omega)
  have hf : ((List.range N).filter fun _ => true) = List.range N := List.filter_eq_self.mpr fun _ _ => rfl
  rw [hf, List.nil_append] at ec
  show compD _ _ _ _ _ ((List.range N).map fun (i : Nat) => D.int (0 + i)) _ _ = _
  rw [ec]
  congr 1
  refine List.ext_getElem? fun i => ?_
  unfold addM
  rw [List.getElem?_map, List.getElem?_map, List.getElem?_zipWith]
  by_cases hi : i < N
  · rw [List.getElem?_range hi, List.getElem?_eq_getElem (show i < a.length by omega), List.getElem?_eq_getElem (show i < b.length by omega)]; simp [List.getElem?_eq_getElem (show i < a.length by omega), List.getElem?_eq_getElem (show i < b.length by omega)]
  · rw [List.getElem?_eq_none (by simpa using hi), List.getElem?_eq_none (show a.length ≤ i by omega)]; rfl
theorem rng1_int {j : Int} (S : Sto) (h : -1000000 ≤ j ∧ j < 1000000) : iRng1K [.int j] S = .ok (rngD 0 j.toNat) S := by
  simp only [iRng1K]
  rw [if_pos (rngB_iff.mpr h)]
theorem rng1_nat {j : Nat} (S : Sto) (h : j < 1000000) : iRng1K [.int j] S = .ok (rngD 0 j) S := by
  rw [rng1_int S ⟨by omega, by omega⟩, Int.toNat_natCast]
abbrev lpBody : EvS := (sSeq (sSet 7 (eOfL gTup (lComp [8] (iRng1' (aCons (eCB gLenD (aCons (eVar 3) aNil)) aNil)) (gN 8) tYes' (eBin oAdd (eIx (eVar 3) (eVar 8)) (eIx (eVar 5) (eVar 8))))))
            (sPut' dPutD (eVar 2) (eVar 7) (eCall 2 T__law_plus (aCons (eGet2' (eVar 2) (eVar 7) (eTup (aCons (eC (.int 0)) (aCons (eC (.int 1)) aNil)))) (aCons (eCall 2 T__law_times (aCons (eVar 4) (aCons (eVar 6) aNil))) aNil)))))
theorem law_prod_step {N n : Nat} {S1 : Sto} {T3 : Tb} {a b : Mon × Rat} (p q : D) (ha : a.1.length = N) (hb : b.1.length = N) (hN2 : N < 1000) (hsa : Sm a.2) (hsb : Sm b.2) (hS1 : tabAt S1 n T3) (hl1 : T3.length < LN) (s1 : Sm (cf T3 (addM a.1 b.1))) (s2 : Sm (a.2 * b.2)) (p5 p6 p7 p8 : Option D) :
    gTup' 2 (gCons' (gN 5) (gCons' (gN 6) gNil')) (tmD b) [some p, some q, some (.loc n), some (mD a.1), some (frD a.2), p5, p6, p7, p8] S1 = some ([some p, some q, some (.loc n), some (mD a.1), some (frD a.2), some (mD b.1), some (frD b.2), p7, p8], S1) ∧
    lpBody [some p, some q, some (.loc n), some (mD a.1), some (frD a.2), some (mD b.1), some (frD b.2), p7, p8] S1 =
      .nx [some p, some q, some (.loc n), some (mD a.1), some (frD a.2), some (mD b.1), some (frD b.2), some (mD (addM a.1 b.1)), p8] (S1.set n (.dT (encT (pt T3 (addM a.1 b.1) (cf T3 (addM a.1 b.1) + a.2 * b.2))))) := by
  have hg := get_T (.inl hS1) (addM a.1 b.1)
  have hdc := dc_T hS1
  have ht : T__law_times [frD a.2, frD b.2] S1 = .ok (frD (a.2 * b.2)) S1 := T_law_times_ok S1 (fr_frD _) (fr_frD _) hsa hsb
  have hpl : T__law_plus [((lk T3 (addM a.1 b.1)).map frD).getD (.tup [.int 0, .int 1]), frD (a.2 * b.2)] S1 = .ok (frD (cf T3 (addM a.1 b.1) + a.2 * b.2)) S1 := T_law_plus_ok S1 (fr_get T3 _ fr_zeroT) (fr_frD _) s1 s2
  have hput := put_T hS1 hl1 (addM a.1 b.1) (cf T3 (addM a.1 b.1) + a.2 * b.2)
  have hk := law_key a.1 b.1 N S1 ha hb hN2 (some p) (some q) (some (.loc n)) (some (frD a.2)) (some (frD b.2)) p7 p8
  have hlenD : gLenD [mD a.1] S1 = some (.int N) := by simp [gLenD, lenD, mD, ha]
  have hr : iRng1K [.int N] S1 = .ok (rngD 0 N) S1 := rng1_nat S1 (by omega)
  have hmd : D.tup ((addM a.1 b.1).map .int) = mD (addM a.1 b.1) := rfl
  refine ⟨by simp [tmD], ?_⟩
  have e1 : (sSet 7 (eOfL gTup (lComp [8] (iRng1' (aCons (eCB gLenD (aCons (eVar 3) aNil)) aNil)) (gN 8) tYes' (eBin oAdd (eIx (eVar 3) (eVar 8)) (eIx (eVar 5) (eVar 8)))))) [some p, some q, some (.loc n), some (mD a.1), some (frD a.2), some (mD b.1), some (frD b.2), p7, p8] S1 = .nx [some p, some q, some (.loc n), some (mD a.1), some (frD a.2), some (mD b.1), some (frD b.2), some (mD (addM a.1 b.1)), p8] S1 := by
    simp only [sSet, eOfL, lComp, iRng1', aCons, aNil, eCB]
    simp only [eVar, List.getElem?_cons_succ, List.getElem?_cons_zero, Res.bind, hlenD, ofO, hr, hk]
    simp [hmd]
  show sThen _ _ = _
  rw [e1]
  simp [hg, hdc, ht, hpl, hput]
theorem T_law_product_ok {N M B : Nat} {S : Sto} {P Q : Tb} {p q : D} (hp : p.seq? = some (polyL P)) (hq : q.seq? = some (polyL Q)) (hPl : ∀ a ∈ P, a.1.length = N) (hQl : ∀ a ∈ Q, a.1.length = N) (hN : 0 < N) (hN2 : N < 1000) (hM : M ≠ 0)
    (hsP : ∀ a ∈ P, Sm a.2) (hsQ : ∀ a ∈ Q, Sm a.2) (hB : ∀ a ∈ P, ∀ b ∈ Q, CB M B (a.2 * b.2)) (hM4 : M < 2 ^ 400) (hB4 : P.length * (Q.length * B) + B < 2 ^ 400) (hl : P.length * Q.length < LN) :
    ∃ L g, T__law_product [p, q] S = .ok (.fup (polyL L)) (S ++ g) ∧ PolyIs N (P.length * Q.length) (acc (prodB P Q)) L := by
  have hLN : LN = 16777216 := rfl
  obtain ⟨env', S', h1, L1, L2, T1, o3, o4, o5, o6, o7, o8, e1, e2, rfl, e4, e5, e6, e7⟩ := forD_rule (g := gTup' 2 (gCons' (gN 3) (gCons' (gN 4) gNil'))) (f := (sFor (iTup' (eVar 1)) (gTup' 2 (gCons' (gN 5) (gCons' (gN 6) gNil'))) (sSeq (sSet 7 (eOfL gTup (lComp [8] (iRng1' (aCons (eCB gLenD (aCons (eVar 3) aNil)) aNil)) (gN 8) tYes' (eBin oAdd (eIx (eVar 3) (eVar 8)) (eIx (eVar 5) (eVar 8))))))
    (sPut' dPutD (eVar 2) (eVar 7) (eCall 2 T__law_plus (aCons (eGet2' (eVar 2) (eVar 7) (eTup (aCons (eC (.int 0)) (aCons (eC (.int 1)) aNil)))) (aCons (eCall 2 T__law_times (aCons (eVar 4) (aCons (eVar 6) aNil))) aNil)))))))
    (fun ds env S1 => ∃ L1 L2 T1 o3 o4 o5 o6 o7 o8, P = L1 ++ L2 ∧ ds = polyL L2 ∧ env = [some p, some q, some (.loc S.length), o3, o4, o5, o6, o7, o8] ∧ S1 = S ++ [.dT (encT T1)] ∧ TbOk N T1 ∧ bumps [] (prodB L1 Q) T1 ∧ T1.length ≤ L1.length * Q.length)
    (by
      rintro d ds env S1 ⟨L1, L2, T1, o3, o4, o5, o6, o7, o8, e1, e2, rfl, rfl, e5, e6, e7⟩
      cases L2 with
      | nil => simp [polyL] at e2
      | cons a L2 =>
        simp only [polyL, List.map_cons, List.cons.injEq] at e2
        obtain ⟨rfl, rfl⟩ := e2
        have ha : a ∈ P := by rw [e1]; simp
        have hL1 : L1.length + 1 ≤ P.length := by rw [e1]; simp
        have hplen := len_prodB L1 Q
        have hcb : ∀ k, CB M (L1.length * Q.length * B) (cf T1 k) := fun k => by
          have := e6.cb hM (fun k => CB.zero M 0) (B := B) (fun c hc => by
            unfold prodB at hc
            obtain ⟨a', ha', hc⟩ := List.mem_flatMap.mp hc
            obtain ⟨b', hb', rfl⟩ := List.mem_map.mp hc
            exact hB a' (by rw [e1]; exact List.mem_append_left _ ha') b' hb') k
          rw [hplen] at this
          simpa using this
        have hle : L1.length * Q.length * B + Q.length * B ≤ P.length * (Q.length * B) := by
          rw [Nat.mul_assoc]
          have h2 : L1.length * (Q.length * B) + Q.length * B = (L1.length + 1) * (Q.length * B) := by rw [Nat.add_mul, Nat.one_mul]
          rw [h2]
          exact Nat.mul_le_mul_right _ hL1
        have hle2 : L1.length * Q.length + Q.length ≤ P.length * Q.length := by
          have h2 : L1.length * Q.length + Q.length = (L1.length + 1) * Q.length := by rw [Nat.add_mul, Nat.one_mul]
          rw [h2]
          exact Nat.mul_le_mul_right _ hL1
        obtain ⟨env', T2, g1, ⟨p5, p6, p7, p8, rfl⟩, g2, g3, g4⟩ := bump_loop (g := gTup' 2 (gCons' (gN 5) (gCons' (gN 6) gNil'))) (f := (sSeq (sSet 7 (eOfL gTup (lComp [8] (iRng1' (aCons (eCB gLenD (aCons (eVar 3) aNil)) aNil)) (gN 8) tYes' (eBin oAdd (eIx (eVar 3) (eVar 8)) (eIx (eVar 5) (eVar 8))))))
            (sPut' dPutD (eVar 2) (eVar 7) (eCall 2 T__law_plus (aCons (eGet2' (eVar 2) (eVar 7) (eTup (aCons (eC (.int 0)) (aCons (eC (.int 1)) aNil)))) (aCons (eCall 2 T__law_times (aCons (eVar 4) (aCons (eVar 6) aNil))) aNil))))))
          (h := fun b => (addM a.1 b.1, a.2 * b.2)) (R := Q.map fun b => (addM a.1 b.1, a.2 * b.2)) (Q := Q)
          (fun env => ∃ p5 p6 p7 p8, env = [some p, some q, some (.loc S.length), some (mD a.1), some (frD a.2), p5, p6, p7, p8]) (tab_new S T1) e5 rfl (fun b hb => addM_len (hPl a ha) (hQl b hb)) hM (fun b hb => hB a ha b hb) hcb hM4 (by omega) (by omega) (by omega)
          (by
            rintro b hb env S1 T3 ⟨p5, p6, p7, p8, rfl⟩ hS1 ok1 hl1 s1 s2
            obtain ⟨w1, w2⟩ := law_prod_step p q (hPl a ha) (hQl b hb) hN2 (hsP a ha) (hsQ b hb) hS1 hl1 s1 s2 p5 p6 p7 p8
            exact ⟨_, _, w1, w2, _, _, _, _, rfl⟩)
          [some p, some q, some (.loc S.length), some (mD a.1), some (frD a.2), o5, o6, o7, o8] ⟨_, _, _, _, rfl⟩
        rw [set_new] at g1
        refine ⟨([some p, some q, some (.loc S.length), some (mD a.1), some (frD a.2), o5, o6, o7, o8], S ++ [.dT (encT T1)]), _, S ++ [.dT (encT T2)], by simp [tmD], ?_, L1 ++ [a], L2, T2, some (mD a.1), some (frD a.2), p5, p6, p7, p8, by rw [e1]; simp, rfl, rfl, rfl, g2, ?_, ?_⟩
        · simp only [sFor, iTup', eVar, iTupK]
          simp [hq] at g1 ⊢
          simp [g1]
        · have : prodB (L1 ++ [a]) Q = prodB L1 Q ++ Q.map fun b => (addM a.1 b.1, a.2 * b.2) := by simp [prodB]
          rw [this]; exact e6.trans g3
        · rw [List.length_append, Nat.add_mul]; simp; omega)
    (polyL P) [some p, some q, some (.loc S.length), none, none, none, none, none, none] (S ++ [.dT []]) ⟨[], P, [], none, none, none, none, none, none, rfl, rfl, rfl, rfl, TbOk.nil N, bumps.nil [], by simp⟩
  have hL2 : L2 = [] := by
    cases L2 with
    | nil => rfl
    | cons a L2 => simp [polyL] at e2
  subst hL2
  rw [List.append_nil] at e1
  subst e1
  subst e4
  obtain ⟨L, e, tl⟩ := T_law_told_ok (tab_new S T1) e5.nd (by omega)
  refine ⟨L, [.dT (encT T1)], ?_, .of tl e5 e7 fun k => by rw [e6 k]; show (0 : Rat) + _ = _; rw [Rat.zero_add]⟩
  simp [T__law_product, b__law_product, hp] at h1 ⊢
  simp [h1, e]
end DV
/-! P7: scaled, less, raised, degree. -/
namespace DV
open PySem L2
open Classical in
/-- THE polynomial with these coefficients -/
noncomputable def canonOf (f : Mon → Rat) : Tb := if h : ∃ L, Canon L ∧ ∀ k, cf L k = f k then h.choose else []
theorem PolyIs.eq {N c : Nat} {f : Mon → Rat} {L : Tb} (h : PolyIs N c f L) : L = canonOf f := by
  have hx : ∃ L, Canon L ∧ ∀ k, DV.cf L k = f k := ⟨L, h.cn, h.cf⟩
  unfold canonOf
  rw [dif_pos hx]
  exact canon_ext h.cn hx.choose_spec.1 fun k => by rw [h.cf, hx.choose_spec.2]
theorem PolyIs.cb {N c M B : Nat} {f : Mon → Rat} {L : Tb} (h : PolyIs N c f L) (hf : ∀ k, CB M B (f k)) : ∀ a ∈ L, CB M B a.2 := fun a ha => by
  rw [← cf_mem h.cn.nd ha, h.cf]; exact hf _
theorem PolyIs.congr {N c : Nat} {f g : Mon → Rat} {L : Tb} (h : PolyIs N c f L) (e : ∀ k, f k = g k) : PolyIs N c g L := ⟨h.cn, fun k => by rw [h.cf, e], h.ln, h.le⟩
def scaleL (Q : Tb) (y : Rat) : Tb := if y = 0 then [] else Q.map fun a => (a.1, a.2 * y)
theorem acc_zero {Q : Tb} (h : ∀ a ∈ Q, a.2 = 0) (k : Mon) : acc Q k = 0 := by
  induction Q with
  | nil => rfl
  | cons a Q ih =>
    rw [acc_cons, ih fun b hb => h b (List.mem_cons_of_mem _ hb), h a List.mem_cons_self]
    simp
    exact Rat.zero_add 0
theorem scale_poly {N : Nat} {Q : Tb} {y : Rat} (hQ : Canon Q) (hl : ∀ a ∈ Q, a.1.length = N) : PolyIs N Q.length (acc (Q.map fun a => (a.1, a.2 * y))) (scaleL Q y) := by
  unfold scaleL
  by_cases hy : y = 0
  · rw [if_pos hy]
    refine ⟨⟨List.Pairwise.nil, fun _ h => (by cases h)⟩, fun k => ?_, fun _ h => (by cases h), Nat.zero_le _⟩
    rw [acc_zero fun a ha => ?_]; rfl
    obtain ⟨b, _, rfl⟩ := List.mem_map.mp ha
    simp [hy]
  · rw [if_neg hy]
    have cn : Canon (Q.map fun a => (a.1, a.2 * y)) := by
      refine ⟨?_, fun a ha => ?_⟩
      · rw [List.pairwise_map]; exact hQ.up
      · obtain ⟨b, hb, rfl⟩ := List.mem_map.mp ha
        intro e
        rcases Rat.mul_eq_zero.mp e with h | h
        · exact hQ.nz b hb h
        · exact hy h
    refine ⟨cn, fun k => (acc_canon cn.nd k).symm, fun a ha => ?_, by simp⟩
    obtain ⟨b, hb, rfl⟩ := List.mem_map.mp ha
    exact hl b hb
theorem T_scaled_ok {S : Sto} {Q : Tb} {q f : D} {y : Rat} (hq : q.seq? = some (polyL Q)) (hf : fr? f y) (hy : Sm y) (hs : ∀ a ∈ Q, Sm a.2) (hl : Q.length ≤ LN) : T_scaled [q, f] S = .ok (.tup (polyL (scaleL Q y))) S := by
  have ec := compD_map (vs := [2, 3]) (g := gTup' 2 (gCons' (gN 2) (gCons' (gN 3) gNil'))) (q := tYes') (te := eTup (aCons (eVar 2) (aCons (eCall 2 T_times (aCons (eVar 3) (aCons (eVar 1) aNil))) aNil))) (env := [some q, some f, none, none]) (S := S)
    tmD (fun _ => true) (fun a => tmD (a.1, a.2 * y)) Q [] (fun a ha => ⟨[some q, some f, some (mD a.1), some (frD a.2)], by simp [wipeA, tmD], by simp, fun _ => by
      have ht : T_times [frD a.2, f] S = .ok (frD (a.2 * y)) S := T_times_ok S (fr_frD _) hf (hs a ha) hy
      simp [ht, tmD]⟩) (by simpa using hl)
  have hfl : (Q.filter fun _ => true) = Q := List.filter_eq_self.mpr fun _ _ => rfl
  rw [hfl, List.nil_append] at ec
  have e0 := fr_ix0 (S := S) hf
  by_cases h0 : y = 0
  · have : y.num = 0 := by rw [h0]; rfl
    simp [T_scaled, b_scaled, e0, this, scaleL, h0, polyL]
  · have : ¬ y.num = 0 := fun e => h0 (Rat.num_eq_zero.mp e)
    have e2 : polyL (scaleL Q y) = Q.map fun a => tmD (a.1, a.2 * y) := by simp [polyL, scaleL, h0]
    rw [e2]
    simp [T_scaled, b_scaled, e0, this, hq, polyL, ec]
theorem fr_minus : fr? (.tup [.int (-1), .int 1]) (-1) := rfl
theorem sm_minus : Sm (-1) := ⟨Nat.one_lt_two_pow (by decide), Nat.one_lt_two_pow (by decide)⟩
theorem sm_one : Sm 1 := ⟨Nat.one_lt_two_pow (by decide), Nat.one_lt_two_pow (by decide)⟩
theorem sm_zero : Sm 0 := ⟨Nat.pow_pos (by decide), Nat.one_lt_two_pow (by decide)⟩
theorem CB.neg {M B : Nat} {x : Rat} (h : CB M B x) : CB M B (x * -1) := by
  have := h.mul (N := 1) (C := 1) (y := -1) ⟨-1, rfl, by decide⟩
  simpa using this
theorem scale_cb {M B : Nat} {Q : Tb} {y : Rat} (hB : ∀ a ∈ Q, CB M B (a.2 * y)) : ∀ a ∈ scaleL Q y, CB M B a.2 := by
  unfold scaleL
  split
  · exact fun _ h => nomatch h
  · intro a ha
    obtain ⟨b, hb, rfl⟩ := List.mem_map.mp ha
    exact hB b hb
theorem T_less_ok {N M B B0 : Nat} {S : Sto} {P Q : Tb} {q : D} (hq : q.seq? = some (polyL Q)) (hP : Canon P) (hQ : Canon Q) (hPl : ∀ a ∈ P, a.1.length = N) (hQl : ∀ a ∈ Q, a.1.length = N) (hN : 0 < N) (hM : M ≠ 0)
    (hB : ∀ a ∈ Q, CB M B a.2) (h0 : ∀ k, CB M B0 (cf P k)) (hM4 : M < 2 ^ 400) (hB4 : B0 + Q.length * B < 2 ^ 400) (hB5 : B < 2 ^ 400) (hl : P.length + Q.length < LN) :
    ∃ L g, T_less [.fup (polyL P), q] S = .ok (.tup (polyL L)) (S ++ g) ∧ PolyIs N (P.length + Q.length) (fun k => cf P k + acc (Q.map fun a => (a.1, a.2 * -1)) k) L := by
  have hs : ∀ a ∈ Q, Sm a.2 := fun a ha => (hB a ha).sm hM4 hB5
  have e1 : T_scaled [q, .tup [.int (-1), .int 1]] S = .ok (.tup (polyL (scaleL Q (-1)))) S := T_scaled_ok hq fr_minus sm_minus hs (by omega)
  have sp := scale_poly (y := -1) hQ hQl
  have hlen : (scaleL Q (-1)).length ≤ Q.length := sp.le
  have hle : (scaleL Q (-1)).length * B ≤ Q.length * B := Nat.mul_le_mul_right _ hlen
  obtain ⟨L, g, e2, pl⟩ := T_added_ok (S := S) (P := P) (q := .tup (polyL (scaleL Q (-1)))) (Q := scaleL Q (-1)) rfl hP hPl sp.ln hN hM (scale_cb fun a ha => (hB a ha).neg) h0 hM4 (by omega) hB5 (by omega)
  refine ⟨L, g, ?_, ⟨pl.cn, fun k => ?_, pl.ln, by have := pl.le; omega⟩⟩
  · simp [T_less, b_less, e1, e2]
  · rw [pl.cf, acc_canon sp.cn.nd, sp.cf]
/-! ### powers -/
noncomputable def cpow (P : Tb) : Nat → Tb
  | 0 => P
  | j + 1 => canonOf (acc (prodA (cpow P j) P))
/-- what is known of a polynomial -/
structure PB (N c M B : Nat) (L : Tb) : Prop where
  cn : Canon L
  ln : ∀ a ∈ L, a.1.length = N
  le : L.length ≤ c
  cb : ∀ a ∈ L, CB M B a.2
theorem prodA_cb {M M' B B' : Nat} {P Q : Tb} (hP : ∀ a ∈ P, CB M B a.2) (hQ : ∀ a ∈ Q, CB M' B' a.2) : ∀ a ∈ P, ∀ b ∈ Q, CB (M * M') (B * B') (a.2 * b.2) := fun a ha b hb => (hP a ha).mul (hQ b hb)
theorem acc_prodA_cb {M B : Nat} {P Q : Tb} (hM : M ≠ 0) (h : ∀ a ∈ P, ∀ b ∈ Q, CB M B (a.2 * b.2)) (k : Mon) : CB M (Q.length * P.length * B) (acc (prodA P Q) k) := by
  rw [← len_prodA]
  refine acc_cb hM (fun c hc => ?_) k
  unfold prodA at hc
  obtain ⟨b', hb', hc⟩ := List.mem_flatMap.mp hc
  obtain ⟨a', ha', rfl⟩ := List.mem_map.mp hc
  exact h a' ha' b' hb'
theorem PB.sm {N c M B : Nat} {L : Tb} (h : PB N c M B L) (hM : M < 2 ^ 400) (hB : B < 2 ^ 400) : ∀ a ∈ L, Sm a.2 := fun a ha => (h.cb a ha).sm hM hB
/-- one more factor, both ways -/
theorem pow_step {N c M B b j : Nat} {P : Tb} {p : D} (hp : p.seq? = some (polyL P)) (pb : PB N 5 42 b P) (hj : PB N c M B (cpow P j)) (hN : 0 < N) (hN2 : N < 1000) (hM : M ≠ 0) (hM4 : M * 42 < 2 ^ 400) (hB4 : 6 * (c + 1) * (B * b) < 2 ^ 400) (hb : b < 2 ^ 400) (hB : B < 2 ^ 400) (hc : 5 * c < LN) :
    PB N (5 * c) (M * 42) (5 * c * (B * b)) (cpow P (j + 1)) ∧ (∀ (d : D) (S : Sto), d.seq? = some (polyL (cpow P j)) → ∃ g, T_multiplied [d, p] S = .ok (.tup (polyL (cpow P (j + 1)))) (S ++ g)) ∧
      (∀ (d : D) (S : Sto), d.seq? = some (polyL (cpow P j)) → ∃ g, T__law_product [d, p] S = .ok (.fup (polyL (cpow P (j + 1)))) (S ++ g)) ∧ ∀ k, cf (cpow P (j + 1)) k = acc (prodA (cpow P j) P) k := by
  have hcb := prodA_cb hj.cb pb.cb
  have hM42 : M * 42 ≠ 0 := by omega
  have hM4' : M < 2 ^ 400 := by omega
  have s1 := hj.sm hM4' hB
  have s2 := pb.sm (show 42 < 2 ^ 400 from Nat.lt_of_lt_of_le (show 42 < 2 ^ 6 by decide) (Nat.pow_le_pow_right (by decide) (by decide))) hb
  have l1 : P.length * (cpow P j).length ≤ 5 * c := Nat.mul_le_mul pb.le hj.le
  have l2 : P.length * ((cpow P j).length * (B * b)) ≤ 5 * c * (B * b) := by rw [← Nat.mul_assoc]; exact Nat.mul_le_mul_right _ l1
  have l3 : (cpow P j).length * (P.length * (B * b)) ≤ 5 * c * (B * b) := by rw [← Nat.mul_assoc, Nat.mul_comm (cpow P j).length]; exact Nat.mul_le_mul_right _ l1
  have l4 : 5 * c * (B * b) + B * b ≤ 6 * (c + 1) * (B * b) := by
    have : 5 * c * (B * b) + B * b = (5 * c + 1) * (B * b) := by rw [Nat.add_mul, Nat.one_mul]
    rw [this]; exact Nat.mul_le_mul_right _ (by omega)
  have A : ∀ (d : D) (S : Sto), d.seq? = some (polyL (cpow P j)) → ∃ L g, T_multiplied [d, p] S = .ok (.tup (polyL L)) (S ++ g) ∧ PolyIs N (P.length * (cpow P j).length) (acc (prodA (cpow P j) P)) L := fun d S hd =>
    T_multiplied_ok hd hp hj.ln pb.ln hN (by have : LN = 16777216 := rfl; omega) hM42 s1 s2 hcb hM4 (by omega) (by omega)
  have Bb : ∀ (d : D) (S : Sto), d.seq? = some (polyL (cpow P j)) → ∃ L g, T__law_product [d, p] S = .ok (.fup (polyL L)) (S ++ g) ∧ PolyIs N ((cpow P j).length * P.length) (acc (prodB (cpow P j) P)) L := fun d S hd =>
    T_law_product_ok hd hp hj.ln pb.ln hN hN2 hM42 s1 s2 hcb hM4 (by omega) (by rw [Nat.mul_comm]; omega)
  refine ⟨?_, fun d S hd => ?_, fun d S hd => ?_, fun k => ?_⟩
  · obtain ⟨L, g, _, pl⟩ := A (.tup (polyL (cpow P j))) [] rfl
    have e : cpow P (j + 1) = L := pl.eq.symm
    rw [e]
    refine ⟨pl.cn, pl.ln, Nat.le_trans pl.le l1, pl.cb fun k => (acc_prodA_cb hM42 hcb k).mono ?_⟩
    exact Nat.mul_le_mul_right _ l1
  · obtain ⟨L, g, e, pl⟩ := A d S hd
    exact ⟨g, by rw [e, pl.eq]; rfl⟩
  · obtain ⟨L, g, e, pl⟩ := Bb d S hd
    refine ⟨g, ?_⟩
    rw [e, (pl.congr fun k => (acc_swap _ _ k).symm).eq]; rfl
  · obtain ⟨L, g, _, pl⟩ := A (.tup (polyL (cpow P j))) [] rfl
    have e : cpow P (j + 1) = L := pl.eq.symm
    rw [e]
    exact pl.cf k
end DV
/-! P8: raised, degree, what is shown. -/
namespace DV
open PySem L2
abbrev bb : Nat := 4200000000000
theorem lt400 {n : Nat} (h : n < 2 ^ 250) : n < 2 ^ 400 := Nat.lt_of_lt_of_le h (Nat.pow_le_pow_right (by decide) (by decide))
/-- the powers of a drawn polynomial -/
structure Powers (N : Nat) (P : Tb) : Prop where
  pb : ∀ i, i ≤ 3 → PB N 625 (42 * 42 * 42 * 42) (625 * (125 * (25 * (bb * bb) * bb) * bb)) (cpow P i) ∨ PB N 625 42 bb (cpow P i) ∨ PB N 625 (42 * 42) (25 * (bb * bb)) (cpow P i) ∨ PB N 625 (42 * 42 * 42) (125 * (25 * (bb * bb) * bb)) (cpow P i)
  mu : ∀ i, i < 3 → ∀ (d p : D) (S : Sto), p.seq? = some (polyL P) → d.seq? = some (polyL (cpow P i)) → ∃ g, T_multiplied [d, p] S = .ok (.tup (polyL (cpow P (i + 1)))) (S ++ g)
  lp : ∀ i, i < 3 → ∀ (d p : D) (S : Sto), p.seq? = some (polyL P) → d.seq? = some (polyL (cpow P i)) → ∃ g, T__law_product [d, p] S = .ok (.fup (polyL (cpow P (i + 1)))) (S ++ g)
  cfp : ∀ i, i < 3 → ∀ k, cf (cpow P (i + 1)) k = acc (prodA (cpow P i) P) k
theorem PB.more {N c c' M B : Nat} {L : Tb} (h : PB N c M B L) (l : c ≤ c') : PB N c' M B L := ⟨h.cn, h.ln, Nat.le_trans h.le l, h.cb⟩
theorem powers_of {N : Nat} {P : Tb} (pb : PB N 5 42 bb P) (hN : 0 < N) (hN2 : N < 1000) : Powers N P := by
  have hLN : LN = 16777216 := rfl
  have q0 : PB N 5 42 bb (cpow P 0) := pb
  have s0 := fun (p : D) (hp : p.seq? = some (polyL P)) => pow_step (j := 0) hp pb q0 hN hN2 (by decide) (lt400 (by decide)) (lt400 (by decide)) (lt400 (by decide)) (lt400 (by decide)) (by omega)
  have q1 := (s0 (.tup (polyL P)) rfl).1
  have s1 := fun (p : D) (hp : p.seq? = some (polyL P)) => pow_step (j := 1) hp pb q1 hN hN2 (by decide) (lt400 (by decide)) (lt400 (by decide)) (lt400 (by decide)) (lt400 (by decide)) (by omega)
  have q2 := (s1 (.tup (polyL P)) rfl).1
  have s2 := fun (p : D) (hp : p.seq? = some (polyL P)) => pow_step (j := 2) hp pb q2 hN hN2 (by decide) (lt400 (by decide)) (lt400 (by decide)) (lt400 (by decide)) (lt400 (by decide)) (by omega)
  have q3 := (s2 (.tup (polyL P)) rfl).1
  refine ⟨fun i hi => ?_, fun i hi d p S hp hd => ?_, fun i hi d p S hp hd => ?_, fun i hi => ?_⟩
  · match i, hi with
    | 0, _ => exact .inr (.inl (q0.more (by decide)))
    | 1, _ => exact .inr (.inr (.inl (q1.more (by decide))))
    | 2, _ => exact .inr (.inr (.inr (q2.more (by decide))))
    | 3, _ => exact .inl (q3.more (by decide))
  · match i, hi with
    | 0, _ => exact (s0 p hp).2.1 d S hd
    | 1, _ => exact (s1 p hp).2.1 d S hd
    | 2, _ => exact (s2 p hp).2.1 d S hd
  · match i, hi with
    | 0, _ => exact (s0 p hp).2.2.1 d S hd
    | 1, _ => exact (s1 p hp).2.2.1 d S hd
    | 2, _ => exact (s2 p hp).2.2.1 d S hd
  · match i, hi with
    | 0, _ => exact (s0 (.tup (polyL P)) rfl).2.2.2
    | 1, _ => exact (s1 (.tup (polyL P)) rfl).2.2.2
    | 2, _ => exact (s2 (.tup (polyL P)) rfl).2.2.2
theorem Powers.ent {N : Nat} {P : Tb} (h : Powers N P) (hP : ∀ a ∈ P, ∀ e ∈ a.1, e.natAbs ≤ 3) : ∀ i, i ≤ 3 → ∀ a ∈ cpow P i, ∀ e ∈ a.1, e.natAbs ≤ 3 + 3 * i
  | 0, _ => hP
  | i + 1, hi => fun a ha e he => by
    have ih := Powers.ent h hP i (by omega)
    have cn : Canon (cpow P (i + 1)) := by
      rcases h.pb (i + 1) hi with q | q | q | q <;> exact q.cn
    have hne : acc (prodA (cpow P i) P) a.1 ≠ 0 := by rw [← h.cfp i (by omega), cf_mem cn.nd ha]; exact cn.nz a ha
    have hs : ∃ x ∈ prodA (cpow P i) P, x.1 = a.1 := by
      apply Classical.byContradiction
      intro hno
      apply hne
      have : ∀ l : Tb, (∀ x ∈ l, x.1 ≠ a.1) → acc l a.1 = 0 := fun l => by
        induction l with
        | nil => exact fun _ => rfl
        | cons x l ih => intro hx; rw [acc_cons, if_neg (hx x List.mem_cons_self), ih fun y hy => hx y (List.mem_cons_of_mem _ hy)]; exact Rat.zero_add 0
      exact this _ fun x hx e => hno ⟨x, hx, e⟩
    obtain ⟨x, hx, hxe⟩ := hs
    unfold prodA at hx
    obtain ⟨b, hb, hx⟩ := List.mem_flatMap.mp hx
    obtain ⟨c, hc, rfl⟩ := List.mem_map.mp hx
    rw [← hxe] at he
    unfold addM at he
    obtain ⟨j, hj, rfl⟩ := List.mem_iff_getElem.mp he
    rw [List.getElem_zipWith]
    have h1 := ih c hc _ (List.getElem_mem (by simp at hj; omega : j < c.1.length))
    have h2 := hP b hb _ (List.getElem_mem (by simp at hj; omega : j < b.1.length))
    omega
theorem Powers.le {N : Nat} {P : Tb} (h : Powers N P) {i : Nat} (hi : i ≤ 3) : (cpow P i).length ≤ 625 := by
  rcases h.pb i hi with h | h | h | h <;> exact h.le
theorem len_seq {d : D} {ds : List D} (S : Sto) (h : d.seq? = some ds) : gLenD [d] S = some (.int ds.length) := by
  cases d <;> simp [D.seq?] at h <;> subst h <;> rfl
theorem T_raised_ok {N : Nat} {P : Tb} {p : D} (h : Powers N P) (hp : p.seq? = some (polyL P)) (j : Nat) (hj : j ≤ 3) (S : Sto) : ∃ d g, T_raised [p, .int (j + 1 : Nat)] S = .ok d (S ++ g) ∧ d.seq? = some (polyL (cpow P j)) := by
  obtain ⟨env', S', h1, i, d, o, g, e1, e2, rfl, rfl, e5⟩ := forD_rule (g := gN 3) (f := (sSeq (sSet 2 (eCall 2 T_multiplied (aCons (eVar 2) (aCons (eVar 0) aNil))))
    (sIf (tBin (oBl cGt) (eCB gLenD (aCons (eVar 2) aNil)) (eC (.int 4000))) sNever sNil)))
    (fun ds env S1 => ∃ i d o g, i ≤ j ∧ ds.length = j - i ∧ env = [some p, some (.int (j + 1 : Nat)), some d, o] ∧ S1 = S ++ g ∧ d.seq? = some (polyL (cpow P i)))
    (by
      rintro t ds env S1 ⟨i, d, o, g, e1, e2, rfl, rfl, e5⟩
      simp only [List.length_cons] at e2
      obtain ⟨g2, e6⟩ := h.mu i (by omega) d p (S ++ g) hp e5
      have hlen : gLenD [.tup (polyL (cpow P (i + 1)))] (S ++ g ++ g2) = some (.int (cpow P (i + 1)).length) := by simp [gLenD, lenD, polyL]
      have hle := h.le (show i + 1 ≤ 3 by omega)
      have hno : ¬ ((4000 : Int) < (cpow P (i + 1)).length) := by omega
      refine ⟨([some p, some (.int (j + 1 : Nat)), some d, some t], S ++ g), [some p, some (.int (j + 1 : Nat)), some (.tup (polyL (cpow P (i + 1)))), some t], S ++ g ++ g2, by simp, ?_, i + 1, .tup (polyL (cpow P (i + 1))), some t, g ++ g2, by omega, by omega, rfl, by simp, rfl⟩
      rw [List.append_assoc] at e6 hlen ⊢
      simp [e6, hlen, hno])
    (rngD 0 j) [some p, some (.int (j + 1 : Nat)), some p, none] S ⟨0, p, none, [], Nat.zero_le _, by rw [rng_len]; rfl, rfl, by simp, hp⟩
  have hij : i = j := by simp at e2; omega
  subst hij
  refine ⟨d, g, ?_, e5⟩
  have hr : iRng1K [.int ((i + 1 : Nat) - 1)] S = .ok (rngD 0 i) S := by
    rw [show (((i + 1 : Nat) : Int) - 1) = (i : Int) by omega]
    exact rng1_nat S (by omega)
  simp [T_raised, b_raised] at h1 hr ⊢
  simp [hr, h1]
end DV
/-! P9: the law's draws. -/
namespace DV
open PySem L2
abbrev cMO (c1 c2 c3 : Int) : MO := .lst [.loc 0, .int c1, .int c2, .int c3, .int 20]
structure CSt (ns : List Int) (c1 c2 c3 : Int) (t : Nat) (S : Sto) : Prop where
  s0 : S[0]? = some (.lst (ns.map .int))
  s1 : S[1]? = some (cMO c1 c2 c3)
  n1 : 0 ≤ c1
  n2 : 0 ≤ c2
  n3 : 0 ≤ c3
  t3 : c3 ≤ t
def CS (t : Nat) (S : Sto) : Prop := ∃ ns c1 c2 c3, CSt ns c1 c2 c3 t S
/-- nothing but the draws' state has changed -/
def Keep (S S' : Sto) : Prop := S'.length = S.length ∧ ∀ i, i ≠ 1 → S'[i]? = S[i]?
theorem Keep.refl (S : Sto) : Keep S S := ⟨rfl, fun _ _ => rfl⟩
theorem Keep.trans {S S' S'' : Sto} (h : Keep S S') (h' : Keep S' S'') : Keep S S'' := ⟨h'.1.trans h.1, fun i hi => (h'.2 i hi).trans (h.2 i hi)⟩
theorem Keep.set (S : Sto) (o : MO) : Keep S (S.set 1 o) := ⟨by simp, fun i hi => List.getElem?_set_ne (fun e => hi e.symm)⟩
theorem CSt.lt {ns : List Int} {c1 c2 c3 : Int} {t : Nat} {S : Sto} (h : CSt ns c1 c2 c3 t S) : 1 < S.length := (List.getElem?_eq_some_iff.mp h.s1).1
theorem CSt.set {ns : List Int} {c1 c2 c3 : Int} {t : Nat} {S : Sto} (h : CSt ns c1 c2 c3 t S) {d1 d2 d3 : Int} {u : Nat} (h1 : 0 ≤ d1) (h2 : 0 ≤ d2) (h3 : 0 ≤ d3) (h4 : d3 ≤ u) : CSt ns d1 d2 d3 u (S.set 1 (cMO d1 d2 d3)) :=
  ⟨by rw [List.getElem?_set_ne (by decide)]; exact h.s0, List.getElem?_set_self h.lt, h1, h2, h3, h4⟩
theorem CS.mono {t u : Nat} {S : Sto} (h : CS t S) (l : t ≤ u) : CS u S := by
  obtain ⟨ns, c1, c2, c3, h⟩ := h
  exact ⟨ns, c1, c2, c3, h.s0, h.s1, h.n1, h.n2, h.n3, by have := h.t3; omega⟩
theorem CS.app {t : Nat} {S : Sto} (h : CS t S) (g : Sto) : CS t (S ++ g) := by
  obtain ⟨ns, c1, c2, c3, h⟩ := h
  have := h.lt
  exact ⟨ns, c1, c2, c3, by rw [List.getElem?_append_left (by omega)]; exact h.s0, by rw [List.getElem?_append_left (by omega)]; exact h.s1, h.n1, h.n2, h.n3, h.t3⟩
theorem lgI {x : Int} {k : Nat} (h : x.natAbs < 2 ^ (k + 1)) : x.natAbs.log2 ≤ k := lg h
/-- the last steps of a fill: from the number -/
def fillEnd : EvS := (sSeq (sSet 1 (eBin oMod (eCB gInt (aCons (eBin oAdd (eBin oMul (eVar 1) (eC (.int 48271))) (eBin oMul (eIx (eVar 0) (eC (.int 3))) (eC (.int 69621)))) aNil)) (eC (.int 2147483647))))
    (sRet (eBin oAdd (eBin oDiv (eCB gInt (aCons (eBin oAdd (eBin oAdd (eBin oMul (eVar 1) (eVar 1)) (eBin oMul (eIx (eVar 0) (eC (.int 3))) (eC (.int 7919)))) (eC (.int 11))) aNil)) (eC (.int 64))) (eC (.int 36028797018963968)))))
theorem ix_c {S : Sto} {c1 c2 c3 : Int} (h : S[1]? = some (cMO c1 c2 c3)) : ixD (.loc 1) (.int 3) S = some (.int c3) ∧ ixD (.loc 1) (.int 2) S = some (.int c2) ∧ ixD (.loc 1) (.int 1) S = some (.int c1) ∧ ixD (.loc 1) (.int 0) S = some (.loc 0) := by
  refine ⟨?_, ?_, ?_, ?_⟩ <;> rw [ix_loc h] <;> simp
theorem fillEnd_ok {S : Sto} {c1 c2 c3 x : Int} (h : S[1]? = some (cMO c1 c2 c3)) (h0 : 0 ≤ x) (hx : x < 2 ^ 70) (h3 : 0 ≤ c3) (h3' : c3 < 2 ^ 60) : ∃ y : Int, fillEnd [some (.loc 1), some (.int x)] S = .ret (.int y) S ∧ 36028797018963968 ≤ y := by
  obtain ⟨i3, _, _, _⟩ := ix_c h
  have l1 : x.natAbs.log2 ≤ 69 := lgI (by omega)
  have l2 : c3.natAbs.log2 ≤ 59 := lgI (by omega)
  have k1 : Nat.log2 48271 ≤ 15 := lg (by decide)
  have k2 : Nat.log2 69621 ≤ 16 := lg (by decide)
  have k3 : Nat.log2 7919 ≤ 12 := lg (by decide)
  have k4 : Nat.log2 64 ≤ 6 := lg (by decide)
  have hm0 : 0 ≤ (x * 48271 + c3 * 69621) % 2147483647 := Int.emod_nonneg _ (by decide)
  have hm1 : (x * 48271 + c3 * 69621) % 2147483647 < 2147483647 := Int.emod_lt_of_pos _ (by decide)
  generalize hz : (x * 48271 + c3 * 69621) % 2147483647 = z at hm0 hm1
  have l3 : z.natAbs.log2 ≤ 30 := lgI (by omega)
  have g1 : x.natAbs.log2 + Nat.log2 48271 < 1000000 := by omega
  have g2 : c3.natAbs.log2 + Nat.log2 69621 < 1000000 := by omega
  have g3 : z.natAbs.log2 + z.natAbs.log2 < 1000000 := by omega
  have g4 : c3.natAbs.log2 + Nat.log2 7919 < 1000000 := by omega
  have g5 : Nat.log2 64 < 9000 := by omega
  have hq : 0 ≤ z * z := Int.mul_nonneg hm0 hm0
  refine ⟨(z * z + c3 * 7919 + 11) / 64 + 36028797018963968, ?_, by omega⟩
  simp [fillEnd, i3, g1, g2, hz, g3, g4, g5]
theorem set_c {S : Sto} {c1 c2 c3 : Int} (h : S[1]? = some (cMO c1 c2 c3)) (v : Int) : setLD (.loc 1) (.int 3) (.int v) S = some (S.set 1 (cMO c1 c2 v)) ∧ setLD (.loc 1) (.int 2) (.int v) S = some (S.set 1 (cMO c1 v c3)) ∧ setLD (.loc 1) (.int 1) (.int v) S = some (S.set 1 (cMO v c2 c3)) := by
  refine ⟨?_, ?_, ?_⟩ <;> simp [setLD, mutL, h, cMO, ixN]
theorem last_int {ns : List Int} (h : ns ≠ []) : ∃ v, atI (ns.map D.int) (-1) = some (.int v) := by
  have hl : 0 < ns.length := List.length_pos_iff.mpr h
  have e : ixN (ns.map D.int).length (-1) = some (ns.length - 1) := by
    unfold ixN
    rw [List.length_map, if_neg (by decide), if_pos (by omega)]
    congr 1; omega
  unfold atI
  rw [e, Option.bind_some, List.getElem?_map, List.getElem?_eq_getElem (by omega)]
  exact ⟨_, rfl⟩
/-- where the script is used up, its last number is mixed in -/
def fillMix : EvS := (sSeq (sIf (bAnd (tTru (eIx (eVar 0) (eC (.int 0)))) (tBin (oBl cGe) (eIx (eVar 0) (eC (.int 1))) (eCB gLenD (aCons (eIx (eVar 0) (eC (.int 0))) aNil)))) (sSet 1 (eBin oAdd (eVar 1) (eBin oMod (eCB gInt (aCons (eIx (eIx (eVar 0) (eC (.int 0))) (eUn oNeg (eC (.int 1)))) aNil)) (eC (.int 1000003))))) sNil) fillEnd)
theorem fillMix_ok {S : Sto} {ns : List Int} {c1 c2 c3 x : Int} (s0 : S[0]? = some (.lst (ns.map .int))) (h : S[1]? = some (cMO c1 c2 c3)) (h0 : 0 ≤ x) (hx : x < 2 ^ 69) (h3 : 0 ≤ c3) (h3' : c3 < 2 ^ 60) : ∃ y : Int, fillMix [some (.loc 1), some (.int x)] S = .ret (.int y) S ∧ 36028797018963968 ≤ y := by
  obtain ⟨i3, _, i1, i0⟩ := ix_c h
  have ht : truD (.loc 0) S = some (!ns.isEmpty) := by simp [truD, s0]
  have hl : gLenD [.loc 0] S = some (.int ns.length) := by simp [gLenD, lenD, s0]
  by_cases hn : ns = []
  · subst hn
    obtain ⟨y, e, hy⟩ := fillEnd_ok h h0 (by omega) h3 h3'
    refine ⟨y, ?_, hy⟩
    simp [fillMix, i0, ht, e]
  · have hne : ns.isEmpty = false := by simpa using hn
    by_cases hc : (ns.length : Int) ≤ c1
    · obtain ⟨v, hv⟩ := last_int hn
      have hix : ixD (.loc 0) (.int (-1)) S = some (.int v) := by rw [ix_loc s0]; exact hv
      have m0 : 0 ≤ v % 1000003 := Int.emod_nonneg _ (by decide)
      have m1 : v % 1000003 < 1000003 := Int.emod_lt_of_pos _ (by decide)
      obtain ⟨y, e, hy⟩ := fillEnd_ok h (x := x + v % 1000003) (by omega) (by omega) h3 h3'
      refine ⟨y, ?_, hy⟩
      simp [fillMix, i0, i1, ht, hne, hl, hc, hix, e]
    · obtain ⟨y, e, hy⟩ := fillEnd_ok h h0 (by omega) h3 h3'
      refine ⟨y, ?_, hy⟩
      simp [fillMix, i0, i1, ht, hne, hl, hc, e]
theorem fill_body : b__law_fill = (sSeq (sPut' setLD (eVar 0) (eC (.int 3)) (eBin oAdd (eIx (eVar 0) (eC (.int 3))) (eC (.int 1))))
    (sSeq (sSet 1 (eBin oAdd (eBin oMul (eIx (eVar 0) (eC (.int 3))) (eC (.int 69621))) (eC (.int 12345))))
    (sSeq (sIf (tBin (oBl cLt) (eIx (eVar 0) (eC (.int 1))) (eCB gLenD (aCons (eIx (eVar 0) (eC (.int 0))) aNil))) (sSeq (sSet 1 (eCB gMax2 (aCons (eIx (eIx (eVar 0) (eC (.int 0))) (eIx (eVar 0) (eC (.int 1)))) (aCons (eBin oSub (eBin oSub (eC (.int 0)) (eC (.int 1))) (eIx (eIx (eVar 0) (eC (.int 0))) (eIx (eVar 0) (eC (.int 1))))) aNil))))
    (sSeq (sPut' setLD (eVar 0) (eC (.int 1)) (eBin oAdd (eIx (eVar 0) (eC (.int 1))) (eC (.int 1))))
    (sIf (tBin (oBl cGe) (eVar 1) (eBin oPow (eC (.int 10)) (eC (.int 18)))) (sRet (eVar 1)) sNil))) sNil) fillMix))) := rfl
theorem fill_ok {ns : List Int} {c1 c2 c3 : Int} {t : Nat} {S : Sto} (h : CSt ns c1 c2 c3 t S) (ht : t < 2 ^ 50) : ∃ (y d1 : Int) (S' : Sto), T__law_fill [.loc 1] S = .ok (.int y) S' ∧ 1000 ≤ y ∧ CSt ns d1 c2 (c3 + 1) (t + 1) S' ∧ Keep S S' := by
  have hb := h.t3
  have hn3 := h.n3
  obtain ⟨i3, _, i1, i0⟩ := ix_c h.s1
  obtain ⟨w3, _, _⟩ := set_c h.s1 (c3 + 1)
  have hc1 : CSt ns c1 c2 (c3 + 1) (t + 1) (S.set 1 (cMO c1 c2 (c3 + 1))) := h.set h.n1 h.n2 (by omega) (by omega)
  have kp := Keep.set S (cMO c1 c2 (c3 + 1))
  generalize hS1 : S.set 1 (cMO c1 c2 (c3 + 1)) = S1 at w3 hc1 kp
  obtain ⟨j3, _, j1, j0⟩ := ix_c hc1.s1
  have hl : gLenD [.loc 0] S1 = some (.int ns.length) := by simp [gLenD, lenD, hc1.s0]
  have k2 : Nat.log2 69621 ≤ 16 := lg (by decide)
  have l2 : (c3 + 1).natAbs.log2 ≤ 50 := lgI (by omega)
  have g2 : (c3 + 1).natAbs.log2 + Nat.log2 69621 < 1000000 := by omega
  by_cases hlt : c1 < ns.length
  · obtain ⟨_, _, w1⟩ := set_c hc1.s1 (c1 + 1)
    have hc2 : CSt ns (c1 + 1) c2 (c3 + 1) (t + 1) (S1.set 1 (cMO (c1 + 1) c2 (c3 + 1))) := hc1.set (by have := h.n1; omega) h.n2 (by omega) hc1.t3
    have kp2 := kp.trans (Keep.set S1 (cMO (c1 + 1) c2 (c3 + 1)))
    generalize hS2 : S1.set 1 (cMO (c1 + 1) c2 (c3 + 1)) = S2 at w1 hc2 kp2
    have hget : ∃ v, ixD (.loc 0) (.int c1) S1 = some (.int v) := by
      refine ⟨ns[c1.toNat]'(by have := h.n1; omega), ?_⟩
      rw [ix_loc hc1.s0, atI_nat' h.n1, List.getElem?_map, List.getElem?_eq_getElem (by have := h.n1; omega)]; rfl
    obtain ⟨v, hv⟩ := hget
    generalize hx : (if -1 - v > v then -1 - v else v) = x
    have hx0 : 0 ≤ x := by rw [← hx]; split <;> omega
    have hmx : gMax2 [.int v, .int (-1 - v)] S1 = some (.int x) := by rw [gMax2_int, hx]
    by_cases hbig : (1000000000000000000 : Int) ≤ x
    · refine ⟨x, c1 + 1, S2, ?_, by omega, hc2, kp2⟩
      simp [T__law_fill, fill_body, i3, w3, j3, j1, j0, g2, hl, hlt, hv, hmx, w1, hbig]
    · obtain ⟨y, e, hy⟩ := fillMix_ok hc2.s0 hc2.s1 hx0 (by omega) (by omega) (by omega)
      refine ⟨y, c1 + 1, S2, ?_, by omega, hc2, kp2⟩
      simp [T__law_fill, fill_body, i3, w3, j3, j1, j0, g2, hl, hlt, hv, hmx, w1, hbig, e]
  · obtain ⟨y, e, hy⟩ := fillMix_ok (x := (c3 + 1) * 69621 + 12345) hc1.s0 hc1.s1 (by omega) (by omega) (by omega) (by omega)
    refine ⟨y, c1, S1, ?_, by omega, hc1, kp⟩
    simp [T__law_fill, fill_body, i3, w3, j3, j1, j0, g2, hl, hlt, e]
theorem take_ok {t : Nat} {S : Sto} (h : CS t S) (ht : t < 2 ^ 50) (m : Nat) (hm : 0 < m) (hm2 : m ≤ 1000) : ∃ (d : Nat) (S' : Sto), d < m ∧ T__law_take [.loc 1, .int m] S = .ok (.int d) S' ∧ CS (t + 1) S' ∧ Keep S S' := by
  obtain ⟨ns, c1, c2, c3, h⟩ := h
  obtain ⟨_, i2, _, _⟩ := ix_c h.s1
  have l1 : m.log2 ≤ 9 := lg (by omega)
  have g1 : m.log2 < 9000 := by omega
  -- the state behind the first if
  have key : ∃ (x d1 d3 : Int) (S1 : Sto), (sIf (tBin (oBl cLt) (eIx (eVar 0) (eC (.int 2))) (eVar 1)) (sPut' setLD (eVar 0) (eC (.int 2)) (eCall 1 T__law_fill (aCons (eVar 0) aNil))) sNil) [some (.loc 1), some (.int m), none] S = .nx [some (.loc 1), some (.int m), none] S1 ∧ 0 ≤ x ∧ CSt ns d1 x d3 (t + 1) S1 ∧ Keep S S1 := by
    by_cases hlt : c2 < m
    · obtain ⟨y, d1, S1, e, hy, hc, kp⟩ := fill_ok h ht
      obtain ⟨_, w2, _⟩ := set_c hc.s1 y
      refine ⟨y, d1, c3 + 1, S1.set 1 (cMO d1 y (c3 + 1)), ?_, by omega, hc.set hc.n1 (by omega) hc.n3 hc.t3, kp.trans (Keep.set _ _)⟩
      simp [i2, hlt, e, w2]
    · refine ⟨c2, c1, c3, S, ?_, h.n2, ⟨h.s0, h.s1, h.n1, h.n2, h.n3, by have := h.t3; omega⟩, Keep.refl S⟩
      simp [i2, hlt]
  obtain ⟨x, d1, d3, S1, e, hx, hc, kp⟩ := key
  obtain ⟨_, j2, _, _⟩ := ix_c hc.s1
  have m0 : 0 ≤ x % m := Int.emod_nonneg _ (by omega)
  have m1 : x % m < m := Int.emod_lt_of_pos _ (by omega)
  obtain ⟨_, w2, _⟩ := set_c hc.s1 (x / m)
  refine ⟨(x % m).toNat, S1.set 1 (cMO d1 (x / m) d3), by omega, ?_, ⟨ns, d1, x / m, d3, hc.set hc.n1 (Int.ediv_nonneg hx (by omega)) hc.n3 hc.t3⟩, kp.trans (Keep.set _ _)⟩
  have e2 : (((x % m).toNat : Nat) : Int) = x % m := by omega
  have hb : b__law_take = sSeq (sIf (tBin (oBl cLt) (eIx (eVar 0) (eC (.int 2))) (eVar 1)) (sPut' setLD (eVar 0) (eC (.int 2)) (eCall 1 T__law_fill (aCons (eVar 0) aNil))) sNil) (sSeq (sSet 2 (eBin oMod (eCB gInt (aCons (eIx (eVar 0) (eC (.int 2))) aNil)) (eVar 1)))
    (sSeq (sPut' setLD (eVar 0) (eC (.int 2)) (eBin oDiv (eIx (eVar 0) (eC (.int 2))) (eVar 1)))
    (sRet (eVar 2)))) := rfl
  rw [e2]
  simp only [T__law_take, hb, run_def, start_def]
  show (match sThen ((sIf _ _ _) [some (.loc 1), some (.int m), none] S) _ with | .nx _ S' => _ | .ret d S' => _ | .exc c _ S' => _ | _ => _) = _
  rw [e]
  simp [j2, hm, g1, w2]
end DV
/-! P10: drawn fractions and polynomials. -/
namespace DV
open PySem L2
theorem above_ok : ∀ i, i < 7 → ∃ a : Int, ([.int (-3), .int (-1), .int 1, .int 2, .int 5, .int 12, .int 100000000000] : List D)[i]? = some (.int a) ∧ a ≠ 0 ∧ a.natAbs ≤ 100000000000
  | 0, _ => ⟨-3, rfl, by decide, by decide⟩
  | 1, _ => ⟨-1, rfl, by decide, by decide⟩
  | 2, _ => ⟨1, rfl, by decide, by decide⟩
  | 3, _ => ⟨2, rfl, by decide, by decide⟩
  | 4, _ => ⟨5, rfl, by decide, by decide⟩
  | 5, _ => ⟨12, rfl, by decide, by decide⟩
  | 6, _ => ⟨100000000000, rfl, by decide, by decide⟩
theorem below_ok : ∀ i, i < 6 → ∃ b c : Nat, ([.int 1, .int 1, .int 1, .int 2, .int 3, .int 7] : List D)[i]? = some (.int (b : Nat)) ∧ b * c = 42 ∧ 0 < b ∧ b ≤ 7 ∧ c ≤ 42 ∧ c ≠ 0
  | 0, _ => ⟨1, 42, rfl, by decide, by decide, by decide, by decide, by decide⟩
  | 1, _ => ⟨1, 42, rfl, by decide, by decide, by decide, by decide, by decide⟩
  | 2, _ => ⟨1, 42, rfl, by decide, by decide, by decide, by decide, by decide⟩
  | 3, _ => ⟨2, 21, rfl, by decide, by decide, by decide, by decide, by decide⟩
  | 4, _ => ⟨3, 14, rfl, by decide, by decide, by decide, by decide, by decide⟩
  | 5, _ => ⟨7, 6, rfl, by decide, by decide, by decide, by decide, by decide⟩
theorem fraction_ok {t : Nat} {S : Sto} (h : CS t S) (ht : t < 2 ^ 49) : ∃ (x : Rat) (S' : Sto), T__law_fraction [.loc 1] S = .ok (frD x) S' ∧ x ≠ 0 ∧ CB 42 bb x ∧ CS (t + 2) S' ∧ Keep S S' := by
  obtain ⟨i, S1, hi, e1, h1, k1⟩ := take_ok h (by omega) 7 (by decide) (by decide)
  obtain ⟨j, S2, hj, e2, h2, k2⟩ := take_ok h1 (by omega) 6 (by decide) (by decide)
  obtain ⟨a, ha, ha0, hab⟩ := above_ok i hi
  obtain ⟨b, c, hb, hbc, hb0, hb7, hc, hc0⟩ := below_ok j hj
  have e3 := T_law_ratio_ok a b S2 hb0 (Nat.lt_of_le_of_lt hb7 (Nat.lt_of_lt_of_le (show 7 < 2 ^ 3 by decide) (Nat.pow_le_pow_right (by decide) (by decide))))
  refine ⟨mkRat a b, S2, ?_, (Rat.mkRat_ne_zero (by omega)).mpr ha0, ⟨a * c, ?_, ?_⟩, h2, k1.trans k2⟩
  · have e1' : T__law_take [.loc 1, .int 7] S = .ok (.int i) S1 := e1
    have e2' : T__law_take [.loc 1, .int 6] S1 = .ok (.int j) S2 := e2
    simp [T__law_fraction, b__law_fraction, e1', ha, e2', hb, e3]
  · rw [← hbc]; exact (Rat.mkRat_mul_right hc0).symm
  · rw [Int.natAbs_mul, Int.natAbs_natCast]
    exact Nat.mul_le_mul hab hc
/-- a drawn key -/
theorem key_draw (n : Nat) (v4 v5 v6 v7 : Option D) : ∀ (is : List D) (t : Nat) (S : Sto) (acc : List D), CS t S → t + 2 * is.length < 2 ^ 49 → acc.length + is.length ≤ LN → ∃ (m : Mon) (S' : Sto),
    compD [6] (gN 6) tYes' (eBin oMul (eCall 2 T__law_take (aCons (eVar 0) (aCons (eBin oAdd (eVar 3) (eC (.int 1))) aNil))) (eCall 2 T__law_take (aCons (eVar 0) (aCons (eC (.int 2)) aNil)))) [some (.loc 1), some (.int n), v4, some (.int 3), v5, v6, v7] is acc S = .ok (acc ++ m.map .int) S' ∧
      m.length = is.length ∧ (∀ e ∈ m, 0 ≤ e ∧ e ≤ 3) ∧ CS (t + 2 * is.length) S' ∧ Keep S S'
  | [], t, S, acc, h, _, _ => ⟨[], S, by simp [compD], rfl, fun _ h => (by cases h), h, Keep.refl S⟩
  | d :: is, t, S, acc, h, hl, hL => by
    rw [List.length_cons] at hl hL
    have hLN : LN = 16777216 := rfl
    obtain ⟨a, S1, ha, e1, h1, k1⟩ := take_ok h (by omega) 4 (by decide) (by decide)
    obtain ⟨b, S2, hb, e2, h2, k2⟩ := take_ok h1 (by omega) 2 (by decide) (by decide)
    have e1' : T__law_take [.loc 1, .int 4] S = .ok (.int a) S1 := e1
    have e2' : T__law_take [.loc 1, .int 2] S1 = .ok (.int b) S2 := e2
    obtain ⟨m, S3, e3, hm, he, h3, k3⟩ := key_draw n v4 v5 v6 v7 is (t + 1 + 1) S2 (acc ++ [.int (a * b)]) h2 (by omega) (by simp; omega)
    have l1 : a.log2 ≤ 2 := lg (by omega)
    have l2 : b.log2 ≤ 1 := lg (by omega)
    have g : a.log2 + b.log2 < 1000000 := by omega
    have hacc : acc.length < 16777216 := by omega
    refine ⟨((a * b : Nat) : Int) :: m, S3, ?_, by simp [hm], ?_, by rw [List.length_cons, show t + 2 * (is.length + 1) = t + 1 + 1 + 2 * is.length by omega]; exact h3, (k1.trans k2).trans k3⟩
    · unfold compD
      simp [wipeA, e1', e2', g, hacc] at e3 ⊢
      rw [e3]
    · intro e hm'
      rcases List.mem_cons.mp hm' with rfl | hm'
      · have : a * b ≤ 3 * 1 := Nat.mul_le_mul (by omega) (by omega)
        omega
      · exact he e hm'
/-- a drawn polynomial -/
structure Drawn (N c : Nat) (L : Tb) : Prop where
  pb : PB N c 42 bb L
  ent : ∀ a ∈ L, ∀ e ∈ a.1, 0 ≤ e ∧ e ≤ 3
structure DT1 (N c : Nat) (T : Tb) : Prop where
  ok : TbOk N T
  cb : ∀ a ∈ T, CB 42 bb a.2
  ent : ∀ a ∈ T, ∀ e ∈ a.1, 0 ≤ e ∧ e ≤ 3
  le : T.length ≤ c
theorem mem_pt {T : Tb} {m : Mon} {x : Rat} {a : Mon × Rat} (h : a ∈ pt T m x) : a ∈ T ∨ a = (m, x) := by
  unfold pt at h
  split at h
  · obtain ⟨b, hb, e⟩ := List.mem_map.mp h
    split at e
    · rename_i hm; rw [hm] at e; exact .inr e.symm
    · rw [← e]; exact .inl hb
  · rcases List.mem_append.mp h with h | h
    · exact .inl h
    · simp at h; exact .inr h
theorem polynomial_ok {t n terms : Nat} {S : Sto} (h : CS t S) (ht : t < 2 ^ 48) (hn : 0 < n) (hn2 : n ≤ 3) (hte : terms ≤ 5) : ∃ (L : Tb) (S' : Sto), T__law_polynomial [.loc 1, .int n, .int terms, .int 3] S = .ok (.fup (polyL L)) S' ∧ Drawn n terms L ∧ CS (t + 100) S' := by
  have hLN : LN = 16777216 := rfl
  have h0 : CS t (S ++ [.dT (encT [])]) := h.app _
  have hS1 : 1 < S.length := by obtain ⟨ns, c1, c2, c3, h⟩ := h; exact h.lt
  obtain ⟨k, S1, hk, e1, h1, k1⟩ := take_ok h0 (by omega) (terms + 1) (by omega) (by omega)
  have hT1 : tabAt S1 S.length [] := by
    unfold tabAt
    rw [k1.2 _ (by omega)]
    exact tab_new S []
  obtain ⟨env', S', g1, i, T, o5, o6, e2, e3, rfl, e5, e6, e7⟩ := forD_rule (g := gN 5) (f := (sPut' dPutD (eVar 4) (eOfL gTup (lComp [6] (iRng1' (aCons (eVar 1) aNil)) (gN 6) tYes' (eBin oMul (eCall 2 T__law_take (aCons (eVar 0) (aCons (eBin oAdd (eVar 3) (eC (.int 1))) aNil))) (eCall 2 T__law_take (aCons (eVar 0) (aCons (eC (.int 2)) aNil)))))) (eCall 1 T__law_fraction (aCons (eVar 0) aNil))))
    (fun ds env S1 => ∃ i T o5 o6, i ≤ k ∧ ds.length = k - i ∧ env = [some (.loc 1), some (.int n), some (.int terms), some (.int 3), some (.loc S.length), o5, o6] ∧ tabAt S1 S.length T ∧ CS (t + 1 + 8 * i) S1 ∧ DT1 n i T)
    (by
      rintro d ds env S1 ⟨i, T, o5, o6, e2, e3, rfl, e5, e6, e7⟩
      simp only [List.length_cons] at e3
      obtain ⟨x, S2, f1, hx0, hcb, h2, k2⟩ := fraction_ok e6 (by omega)
      obtain ⟨m, S3, f2, hm, hent, h3, k3⟩ := key_draw n (some (.int terms)) (some (.loc S.length)) (some d) o6 (rngD 0 n) (t + 1 + 8 * i + 2) S2 [] h2 (by rw [rng_len]; omega) (by rw [rng_len]; simp; omega)
      rw [rng_len] at hm h3
      have hT3 : tabAt S3 S.length T := by
        unfold tabAt
        rw [k3.2 _ (by omega), k2.2 _ (by omega)]; exact e5
      have hput := put_T hT3 (by have := e7.le; omega) m x
      have hr : iRng1K [.int n] S2 = .ok (rngD 0 n) S2 := rng1_nat S2 (by omega)
      refine ⟨([some (.loc 1), some (.int n), some (.int terms), some (.int 3), some (.loc S.length), some d, o6], S1), [some (.loc 1), some (.int n), some (.int terms), some (.int 3), some (.loc S.length), some d, o6], S3.set S.length (.dT (encT (pt T m x))), by simp, ?_, i + 1, pt T m x, some d, o6, by omega, by omega, rfl, hT3.set, ?_, ?_⟩
      · have hmd : D.tup (m.map .int) = mD m := rfl
        rw [List.nil_append] at f2
        simp [f1] at hr ⊢
        simp [hr, f2, hmd, hput]
      · have h4 : CS (t + 1 + 8 * (i + 1)) S3 := h3.mono (by omega)
        obtain ⟨ns, c1, c2, c3, h5⟩ := h4
        refine ⟨ns, c1, c2, c3, ?_, ?_, h5.n1, h5.n2, h5.n3, h5.t3⟩
        · rw [List.getElem?_set_ne (by omega)]; exact h5.s0
        · rw [List.getElem?_set_ne (by omega)]; exact h5.s1
      · refine ⟨e7.ok.pt hm, fun a ha => ?_, fun a ha => ?_, by have := len_pt T m x; have := e7.le; omega⟩
        · rcases mem_pt ha with ha | rfl
          · exact e7.cb a ha
          · exact hcb
        · rcases mem_pt ha with ha | rfl
          · exact e7.ent a ha
          · exact hent)
    (rngD 0 k) [some (.loc 1), some (.int n), some (.int terms), some (.int 3), some (.loc S.length), none, none] S1 ⟨0, [], none, none, Nat.zero_le _, by rw [rng_len]; rfl, rfl, hT1, h1.mono (by omega), ⟨TbOk.nil n, fun _ h => (by cases h), fun _ h => (by cases h), Nat.zero_le _⟩⟩
  have hik : i ≤ terms := by omega
  obtain ⟨L, e, tl⟩ := T_law_told_ok e5 e7.ok.nd (by have := e7.le; omega)
  refine ⟨L, S', ?_, ⟨⟨tl.cn, fun a ha => e7.ok.ln a (tl.sub a ha), Nat.le_trans tl.len (Nat.le_trans e7.le hik), fun a ha => e7.cb a (tl.sub a ha)⟩, fun a ha => e7.ent a (tl.sub a ha)⟩, e6.mono (by omega)⟩
  have hr : iRng1K [.int k] S1 = .ok (rngD 0 k) S1 := rng1_nat S1 (by omega)
  have e1' : T__law_take [.loc 1, .int (terms + 1)] (S ++ [.dT []]) = .ok (.int k) S1 := e1
  simp [T__law_polynomial, b__law_polynomial] at hr g1 ⊢
  simp [e1', hr, g1, e]
end DV
/-! P11: what has the form of a polynomial, of a problem. -/
namespace DV
open PySem L2
mutual
/-- data of ints below 2 ^ 1000, texts, tuples -/
def gd : D → Bool
  | .non => true
  | .bl _ => true
  | .int i => Nat.blt i.natAbs (2 ^ 1000)
  | .str _ => true
  | .tup ds => Nat.ble ds.length 1000 && gds ds
  | .cst ds => Nat.ble ds.length 1000 && gds ds
  | .fup ds => Nat.ble ds.length 1000 && gds ds
  | .loc _ => false
def gds : List D → Bool
  | [] => true
  | d :: ds => gd d && gds ds
end
theorem gds_mem : ∀ {ds : List D}, gds ds = true → ∀ d ∈ ds, gd d = true
  | [], _, _, h => by cases h
  | d :: ds, h, x, hx => by
    simp only [gds, Bool.and_eq_true] at h
    rcases List.mem_cons.mp hx with rfl | hx
    · exact h.1
    · exact gds_mem h.2 x hx
theorem gds_of : ∀ {ds : List D}, (∀ d ∈ ds, gd d = true) → gds ds = true
  | [], _ => rfl
  | d :: ds, h => by
    simp only [gds, Bool.and_eq_true]
    exact ⟨h d List.mem_cons_self, gds_of fun x hx => h x (List.mem_cons_of_mem _ hx)⟩
theorem gd_seq {d : D} {ds : List D} (h : gd d = true) (e : d.seq? = some ds) : ds.length ≤ 1000 ∧ ∀ x ∈ ds, gd x = true := by
  cases d with
  | tup xs => simp [D.seq?] at e; subst e; simp only [gd, Bool.and_eq_true, Nat.ble_eq] at h; exact ⟨h.1, gds_mem h.2⟩
  | cst xs => simp [D.seq?] at e; subst e; simp only [gd, Bool.and_eq_true, Nat.ble_eq] at h; exact ⟨h.1, gds_mem h.2⟩
  | fup xs => simp [D.seq?] at e; subst e; simp only [gd, Bool.and_eq_true, Nat.ble_eq] at h; exact ⟨h.1, gds_mem h.2⟩
  | _ => simp [D.seq?] at e
theorem gd_int {i : Int} (h : gd (.int i) = true) : i.natAbs < 2 ^ 1000 := by
  simp only [gd, Nat.blt_eq] at h; exact h
def isI : D → Bool
  | .int _ => true
  | _ => false
def isIB : D → Bool
  | .int _ => true
  | .bl _ => true
  | _ => false
def isB : D → Bool
  | .bl _ => true
  | _ => false
theorem kit_vals : kitB "NoneType" "tuple" = some false ∧ kitB "bool" "tuple" = some false ∧ kitB "int" "tuple" = some false ∧ kitB "str" "tuple" = some false ∧ kitB "tuple" "tuple" = some true ∧
    kitB "NoneType" "int" = some false ∧ kitB "bool" "int" = some true ∧ kitB "int" "int" = some true ∧ kitB "str" "int" = some false ∧ kitB "tuple" "int" = some false ∧
    kitB "NoneType" "bool" = some false ∧ kitB "bool" "bool" = some true ∧ kitB "int" "bool" = some false ∧ kitB "str" "bool" = some false ∧ kitB "tuple" "bool" = some false := by
  refine ⟨?_, ?_, ?_, ?_, ?_, ?_, ?_, ?_, ?_, ?_, ?_, ?_, ?_, ?_, ?_⟩ <;> decide +kernel
theorem isi_tuple {d : D} (S : Sto) (h : gd d = true) : isiD "tuple" d S = some (.bl d.seq?.isSome) := by
  obtain ⟨a1, a2, a3, a4, a5, _⟩ := kit_vals
  cases d <;> simp [isiD, tyN, D.seq?, a1, a2, a3, a4, a5] <;> simp [gd] at h
theorem isi_int {d : D} (S : Sto) (h : gd d = true) : isiD "int" d S = some (.bl (isIB d)) := by
  obtain ⟨_, _, _, _, _, a1, a2, a3, a4, a5, _⟩ := kit_vals
  cases d <;> simp [isiD, tyN, isIB, a1, a2, a3, a4, a5] <;> simp [gd] at h
theorem isi_bool {d : D} (S : Sto) (h : gd d = true) : isiD "bool" d S = some (.bl (isB d)) := by
  obtain ⟨_, _, _, _, _, _, _, _, _, _, a1, a2, a3, a4, a5⟩ := kit_vals
  cases d <;> simp [isiD, tyN, isB, a1, a2, a3, a4, a5] <;> simp [gd] at h
theorem T_is_integer_ok {d : D} (S : Sto) (h : gd d = true) : T_is_integer [d] S = .ok (.bl (isI d)) S := by
  simp [T_is_integer, b_is_integer, isi_int S h, isi_bool S h]
  cases d <;> simp [isI, isIB, isB]
theorem T_law_is_integer_ok {d : D} (S : Sto) (h : gd d = true) : T__law_is_integer [d] S = .ok (.bl (isI d)) S := by
  simp [T__law_is_integer, b__law_is_integer, isi_int S h, isi_bool S h]
  cases d <;> simp [isI, isIB, isB]
theorem isI_some {d : D} (h : isI d = true) : ∃ i, d = .int i := by
  cases d <;> simp [isI] at h
  exact ⟨_, rfl⟩
@[simp] theorem tru_bl (b : Bool) (S : Sto) : truD (.bl b) S = some b := by simp [truD]
theorem len_D {d : D} {ds : List D} (S : Sto) (h : d.seq? = some ds) : gLenD [d] S = some (.int ds.length) := len_seq S h
/-- a fraction in lowest terms -/
def isR (d : D) : Bool := match d.seq? with
  | some [.int a, .int b] => decide (0 < b) && decide (Int.gcd a b = 1)
  | _ => false
theorem isR_no {d a b : D} (hd : d.seq? = some [a, b]) (h : isI a = false ∨ isI b = false) : isR d = false := by
  unfold isR
  rw [hd]
  split
  · rename_i e; cases e; simp [isI] at h
  · rfl
theorem isR_len {d : D} {ds : List D} (hd : d.seq? = some ds) (h : ds.length ≠ 2) : isR d = false := by
  unfold isR
  rw [hd]
  split
  · rename_i e; cases e; simp at h
  · rfl
theorem two_of {ds : List D} (h : ds.length = 2) : ∃ a b, ds = [a, b] := by
  match ds, h with
  | [a, b], _ => exact ⟨a, b, rfl⟩
theorem gcd1 (a b : Int) : (((Int.gcd a b : Nat) : Int) = 1) ↔ Int.gcd a b = 1 := by omega
theorem T_is_ratio_ok {d : D} (S : Sto) (h : gd d = true) : T_is_ratio [d] S = .ok (.bl (isR d)) S := by
  have ht := isi_tuple S h
  cases hd : d.seq? with
  | none =>
    rw [hd] at ht
    simp [T_is_ratio, b_is_ratio, ht, isR, hd]
  | some ds =>
    rw [hd] at ht
    have hl := len_D S hd
    by_cases h2 : ds.length = 2
    · obtain ⟨a, b, rfl⟩ := two_of h2
      obtain ⟨_, hg⟩ := gd_seq h hd
      have i0 : ixD d (.int 0) S = some a := by rw [ix_seq hd]; rfl
      have i1 : ixD d (.int 1) S = some b := by rw [ix_seq hd]; rfl
      have ta := T_is_integer_ok S (hg a (by simp))
      have tb := T_is_integer_ok S (hg b (by simp))
      cases ha : isI a with
      | false =>
        rw [ha] at ta
        have e := isR_no hd (.inl ha)
        simp [T_is_ratio, b_is_ratio, ht, hl, i0, i1, ta, tb, e]
      | true =>
        cases hb : isI b with
        | false =>
          rw [ha] at ta; rw [hb] at tb
          have e := isR_no hd (.inr hb)
          simp [T_is_ratio, b_is_ratio, ht, hl, i0, i1, ta, tb, e]
        | true =>
          rw [ha] at ta; rw [hb] at tb
          obtain ⟨i, rfl⟩ := isI_some ha
          obtain ⟨j, rfl⟩ := isI_some hb
          have e : isR d = (decide (0 < j) && decide (Int.gcd i j = 1)) := by unfold isR; rw [hd]
          rw [e]
          by_cases hj : 0 < j <;> simp [T_is_ratio, b_is_ratio, ht, hl, i0, i1, ta, tb, hj, T_common_divisor_ok, gcd1]
    · have h2' : ¬ ((ds.length : Int) = 2) := by omega
      simp [T_is_ratio, b_is_ratio, ht, hl, h2', isR_len hd h2]
theorem T_law_is_ratio_ok {d : D} (S : Sto) (h : gd d = true) : T__law_is_ratio [d] S = .ok (.bl (isR d)) S := by
  have ht := isi_tuple S h
  cases hd : d.seq? with
  | none =>
    rw [hd] at ht
    simp [T__law_is_ratio, b__law_is_ratio, ht, isR, hd]
  | some ds =>
    rw [hd] at ht
    have hl := len_D S hd
    by_cases h2 : ds.length = 2
    · obtain ⟨a, b, rfl⟩ := two_of h2
      obtain ⟨_, hg⟩ := gd_seq h hd
      have i0 : ixD d (.int 0) S = some a := by rw [ix_seq hd]; rfl
      have i1 : ixD d (.int 1) S = some b := by rw [ix_seq hd]; rfl
      have ta := T_law_is_integer_ok S (hg a (by simp))
      have tb := T_law_is_integer_ok S (hg b (by simp))
      have ec : compD [1] (gN 1) tYes' (eCall 1 T__law_is_integer (aCons (eVar 1) aNil)) [some d, none] [a, b] [] S = .ok [.bl (isI a), .bl (isI b)] S := by
        simp [compD, wipeA, ta, tb]
      cases ha : isI a with
      | false =>
        rw [ha] at ec
        have e := isR_no hd (.inl ha)
        simp [T__law_is_ratio, b__law_is_ratio, ht, hl, hd, ec, gAll, bls?, e]
      | true =>
        cases hb : isI b with
        | false =>
          rw [ha, hb] at ec
          have e := isR_no hd (.inr hb)
          simp [T__law_is_ratio, b__law_is_ratio, ht, hl, hd, ec, gAll, bls?, e]
        | true =>
          rw [ha, hb] at ec
          obtain ⟨i, rfl⟩ := isI_some ha
          obtain ⟨j, rfl⟩ := isI_some hb
          have e : isR d = (decide (0 < j) && decide (Int.gcd i j = 1)) := by unfold isR; rw [hd]
          rw [e]
          by_cases hj : 0 < j
          · obtain ⟨n, rfl⟩ := Int.eq_ofNat_of_zero_le (Int.le_of_lt hj)
            have hn := gd_int (hg (.int n) (by simp))
            have td := T_law_divisor_ok i n S (Nat.lt_of_lt_of_le (by simpa using hn) (Nat.pow_le_pow_right (by decide) (by decide)))
            have hj' : 0 < n := by omega
            simp [T__law_is_ratio, b__law_is_ratio, ht, hl, hd, ec, gAll, bls?, i0, i1, hj', td, gcd1]
          · simp [T__law_is_ratio, b__law_is_ratio, ht, hl, hd, ec, gAll, bls?, i0, i1, hj]
    · have h2' : ¬ ((ds.length : Int) = 2) := by omega
      simp [T__law_is_ratio, b__law_is_ratio, ht, hl, h2', isR_len hd h2]
end DV
/-! P12: is_monomial, is_polynomial, is_problem. -/
namespace DV
open PySem L2
def nnD : D → Bool
  | .int i => decide (0 ≤ i)
  | _ => false
def isM (d : D) (n : Int) : Bool := match d.seq? with
  | some ds => decide ((ds.length : Int) = n) && ds.all nnD
  | none => false
theorem all_bls {ds : List D} (f : D → Bool) : gAll (ds.map fun x => D.bl (f x)) = some (.bl (ds.all f)) := by
  unfold gAll
  have : bls? (ds.map fun x => D.bl (f x)) = some (ds.map f) := by
    rw [show (ds.map fun x => D.bl (f x)) = (ds.map f).map D.bl by rw [List.map_map]; rfl, bls?_map]
  rw [this]
  simp [List.all_map, Function.comp_def]
/-- a comprehension of truth values over the parts of data -/
theorem comp_bls {vs : List Nat} {g : GvT} {te : EvE} {env : AEnv} {S : Sto} {ds : List D} (f : D → Bool) (k : ∀ x ∈ ds, ∃ env1, g x (wipeA env vs) S = some (env1, S) ∧ te env1 S = .ok (.bl (f x)) S) (hl : ds.length ≤ LN) :
    compD vs g tYes' te env ds [] S = .ok (ds.map fun x => D.bl (f x)) S := by
  have ec := compD_map (vs := vs) (g := g) (q := tYes') (te := te) (env := env) (S := S) (fun x : D => x) (fun _ => true) (fun x => D.bl (f x)) ds [] (fun x hx => by
    obtain ⟨env1, h1, h2⟩ := k x hx
    exact ⟨env1, h1, rfl, fun _ => h2⟩) (by simpa using hl)
  rw [List.map_id', List.filter_eq_self.mpr (fun _ _ => rfl), List.nil_append] at ec
  exact ec
theorem nn_step {T : List D → Sto → Res D} {env : AEnv} {i : Nat} {x : D} {S : Sto} (he : env[i]? = some (some x)) (hT : T [x] S = .ok (.bl (isI x)) S) : eAnd (eCall 1 T (aCons (eVar i) aNil)) (eBin (oBl cGe) (eVar i) (eC (.int 0))) env S = .ok (.bl (nnD x)) S := by
  cases hx : isI x with
  | false =>
    rw [hx] at hT
    have : nnD x = false := by cases x <;> simp [isI] at hx <;> rfl
    simp [he, hT, this]
  | true =>
    rw [hx] at hT
    obtain ⟨j, rfl⟩ := isI_some hx
    simp [he, hT, nnD]
theorem T_is_monomial_ok {d : D} {n : Int} (S : Sto) (h : gd d = true) : T_is_monomial [d, .int n] S = .ok (.bl (isM d n)) S := by
  have ht := isi_tuple S h
  cases hd : d.seq? with
  | none =>
    rw [hd] at ht
    simp [T_is_monomial, b_is_monomial, ht, isM, hd]
  | some ds =>
    rw [hd] at ht
    have hl := len_D S hd
    obtain ⟨hlen, hg⟩ := gd_seq h hd
    have ec := comp_bls (vs := [2]) (g := gN 2) (te := eAnd (eCall 1 T_is_integer (aCons (eVar 2) aNil)) (eBin (oBl cGe) (eVar 2) (eC (.int 0)))) (env := [some d, some (.int n), none]) (S := S) (ds := ds) nnD
      (fun x hx => ⟨[some d, some (.int n), some x], by simp [wipeA], nn_step rfl (T_is_integer_ok S (hg x hx))⟩) (by have : LN = 16777216 := rfl; omega)
    by_cases h2 : (ds.length : Int) = n
    · simp [T_is_monomial, b_is_monomial, ht, hl, hd, h2, ec, all_bls, isM]
    · simp [T_is_monomial, b_is_monomial, ht, hl, hd, h2, isM]
/-- the first number of a fraction -/
def numD (x : D) : Int := match x.seq? with
  | some [.int a, .int _] => a
  | _ => 0
def rowOk (n : Int) (r : D) : Bool := match r.seq? with
  | some [m, x] => isM m n && (isR x && decide (numD x ≠ 0))
  | _ => false
def monD (d : D) : Mon := (d.seq?.bind ints?).getD []
def rowM (r : D) : Mon := match r.seq? with
  | some [m, _] => monD m
  | _ => []
theorem lexLt_le : ∀ a b : Mon, HT.lexLt a b = !lexLe b a
  | [], [] => rfl
  | [], _ :: _ => rfl
  | _ :: _, [] => rfl
  | x :: a, y :: b => by
    rw [HT.lexLt_cons, lexLe, lexLt_le a b]
    by_cases h : x = y
    · simp [h]
    · have h' : ¬ y = x := fun e => h e.symm
      rw [if_neg h, if_neg h']
      by_cases h2 : x < y
      · rw [decide_eq_true h2, decide_eq_false (by omega)]; rfl
      · rw [decide_eq_false h2, decide_eq_true (by omega)]; rfl
def ltO : Option Mon → Mon → Bool
  | none, _ => true
  | some k, m => HT.lexLt k m
def pgo (n : Int) : Option Mon → List D → Bool
  | _, [] => true
  | l, r :: rs => rowOk n r && (ltO l (rowM r) && pgo n (some (rowM r)) rs)
def isPoly (n : Int) (d : D) : Bool := match d.seq? with
  | some rows => pgo n none rows
  | none => false
theorem isM_ints {d : D} {n : Int} (h : isM d n = true) : ∃ m : Mon, d.seq? = some (m.map .int) ∧ monD d = m ∧ (m.length : Int) = n ∧ ∀ e ∈ m, 0 ≤ e := by
  unfold isM at h
  cases hd : d.seq? with
  | none => rw [hd] at h; cases h
  | some ds =>
    rw [hd] at h
    simp only [Bool.and_eq_true, decide_eq_true_eq, List.all_eq_true] at h
    obtain ⟨h1, h2⟩ := h
    have : ∃ m : Mon, ds = m.map .int ∧ ∀ e ∈ m, 0 ≤ e := by
      clear h1 hd
      induction ds with
      | nil => exact ⟨[], rfl, fun _ h => by cases h⟩
      | cons x ds ih =>
        obtain ⟨m, rfl, hm⟩ := ih fun y hy => h2 y (List.mem_cons_of_mem _ hy)
        have hx := h2 x List.mem_cons_self
        cases x <;> simp [nnD] at hx
        rename_i i
        refine ⟨i :: m, rfl, fun e he => ?_⟩
        rcases List.mem_cons.mp he with rfl | he
        · exact hx
        · exact hm e he
    obtain ⟨m, rfl, hm⟩ := this
    refine ⟨m, rfl, ?_, by simpa using h1, hm⟩
    unfold monD
    rw [hd, Option.bind_some, ints?_map]; rfl
theorem isR_ints {d : D} (h : isR d = true) : ∃ a b : Int, d.seq? = some [.int a, .int b] ∧ numD d = a := by
  unfold isR at h
  split at h
  · rename_i a b e; exact ⟨a, b, e, by unfold numD; rw [e]⟩
  · cases h
/-- what stands in last -/
def lastR (ld : D) (l : Option Mon) : Prop := (ld = .non ∧ l = none) ∨ ∃ m : Mon, ld.seq? = some (m.map .int) ∧ l = some m
abbrev ipBody : EvS := (sSeq (sIf (bOr (bNot (tTru (eIsi "tuple" (eVar 3)))) (bOr (tBin (oBn cEq) (eCB gLenD (aCons (eVar 3) aNil)) (eC (.int 2))) (bOr (bNot (tTru (eCall 2 T_is_monomial (aCons (eIx (eVar 3) (eC (.int 0))) (aCons (eVar 1) aNil))))) (bNot (tTru (eCall 1 T_is_ratio (aCons (eIx (eVar 3) (eC (.int 1))) aNil))))))) (sRet (eC (.bl false))) sNil)
    (sSeq (sIf (bOr (tBin (oBl cEq) (eIx (eIx (eVar 3) (eC (.int 1))) (eC (.int 0))) (eC (.int 0))) (bAnd (tBin (oBn cIsN) (eVar 2) (eC .non)) (tBin (oBl cLe) (eIx (eVar 3) (eC (.int 0))) (eVar 2)))) (sRet (eC (.bl false))) sNil)
    (sSet 2 (eIx (eVar 3) (eC (.int 0))))))
theorem ip_loop {d : D} {n : Int} (S : Sto) : ∀ (rows : List D) (ld : D) (l : Option Mon) (o : Option D), (∀ r ∈ rows, gd r = true) → lastR ld l →
    if pgo n l rows = true then ∃ ld' o', forD (gN 3) ipBody rows [some d, some (.int n), some ld, o] S = .nx [some d, some (.int n), some ld', o'] S else forD (gN 3) ipBody rows [some d, some (.int n), some ld, o] S = .ret (.bl false) S
  | [], ld, l, o, _, _ => by
    rw [if_pos (by simp [pgo])]
    exact ⟨ld, o, rfl⟩
  | r :: rows, ld, l, o, hg, hl => by
    have hr := hg r List.mem_cons_self
    have ht := isi_tuple S hr
    cases hd : r.seq? with
    | none =>
      rw [hd] at ht
      rw [if_neg (by simp [pgo, rowOk, hd])]
      conv => lhs; unfold forD
      simp [ht]
    | some ds =>
      rw [hd] at ht
      have hlen := len_D S hd
      by_cases h2 : ds.length = 2
      · obtain ⟨m, x, rfl⟩ := two_of h2
        obtain ⟨_, hgs⟩ := gd_seq hr hd
        have i0 : ixD r (.int 0) S = some m := by rw [ix_seq hd]; rfl
        have i1 : ixD r (.int 1) S = some x := by rw [ix_seq hd]; rfl
        have tm := T_is_monomial_ok (n := n) S (hgs m (by simp))
        have tr := T_is_ratio_ok S (hgs x (by simp))
        cases hm : isM m n with
        | false =>
          rw [hm] at tm
          rw [if_neg (by simp [pgo, rowOk, hd, hm])]
          conv => lhs; unfold forD
          simp [ht, hlen, i0, tm]
        | true =>
          rw [hm] at tm
          cases hx : isR x with
          | false =>
            rw [hx] at tr
            rw [if_neg (by simp [pgo, rowOk, hd, hm, hx])]
            conv => lhs; unfold forD
            simp [ht, hlen, i0, i1, tm, tr]
          | true =>
            rw [hx] at tr
            obtain ⟨a, b, hxs, hnum⟩ := isR_ints hx
            have x0 : ixD x (.int 0) S = some (.int a) := by rw [ix_seq hxs]; rfl
            obtain ⟨ms, hms, hmon, _, _⟩ := isM_ints hm
            have hrm : rowM r = ms := by unfold rowM; rw [hd]; exact hmon
            by_cases ha : a = 0
            · rw [if_neg (by simp [pgo, rowOk, hd, hm, hx, hnum, ha])]
              conv => lhs; unfold forD
              simp [ht, hlen, i0, i1, tm, tr, x0, ha]
            · have hro : rowOk n r = true := by unfold rowOk; rw [hd]; simp [hm, hx, hnum, ha]
              have go : ∀ (_ : ltO l ms = true), forD (gN 3) ipBody (r :: rows) [some d, some (.int n), some ld, o] S = forD (gN 3) ipBody rows [some d, some (.int n), some m, some r] S := by
                intro hlt
                conv => lhs; unfold forD
                rcases hl with ⟨rfl, rfl⟩ | ⟨k, hk, rfl⟩
                · simp [ht, hlen, i0, i1, tm, tr, x0, ha, cIsN]
                · have hn : cIsN ld .non = some false := by cases ld <;> simp [D.seq?] at hk <;> rfl
                  have hle : cLe m ld = some false := by
                    have h2 : two? m ld = some (ms, k) := by unfold two?; rw [hms, hk]; simp
                    have : cLe m ld = (two? m ld).map fun p => lexLe p.1 p.2 := by cases m <;> first | rfl | simp [D.seq?] at hms
                    rw [this, h2, Option.map_some]
                    congr 1
                    have h3 : HT.lexLt k ms = true := hlt
                    rw [lexLt_le] at h3
                    simpa using h3
                  simp [ht, hlen, i0, i1, tm, tr, x0, ha, hn, hle]
              have ih := ip_loop (d := d) (n := n) S rows m (some ms) (some r) (fun y hy => hg y (List.mem_cons_of_mem _ hy)) (.inr ⟨ms, hms, rfl⟩)
              have hp : pgo n l (r :: rows) = (ltO l ms && pgo n (some ms) rows) := by
                rw [show pgo n l (r :: rows) = (rowOk n r && (ltO l (rowM r) && pgo n (some (rowM r)) rows)) from rfl, hro, hrm, Bool.true_and]
              rw [hp]
              by_cases hlt : ltO l ms = true
              · rw [hlt, Bool.true_and, go hlt]
                exact ih
              · rw [Bool.not_eq_true] at hlt
                rw [hlt, Bool.false_and, if_neg Bool.false_ne_true]
                rcases hl with ⟨rfl, rfl⟩ | ⟨k, hk, rfl⟩
                · cases hlt
                · have hn : cIsN ld .non = some false := by cases ld <;> simp [D.seq?] at hk <;> rfl
                  have hle : cLe m ld = some true := by
                    have h2 : two? m ld = some (ms, k) := by unfold two?; rw [hms, hk]; simp
                    have : cLe m ld = (two? m ld).map fun p => lexLe p.1 p.2 := by cases m <;> first | rfl | simp [D.seq?] at hms
                    rw [this, h2, Option.map_some]
                    congr 1
                    have h3 : HT.lexLt k ms = false := hlt
                    rw [lexLt_le] at h3
                    simpa using h3
                  conv => lhs; unfold forD
                  simp [ht, hlen, i0, i1, tm, tr, x0, ha, hn, hle]
      · have h2' : ¬ ((ds.length : Int) = 2) := by omega
        have hno : rowOk n r = false := by
          unfold rowOk; rw [hd]
          split
          · rename_i e; cases e; simp at h2
          · rfl
        rw [if_neg (by simp [pgo, hno])]
        conv => lhs; unfold forD
        simp [ht, hlen, h2']
theorem T_is_polynomial_ok {d : D} {n : Int} (S : Sto) (h : gd d = true) : T_is_polynomial [d, .int n] S = .ok (.bl (isPoly n d)) S := by
  have ht := isi_tuple S h
  cases hd : d.seq? with
  | none =>
    rw [hd] at ht
    simp [T_is_polynomial, b_is_polynomial, ht, isPoly, hd]
  | some ds =>
    rw [hd] at ht
    obtain ⟨_, hg⟩ := gd_seq h hd
    have ih := ip_loop (d := d) (n := n) S ds .non none none hg (.inl ⟨rfl, rfl⟩)
    have e : isPoly n d = pgo n none ds := by unfold isPoly; rw [hd]
    rw [e]
    cases hp : pgo n none ds with
    | true =>
      rw [hp, if_pos rfl] at ih
      obtain ⟨ld', o', ih⟩ := ih
      simp [T_is_polynomial, b_is_polynomial, ht, hd, ih]
    | false =>
      rw [hp, if_neg Bool.false_ne_true] at ih
      simp [T_is_polynomial, b_is_polynomial, ht, hd, ih]
end DV
/-! P13: the law's is_polynomial; is_problem. -/
namespace DV
open PySem L2
abbrev lpoBody : EvS := (sSeq (sIf (bOr (bNot (tTru (eIsi "tuple" (eVar 2)))) (bOr (tBin (oBn cEq) (eCB gLenD (aCons (eVar 2) aNil)) (eC (.int 2))) (bOr (bNot (tTru (eIsi "tuple" (eIx (eVar 2) (eC (.int 0)))))) (tBin (oBn cEq) (eCB gLenD (aCons (eIx (eVar 2) (eC (.int 0))) aNil)) (eVar 1))))) (sRet (eC (.bl false))) sNil)
    (sSeq (sIf (bNot (tTru (eOfL gAll (lComp [4] (iTup' (eIx (eVar 2) (eC (.int 0)))) (gN 4) tYes' (eAnd (eCall 1 T__law_is_integer (aCons (eVar 4) aNil)) (eBin (oBl cGe) (eVar 4) (eC (.int 0)))))))) (sRet (eC (.bl false))) sNil)
    (sIf (bOr (bNot (tTru (eCall 1 T__law_is_ratio (aCons (eIx (eVar 2) (eC (.int 1))) aNil)))) (tBin (oBl cEq) (eIx (eIx (eVar 2) (eC (.int 1))) (eC (.int 0))) (eC (.int 0)))) (sRet (eC (.bl false))) sNil)))
theorem lpo_loop {d : D} {n : Int} (S : Sto) (o3 o4 : Option D) : ∀ (rows : List D) (o : Option D), (∀ r ∈ rows, gd r = true) →
    if rows.all (rowOk n) = true then ∃ o', forD (gN 2) lpoBody rows [some d, some (.int n), o, o3, o4] S = .nx [some d, some (.int n), o', o3, o4] S else forD (gN 2) lpoBody rows [some d, some (.int n), o, o3, o4] S = .ret (.bl false) S
  | [], o, _ => by
    rw [if_pos (by simp)]
    exact ⟨o, rfl⟩
  | r :: rows, o, hg => by
    have hr := hg r List.mem_cons_self
    have ht := isi_tuple S hr
    cases hd : r.seq? with
    | none =>
      rw [hd] at ht
      rw [if_neg (by simp [rowOk, hd])]
      conv => lhs; unfold forD
      simp [ht]
    | some ds =>
      rw [hd] at ht
      have hlen := len_D S hd
      by_cases h2 : ds.length = 2
      · obtain ⟨m, x, rfl⟩ := two_of h2
        obtain ⟨_, hgs⟩ := gd_seq hr hd
        have i0 : ixD r (.int 0) S = some m := by rw [ix_seq hd]; rfl
        have i1 : ixD r (.int 1) S = some x := by rw [ix_seq hd]; rfl
        have tt := isi_tuple S (hgs m (by simp))
        have tr := T_law_is_ratio_ok S (hgs x (by simp))
        cases hms : m.seq? with
        | none =>
          rw [hms] at tt
          rw [if_neg (by simp [rowOk, hd, isM, hms])]
          conv => lhs; unfold forD
          simp [ht, hlen, i0, tt]
        | some es =>
          rw [hms] at tt
          have hl2 := len_D S hms
          obtain ⟨hel, hes⟩ := gd_seq (hgs m (by simp)) hms
          by_cases hn : (es.length : Int) = n
          · have ec := comp_bls (vs := [4]) (g := gN 4) (te := eAnd (eCall 1 T__law_is_integer (aCons (eVar 4) aNil)) (eBin (oBl cGe) (eVar 4) (eC (.int 0)))) (env := [some d, some (.int n), some r, o3, o4]) (S := S) (ds := es) nnD
              (fun y hy => ⟨[some d, some (.int n), some r, o3, some y], by simp [wipeA], nn_step rfl (T_law_is_integer_ok S (hes y hy))⟩) (by have : LN = 16777216 := rfl; omega)
            cases hal : es.all nnD with
            | false =>
              have hno : isM m n = false := by unfold isM; rw [hms]; simp [hal]
              rw [if_neg (by simp [rowOk, hd, hno])]
              conv => lhs; unfold forD
              simp [ht, hlen, i0, tt, hl2, hn, hms, ec, all_bls, hal]
            | true =>
              have hm : isM m n = true := by unfold isM; rw [hms]; simp [hal, hn]
              cases hx : isR x with
              | false =>
                rw [hx] at tr
                rw [if_neg (by simp [rowOk, hd, hx])]
                conv => lhs; unfold forD
                simp [ht, hlen, i0, i1, tt, hl2, hn, hms, ec, all_bls, hal, tr]
              | true =>
                rw [hx] at tr
                obtain ⟨a, b, hxs, hnum⟩ := isR_ints hx
                have x0 : ixD x (.int 0) S = some (.int a) := by rw [ix_seq hxs]; rfl
                by_cases ha : a = 0
                · rw [if_neg (by simp [rowOk, hd, hnum, ha])]
                  conv => lhs; unfold forD
                  simp [ht, hlen, i0, i1, tt, hl2, hn, hms, ec, all_bls, hal, tr, x0, ha]
                · have hro : rowOk n r = true := by unfold rowOk; rw [hd]; simp [hm, hx, hnum, ha]
                  have go : forD (gN 2) lpoBody (r :: rows) [some d, some (.int n), o, o3, o4] S = forD (gN 2) lpoBody rows [some d, some (.int n), some r, o3, o4] S := by
                    conv => lhs; unfold forD
                    simp [ht, hlen, i0, i1, tt, hl2, hn, hms, ec, all_bls, hal, tr, x0, ha]
                  rw [List.all_cons, hro, Bool.true_and, go]
                  exact lpo_loop S o3 o4 rows (some r) fun y hy => hg y (List.mem_cons_of_mem _ hy)
          · rw [if_neg (by simp [rowOk, hd, isM, hms, hn])]
            conv => lhs; unfold forD
            simp [ht, hlen, i0, tt, hl2, hn]
      · have h2' : ¬ ((ds.length : Int) = 2) := by omega
        have hno : rowOk n r = false := by
          unfold rowOk; rw [hd]
          split
          · rename_i e; cases e; simp at h2
          · rfl
        rw [if_neg (by simp [hno])]
        conv => lhs; unfold forD
        simp [ht, hlen, h2']
def chain : List Mon → Bool
  | a :: b :: r => HT.lexLt a b && chain (b :: r)
  | _ => true
theorem pgo_some (n : Int) : ∀ (rows : List D) (k : Mon), pgo n (some k) rows = (rows.all (rowOk n) && chain (k :: rows.map rowM))
  | [], k => by simp [pgo, chain]
  | r :: rows, k => by
    have ih := pgo_some n rows (rowM r)
    rw [show pgo n (some k) (r :: rows) = (rowOk n r && (HT.lexLt k (rowM r) && pgo n (some (rowM r)) rows)) from rfl, ih, List.all_cons, List.map_cons]
    rw [show chain (k :: rowM r :: rows.map rowM) = (HT.lexLt k (rowM r) && chain (rowM r :: rows.map rowM)) from rfl]
    cases rowOk n r <;> cases HT.lexLt k (rowM r) <;> simp
theorem pgo_none (n : Int) (rows : List D) : pgo n none rows = (rows.all (rowOk n) && chain (rows.map rowM)) := by
  cases rows with
  | nil => rfl
  | cons r rows =>
    rw [show pgo n none (r :: rows) = (rowOk n r && (true && pgo n (some (rowM r)) rows)) from rfl, pgo_some, List.all_cons, List.map_cons, Bool.true_and, Bool.and_assoc]
theorem chain_range : ∀ ms : List Mon, chain ms = (List.range (ms.length - 1)).all fun k => HT.lexLt (ms[k]?.getD []) (ms[k + 1]?.getD [])
  | [] => rfl
  | [_] => rfl
  | a :: b :: r => by
    have ih := chain_range (b :: r)
    rw [show chain (a :: b :: r) = (HT.lexLt a b && chain (b :: r)) from rfl, ih]
    rw [show (a :: b :: r).length - 1 = ((b :: r).length - 1) + 1 by simp, List.range_succ_eq_map, List.all_cons, List.all_map]
    congr 1
def rowAt (rows : List D) (k : Nat) : D := rows[k]?.getD .non
theorem rowM_at (rows : List D) (k : Nat) : (rows.map rowM)[k]?.getD [] = rowM (rowAt rows k) := by
  unfold rowAt
  rw [List.getElem?_map]
  cases rows[k]? <;> rfl
theorem T_law_is_polynomial_ok {d : D} {n : Int} (S : Sto) (h : gd d = true) : T__law_is_polynomial [d, .int n] S = .ok (.bl (isPoly n d)) S := by
  have ht := isi_tuple S h
  cases hd : d.seq? with
  | none =>
    rw [hd] at ht
    simp [T__law_is_polynomial, b__law_is_polynomial, ht, isPoly, hd]
  | some rows =>
    rw [hd] at ht
    obtain ⟨hlen, hg⟩ := gd_seq h hd
    have ih := lpo_loop (d := d) (n := n) S none none rows none hg
    have e : isPoly n d = pgo n none rows := by unfold isPoly; rw [hd]
    rw [e, pgo_none]
    cases hp : rows.all (rowOk n) with
    | false =>
      rw [hp, if_neg Bool.false_ne_true] at ih
      simp [T__law_is_polynomial, b__law_is_polynomial, ht, hd, ih]
    | true =>
      rw [hp, if_pos rfl] at ih
      obtain ⟨o', ih⟩ := ih
      have hl := len_D S hd
      have hr : iRng1K [.int ((rows.length : Int) - 1)] S = .ok (rngD 0 (rows.length - 1)) S := by
        rw [rng1_int S ⟨by omega, by omega⟩]; congr 2; omega
      have hrow : ∀ k, k < rows.length → ∃ m : D, ixD d (.int (k : Int)) S = some (rowAt rows k) ∧ ixD (rowAt rows k) (.int 0) S = some m ∧ m.seq? = some ((rowM (rowAt rows k)).map .int) := by
        intro k hk
        have e1 : (rowAt rows k) = rows[k] := by simp [rowAt, hk]
        rw [e1]
        have hok := List.all_eq_true.mp hp rows[k] (List.getElem_mem hk)
        unfold rowOk at hok
        split at hok
        · rename_i m x hs
          simp only [Bool.and_eq_true] at hok
          obtain ⟨ms, h1, h2, _, _⟩ := isM_ints hok.1
          refine ⟨m, by rw [ix_seq hd, atI_n, List.getElem?_eq_getElem hk], by rw [ix_seq hs]; rfl, ?_⟩
          unfold rowM
          rw [hs, h1]
          simp only
          rw [h2]
        · cases hok
      have ec := compD_map (vs := [3]) (g := gN 3) (q := tYes') (te := eBin (oBl cLt) (eIx (eIx (eVar 0) (eVar 3)) (eC (.int 0))) (eIx (eIx (eVar 0) (eBin oAdd (eVar 3) (eC (.int 1)))) (eC (.int 0)))) (env := [some d, some (.int n), o', none, none]) (S := S)
        (fun k : Nat => D.int (0 + k)) (fun _ => true) (fun k => D.bl (HT.lexLt (rowM (rowAt rows k)) (rowM (rowAt rows (k + 1))))) (List.range (rows.length - 1)) [] (fun k hk => ⟨[some d, some (.int n), o', some (.int k), none], by simp [wipeA], by simp, fun _ => by
          have hk' : k < rows.length - 1 := List.mem_range.mp hk
          obtain ⟨m, a1, a2, a3⟩ := hrow k (by omega)
          obtain ⟨m', b1, b2, b3⟩ := hrow (k + 1) (by omega)
          have b1' : ixD d (.int ((k : Int) + 1)) S = some (rowAt rows (k + 1)) := b1
          have hlt : cLt m m' = some (HT.lexLt (rowM (rowAt rows k)) (rowM (rowAt rows (k + 1)))) := by
            have h2 : two? m m' = some (rowM (rowAt rows k), rowM (rowAt rows (k + 1))) := by unfold two?; rw [a3, b3]; simp
            have : cLt m m' = (two? m m').map fun p => HT.lexLt p.1 p.2 := by cases m <;> first | rfl | simp [D.seq?] at a3
            rw [this, h2, Option.map_some]
          clear hrow
          generalize (rowAt rows (k + 1)) = rk1 at *
          generalize (rowAt rows k) = rk at *
          simp [a1, a2, b1', b2, hlt]⟩) (by have : LN = 16777216 := rfl; simp only [List.length_nil, List.length_range]; omega)
      have hf : ((List.range (rows.length - 1)).filter fun _ => true) = List.range (rows.length - 1) := List.filter_eq_self.mpr fun _ _ => rfl
      rw [hf, List.nil_append] at ec
      have hall : gAll ((List.range (rows.length - 1)).map fun k => D.bl (HT.lexLt (rowM (rowAt rows k)) (rowM (rowAt rows (k + 1))))) = some (.bl (chain (rows.map rowM))) := by
        unfold gAll
        rw [show ((List.range (rows.length - 1)).map fun k => D.bl (HT.lexLt (rowM (rowAt rows k)) (rowM (rowAt rows (k + 1))))) = ((List.range (rows.length - 1)).map fun k => HT.lexLt (rowM (rowAt rows k)) (rowM (rowAt rows (k + 1)))).map D.bl by rw [List.map_map]; rfl, bls?_map, Option.map_some, chain_range]
        congr 2
        rw [List.all_map, List.length_map]
        congr 1
        funext k
        simp only [rowM_at]
        rfl
      have ec' : compD [3] (gN 3) tYes' (eBin (oBl cLt) (eIx (eIx (eVar 0) (eVar 3)) (eC (.int 0))) (eIx (eIx (eVar 0) (eBin oAdd (eVar 3) (eC (.int 1)))) (eC (.int 0)))) [some d, some (.int n), o', none, none] (rngD 0 (rows.length - 1)) [] S = _ := ec
      simp [T__law_is_polynomial, b__law_is_polynomial] at hr ⊢
      simp [ht, hd, ih, hl, hr, ec', hall]
end DV
/-! P14: is_problem, both. -/
namespace DV
open PySem L2
def polys (n : Int) (q : D) : Bool := match q.seq? with
  | some ps => ps.all (isPoly n)
  | none => false
def isProb (d : D) : Bool := match d.seq? with
  | some [.int n, q] => decide (1 ≤ n) && polys n q
  | _ => false
theorem isProb_len {d : D} {ds : List D} (hd : d.seq? = some ds) (h : ds.length ≠ 2) : isProb d = false := by
  unfold isProb
  rw [hd]
  split
  · rename_i e; cases e; simp at h
  · rfl
theorem isProb_no {d a b : D} (hd : d.seq? = some [a, b]) (h : isI a = false) : isProb d = false := by
  unfold isProb
  rw [hd]
  split
  · rename_i e; cases e; simp [isI] at h
  · rfl
theorem T_is_problem_ok {d : D} (S : Sto) (h : gd d = true) : T_is_problem [d] S = .ok (.bl (isProb d)) S := by
  have ht := isi_tuple S h
  cases hd : d.seq? with
  | none =>
    rw [hd] at ht
    simp [T_is_problem, b_is_problem, ht, isProb, hd]
  | some ds =>
    rw [hd] at ht
    have hl := len_D S hd
    by_cases h2 : ds.length = 2
    · obtain ⟨a, b, rfl⟩ := two_of h2
      obtain ⟨_, hg⟩ := gd_seq h hd
      have i0 : ixD d (.int 0) S = some a := by rw [ix_seq hd]; rfl
      have i1 : ixD d (.int 1) S = some b := by rw [ix_seq hd]; rfl
      have ta := T_is_integer_ok S (hg a (by simp))
      cases ha : isI a with
      | false =>
        rw [ha] at ta
        simp [T_is_problem, b_is_problem, ht, hl, i0, ta, isProb_no hd ha]
      | true =>
        rw [ha] at ta
        obtain ⟨n, rfl⟩ := isI_some ha
        have e : isProb d = (decide (1 ≤ n) && polys n b) := by unfold isProb; rw [hd]
        rw [e]
        by_cases hn : n < 1
        · have : ¬ (1 ≤ n) := by omega
          simp [T_is_problem, b_is_problem, ht, hl, i0, ta, hn, this]
        · have hn1 : 1 ≤ n := by omega
          have tb := isi_tuple S (hg b (by simp))
          cases hb : b.seq? with
          | none =>
            rw [hb] at tb
            simp [T_is_problem, b_is_problem, ht, hl, i0, i1, ta, hn, hn1, tb, polys, hb]
          | some ps =>
            rw [hb] at tb
            obtain ⟨hpl, hps⟩ := gd_seq (hg b (by simp)) hb
            have ec := comp_bls (vs := [1]) (g := gN 1) (te := eCall 2 T_is_polynomial (aCons (eVar 1) (aCons (eIx (eVar 0) (eC (.int 0))) aNil))) (env := [some d, none]) (S := S) (ds := ps) (isPoly n)
              (fun y hy => ⟨[some d, some y], by simp [wipeA], by simp [i0, T_is_polynomial_ok S (hps y hy)]⟩) (by have : LN = 16777216 := rfl; omega)
            simp [T_is_problem, b_is_problem, ht, hl, i0, i1, ta, hn, hn1, tb, polys, hb, ec, all_bls]
    · have h2' : ¬ ((ds.length : Int) = 2) := by omega
      simp [T_is_problem, b_is_problem, ht, hl, h2', isProb_len hd h2]
theorem T_law_is_problem_ok {d : D} (S : Sto) (h : gd d = true) : T__law_is_problem [d] S = .ok (.bl (isProb d)) S := by
  have ht := isi_tuple S h
  cases hd : d.seq? with
  | none =>
    rw [hd] at ht
    simp [T__law_is_problem, b__law_is_problem, ht, isProb, hd]
  | some ds =>
    rw [hd] at ht
    have hl := len_D S hd
    by_cases h2 : ds.length = 2
    · obtain ⟨a, b, rfl⟩ := two_of h2
      obtain ⟨_, hg⟩ := gd_seq h hd
      have i0 : ixD d (.int 0) S = some a := by rw [ix_seq hd]; rfl
      have i1 : ixD d (.int 1) S = some b := by rw [ix_seq hd]; rfl
      have ta := T_law_is_integer_ok S (hg a (by simp))
      cases ha : isI a with
      | false =>
        rw [ha] at ta
        simp [T__law_is_problem, b__law_is_problem, ht, hl, i0, ta, isProb_no hd ha]
      | true =>
        rw [ha] at ta
        obtain ⟨n, rfl⟩ := isI_some ha
        have e : isProb d = (decide (1 ≤ n) && polys n b) := by unfold isProb; rw [hd]
        rw [e]
        by_cases hn : n < 1
        · have : ¬ (1 ≤ n) := by omega
          simp [T__law_is_problem, b__law_is_problem, ht, hl, i0, ta, hn, this]
        · have hn1 : 1 ≤ n := by omega
          have tb := isi_tuple S (hg b (by simp))
          cases hb : b.seq? with
          | none =>
            rw [hb] at tb
            simp [T__law_is_problem, b__law_is_problem, ht, hl, i0, i1, ta, hn, hn1, tb, polys, hb]
          | some ps =>
            rw [hb] at tb
            obtain ⟨hpl, hps⟩ := gd_seq (hg b (by simp)) hb
            have ec := comp_bls (vs := [1]) (g := gN 1) (te := eCall 2 T__law_is_polynomial (aCons (eVar 1) (aCons (eIx (eVar 0) (eC (.int 0))) aNil))) (env := [some d, none]) (S := S) (ds := ps) (isPoly n)
              (fun y hy => ⟨[some d, some y], by simp [wipeA], by simp [i0, T_law_is_polynomial_ok S (hps y hy)]⟩) (by have : LN = 16777216 := rfl; omega)
            simp [T__law_is_problem, b__law_is_problem, ht, hl, i0, i1, ta, hn, hn1, tb, polys, hb, ec, all_bls]
    · have h2' : ¬ ((ds.length : Int) = 2) := by omega
      simp [T__law_is_problem, b__law_is_problem, ht, hl, h2', isProb_len hd h2]
/-! ### what is drawn has the form -/
theorem rowOk_tm {n : Nat} {a : Mon × Rat} (hl : a.1.length = n) (h0 : ∀ e ∈ a.1, 0 ≤ e) (hx : a.2 ≠ 0) : rowOk n (tmD a) = true := by
  have h1 : isM (mD a.1) n = true := by
    simp only [isM, mD, seq_tup, List.length_map, hl, decide_true, Bool.true_and, List.all_eq_true]
    intro x hx
    obtain ⟨e, he, rfl⟩ := List.mem_map.mp hx
    simpa [nnD] using h0 e he
  have h2 : isR (frD a.2) = true := by
    have : Int.gcd a.2.num a.2.den = 1 := by simpa [Int.gcd, Nat.Coprime] using a.2.reduced
    simp [isR, frD, this, a.2.den_pos]
  have h3 : numD (frD a.2) ≠ 0 := fun e => hx (Rat.num_eq_zero.mp e)
  simp [rowOk, tmD, h1, h2, h3]
theorem rowM_tm (a : Mon × Rat) : rowM (tmD a) = a.1 := by simp [rowM, tmD, monD, mD]
theorem lexLt_lt : ∀ a b : Mon, HT.lexLt a b = decide (a < b)
  | [], [] => by simp [HT.lexLt]
  | [], _ :: _ => by simp [HT.lexLt]
  | _ :: _, [] => by simp [HT.lexLt]
  | x :: a, y :: b => by
    rw [HT.lexLt_cons, lexLt_lt a b]
    by_cases h : x = y
    · subst h
      have : (x :: a < x :: b) ↔ a < b := by rw [List.cons_lt_cons_iff]; simp
      simp [this]
    · have : (x :: a < y :: b) ↔ x < y := by rw [List.cons_lt_cons_iff]; simp [h]
      simp [h, this]
theorem chain_up : ∀ {ms : List Mon}, ms.Pairwise (· < ·) → chain ms = true
  | [], _ => rfl
  | [_], _ => rfl
  | a :: b :: r, h => by
    rw [List.pairwise_cons] at h
    rw [show chain (a :: b :: r) = (HT.lexLt a b && chain (b :: r)) from rfl, chain_up h.2, lexLt_lt, decide_eq_true (h.1 b List.mem_cons_self)]
    rfl
theorem isPoly_drawn {n c : Nat} {L : Tb} {d : D} (h : Drawn n c L) (hd : d.seq? = some (polyL L)) : isPoly n d = true := by
  unfold isPoly
  rw [hd]
  simp only
  rw [pgo_none, Bool.and_eq_true]
  constructor
  · rw [List.all_eq_true]
    intro r hr
    obtain ⟨a, ha, rfl⟩ := List.mem_map.mp hr
    exact rowOk_tm (h.pb.ln a ha) (fun e he => (h.ent a ha e he).1) (h.pb.cn.nz a ha)
  · apply chain_up
    rw [List.pairwise_map]
    unfold polyL
    rw [List.pairwise_map]
    exact h.pb.cn.up.imp fun {a b} hab => by rw [rowM_tm, rowM_tm]; exact hab
theorem gd_frD {x : Rat} (h : Sm x) : gd (frD x) = true := by
  have h1 : x.num.natAbs < 2 ^ 1000 := Nat.lt_trans h.1 pow1000
  have h2 : x.den < 2 ^ 1000 := Nat.lt_trans h.2 pow1000
  simp only [frD, gd, gds, Bool.and_true, Bool.and_eq_true, Nat.blt_eq]
  exact ⟨rfl, h1, by simpa using h2⟩
theorem sm_bb {x : Rat} (h : CB 42 bb x) : Sm x := h.sm (lt400 (by decide)) (lt400 (by decide))
theorem small_pow {k : Nat} (h : k < 2 ^ 20) : k < 2 ^ 1000 := Nat.lt_of_lt_of_le h (Nat.pow_le_pow_right (by decide) (by decide))
theorem gd_mD {m : Mon} (hl : m.length ≤ 1000) (h : ∀ e ∈ m, e.natAbs < 2 ^ 20) : gd (mD m) = true := by
  simp only [mD, gd, Bool.and_eq_true, Nat.ble_eq, List.length_map]
  refine ⟨hl, gds_of fun d hd => ?_⟩
  obtain ⟨e, he, rfl⟩ := List.mem_map.mp hd
  simp only [gd, Nat.blt_eq]
  exact small_pow (h e he)
theorem gd_tmD {a : Mon × Rat} (hl : a.1.length ≤ 1000) (h : ∀ e ∈ a.1, e.natAbs < 2 ^ 20) (hx : Sm a.2) : gd (tmD a) = true := by
  simp only [tmD, gd, gds, gd_mD hl h, gd_frD hx, Bool.and_true, Bool.true_and]; rfl
theorem gd_poly {n c : Nat} {L : Tb} (h : Drawn n c L) (hn : n ≤ 3) (hc : c ≤ 5) : (polyL L).length ≤ 1000 ∧ ∀ x ∈ polyL L, gd x = true := by
  refine ⟨by have := h.pb.le; simp [polyL]; omega, fun x hx => ?_⟩
  obtain ⟨a, ha, rfl⟩ := List.mem_map.mp hx
  exact gd_tmD (by rw [h.pb.ln a ha]; omega) (fun e he => by have := h.ent a ha e he; omega) (sm_bb (h.pb.cb a ha))
end DV
/-! P15: what is bent. -/
namespace DV
open PySem L2
theorem cut_mem {xs : List D} {lo hi : Option Int} {x : D} (h : x ∈ cutD xs lo hi) : x ∈ xs := by
  unfold cutD at h
  exact List.mem_of_mem_drop (List.mem_of_mem_take h)
theorem cut_len (xs : List D) (lo hi : Option Int) : (cutD xs lo hi).length ≤ xs.length := by
  unfold cutD
  simp only [List.length_take, List.length_drop]; omega
theorem gd_tup {ds : List D} (hl : ds.length ≤ 1000) (h : ∀ d ∈ ds, gd d = true) : gd (.tup ds) = true := by
  simp only [gd, Bool.and_eq_true, Nat.ble_eq]; exact ⟨hl, gds_of h⟩
theorem gd_i {i : Int} (h : i.natAbs < 2 ^ 1000) : gd (.int i) = true := by simp only [gd, Nat.blt_eq]; exact h
theorem gd_s {i : Int} (h : i.natAbs < 2 ^ 20) : gd (.int i) = true := gd_i (small_pow h)
theorem set_row {S : Sto} {n k : Nat} {rows : List D} (h : S[n]? = some (.lst rows)) (hk : k < rows.length) (v : D) : setLD (.loc n) (.int k) v S = some (S.set n (.lst (rows.set k v))) := by
  have : ixN rows.length (k : Int) = some k := by unfold ixN; rw [if_pos (by omega), if_pos (by omega)]; rfl
  simp [setLD, mutL, h, this]
theorem CS.set {t n : Nat} {S : Sto} (h : CS t S) (hn : 2 ≤ n) (o : MO) : CS t (S.set n o) := by
  obtain ⟨ns, c1, c2, c3, h⟩ := h
  refine ⟨ns, c1, c2, c3, ?_, ?_, h.n1, h.n2, h.n3, h.t3⟩
  · rw [List.getElem?_set_ne (by omega)]; exact h.s0
  · rw [List.getElem?_set_ne (by omega)]; exact h.s1
/-- the rows: good data -/
structure Rows (S : Sto) (n : Nat) (m : Nat) (rows : List D) : Prop where
  at_ : S[n]? = some (.lst rows)
  gd : ∀ r ∈ rows, gd r = true
  le : rows.length ≤ m
  n2 : 2 ≤ n
theorem Rows.keep {S S' : Sto} {n m : Nat} {rows : List D} (h : Rows S n m rows) (k : Keep S S') : Rows S' n m rows := ⟨by rw [k.2 n (by have := h.n2; omega)]; exact h.at_, h.gd, h.le, h.n2⟩
theorem Rows.put {S : Sto} {n m k : Nat} {rows : List D} (h : Rows S n m rows) {v : D} (hv : DV.gd v = true) : Rows (S.set n (.lst (rows.set k v))) n m (rows.set k v) :=
  ⟨List.getElem?_set_self (List.getElem?_eq_some_iff.mp h.at_).1, fun r hr => by
    rcases List.mem_or_eq_of_mem_set hr with hr | rfl
    · exact h.gd r hr
    · exact hv, by rw [List.length_set]; exact h.le, h.n2⟩
def k5E : EvE := eIf (tBin (oBl cEq) (eCall 2 T__law_take (aCons (eVar 0) (aCons (eC (.int 2)) aNil))) (eC (.int 0))) (eTup (aCons (eBin oAdd (eVar 7) (eTup (aCons (eC (.int 0)) aNil))) (aCons (eVar 8) aNil))) (eTup (aCons (eSlT (eVar 7) (pSome (eC (.int 1))) pNo) (aCons (eVar 8) aNil)))
def k6E : EvE := eIf (tBin (oBl cEq) (eCall 2 T__law_take (aCons (eVar 0) (aCons (eC (.int 2)) aNil))) (eC (.int 0))) (eTup (aCons (eVar 8) (aCons (eVar 7) aNil))) (eTup (aCons (eVar 7) (aCons (eVar 8) (aCons (eTup aNil) aNil))))
abbrev bentMid : EvS := (sIf (tBin (oBl cEq) (eVar 4) (eC (.int 1))) (sExpr (eMet "list" gApp (eVar 3) (aCons (eIx (eVar 3) (eVar 5)) aNil))) (sIf (tBin (oBl cEq) (eVar 4) (eC (.int 2))) (sSet 3 (eMat (lRev (eVar 3)))) (sIf (tBin (oBl cEq) (eVar 4) (eC (.int 3))) (sSeq (sSet 6 (eMat (lDisp (aCons (eTup (aCons (eBin oMul (eIx (eVar 8) (eC (.int 0))) (eC (.int 2))) (aCons (eBin oMul (eIx (eVar 8) (eC (.int 1))) (eC (.int 2))) aNil))) (aCons (eTup (aCons (eIx (eVar 8) (eC (.int 0))) (aCons (eBin oSub (eC (.int 0)) (eIx (eVar 8) (eC (.int 1)))) aNil))) (aCons (eTup (aCons (eC (.int 0)) (aCons (eC (.int 1)) aNil))) (aCons (eTup (aCons (eIx (eVar 8) (eC (.int 0))) (aCons (eC (.int 0)) aNil))) (aCons (eBin oAdd (eVar 8) (eTup (aCons (eC (.int 1)) aNil))) aNil))))))))
    (sPut' setLD (eVar 3) (eVar 5) (eTup (aCons (eVar 7) (aCons (eIx (eVar 6) (eCall 2 T__law_take (aCons (eVar 0) (aCons (eC (.int 5)) aNil)))) aNil))))) (sIf (tBin (oBl cEq) (eVar 4) (eC (.int 4))) (sSeq (sSet 9 (eCall 2 T__law_take (aCons (eVar 0) (aCons (eVar 2) aNil))))
    (sPut' setLD (eVar 3) (eVar 5) (eTup (aCons (eBin oAdd (eBin oAdd (eSlT (eVar 7) pNo (pSome (eVar 9))) (eTup (aCons (eIxL (lDisp (aCons (eBin oSub (eC (.int 0)) (eC (.int 1))) (aCons (eC (.str "1")) (aCons (eTup (aCons (eC (.int 1)) (aCons (eC (.int 1)) aNil))) (aCons (eC (.bl true)) aNil))))) (eCall 2 T__law_take (aCons (eVar 0) (aCons (eC (.int 4)) aNil)))) aNil))) (eSlT (eVar 7) (pSome (eBin oAdd (eVar 9) (eC (.int 1)))) pNo)) (aCons (eVar 8) aNil))))) (sIf (tBin (oBl cEq) (eVar 4) (eC (.int 5))) (sPut' setLD (eVar 3) (eVar 5) k5E) (sIf (tBin (oBl cEq) (eVar 4) (eC (.int 6))) (sPut' setLD (eVar 3) (eVar 5) k6E) sNil))))))
@[simp] theorem oAdd_tup {xs ys : List D} : oAdd (.tup xs) (.tup ys) = if xs.length + ys.length ≤ LN then some (.tup (xs ++ ys)) else none := rfl
theorem odd_ok {x : Rat} (h : Sm x) : ∀ d ∈ ([.tup [.int (x.num * 2), .int ((x.den : Int) * 2)], .tup [.int x.num, .int (0 - (x.den : Int))], .tup [.int 0, .int 1], .tup [.int x.num, .int 0], .tup [.int x.num, .int x.den, .int 1]] : List D), gd d = true := by
  have p1 : (2 : Nat) ^ 400 * 2 = 2 ^ 401 := (Nat.pow_succ (n := 2) (m := 400)).symm
  have p2 : (2 : Nat) ^ 401 < 2 ^ 1000 := Nat.pow_lt_pow_right (by decide) (by decide)
  obtain ⟨h1, h2⟩ := h
  have g1 : gd (.int (x.num * 2)) = true := gd_i (by rw [Int.natAbs_mul]; show x.num.natAbs * 2 < _; omega)
  have g2 : gd (.int ((x.den : Int) * 2)) = true := gd_i (by omega)
  have g3 : gd (.int x.num) = true := gd_i (by omega)
  have g4 : gd (.int (0 - (x.den : Int))) = true := gd_i (by omega)
  have g5 : gd (.int x.den) = true := gd_i (by omega)
  have g6 : gd (.int 0) = true := gd_s (by decide)
  have g7 : gd (.int 1) = true := gd_s (by decide)
  intro d hd
  simp only [List.mem_cons, List.mem_nil_iff, or_false] at hd
  rcases hd with rfl | rfl | rfl | rfl | rfl <;> simp only [gd, gds] at * <;> simp_all
theorem nat_get {ds : List D} {i : Nat} (h : i < ds.length) : ∃ d, ds[i]? = some d ∧ d ∈ ds := ⟨ds[i], List.getElem?_eq_getElem h, List.getElem_mem h⟩
theorem gApp_ok {S : Sto} {n : Nat} {rows : List D} (h : S[n]? = some (.lst rows)) (hl : rows.length < LN) (y : D) : gApp (.loc n) [y] S = some (.non, S.set n (.lst (rows ++ [y]))) := by
  simp only [gApp, mutL, h]
  rw [if_pos hl]
theorem tyD_lst {S : Sto} {n : Nat} {rows : List D} (h : S[n]? = some (.lst rows)) : tyD "list" (.loc n) S = true := by simp [tyD, h]
theorem bent_mid {t n0 k kind n : Nat} {S : Sto} {rows : List D} {a : Mon × Rat} {p : D} (hS : CS t S) (ht : t < 2 ^ 48) (hr : Rows S n0 900 rows) (hk : k < rows.length) (hrk : rows[k]? = some (tmD a)) (hn : 0 < n) (hn3 : n ≤ 3) (ha : a.1.length = n) (he : ∀ e ∈ a.1, e.natAbs < 2 ^ 20) (hx : Sm a.2) (o6 o9 : Option D) :
    ∃ env' S' n1 rows', bentMid [some (.loc 1), some p, some (.int n), some (.loc n0), some (.int kind), some (.int k), o6, some (mD a.1), some (frD a.2), o9] S = .nx env' S' ∧ env'[3]? = some (some (.loc n1)) ∧ Rows S' n1 1000 rows' ∧ CS (t + 5) S' := by
  have hLN : LN = 16777216 := rfl
  have hle := hr.le
  have gx := gd_frD hx
  have gm : gd (mD a.1) = true := gd_mD (by omega) he
  by_cases k1 : kind = 1
  · subst k1
    have hix : ixD (.loc n0) (.int k) S = some (tmD a) := by rw [ix_loc hr.at_, atI_n, hrk]
    have happ := gApp_ok hr.at_ (by omega) (tmD a)
    refine ⟨[some (.loc 1), some p, some (.int n), some (.loc n0), some (.int (1 : Nat)), some (.int k), o6, some (mD a.1), some (frD a.2), o9], S.set n0 (.lst (rows ++ [tmD a])), n0, rows ++ [tmD a], by simp [hix, happ, tyD_lst hr.at_], rfl, ⟨List.getElem?_set_self (List.getElem?_eq_some_iff.mp hr.at_).1, fun r h => ?_, by simp; omega, hr.n2⟩, (hS.mono (by omega)).set hr.n2 _⟩
    rcases List.mem_append.mp h with h | h
    · exact hr.gd r h
    · simp at h; subst h; exact gd_tmD (by omega) he hx
  by_cases k2 : kind = 2
  · subst k2
    have hl : lstOf (.loc n0) S = some rows := by simp [lstOf, hr.at_]
    refine ⟨[some (.loc 1), some p, some (.int n), some (.loc S.length), some (.int (2 : Nat)), some (.int k), o6, some (mD a.1), some (frD a.2), o9], S ++ [.lst rows.reverse], S.length, rows.reverse, by simp [hl], rfl, ⟨by simp, fun r h => hr.gd r (List.mem_reverse.mp h), by simp; omega, ?_⟩, (hS.mono (by omega)).app _⟩
    have := (List.getElem?_eq_some_iff.mp hr.at_).1
    have := hr.n2
    omega
  by_cases k3 : kind = 3
  · subst k3
    have hodd := odd_ok hx
    generalize hO : ([.tup [.int (a.2.num * 2), .int ((a.2.den : Int) * 2)], .tup [.int a.2.num, .int (0 - (a.2.den : Int))], .tup [.int 0, .int 1], .tup [.int a.2.num, .int 0], .tup [.int a.2.num, .int a.2.den, .int 1]] : List D) = O at hodd
    have hOl : O.length = 5 := by rw [← hO]; rfl
    obtain ⟨i, S2, hi, e1, h1, kp⟩ := take_ok (hS.app [.lst O]) (by omega) 5 (by decide) (by decide)
    have e1' : T__law_take [.loc 1, .int 5] (S ++ [.lst O]) = .ok (.int i) S2 := e1
    have hS1 : 1 < S.length := by obtain ⟨ns, c1, c2, c3, h⟩ := hS; exact h.lt
    have hO2 : S2[S.length]? = some (.lst O) := by rw [kp.2 _ (by omega)]; simp
    obtain ⟨d, hd, hdm⟩ := nat_get (show i < O.length by omega)
    have hix : ixD (.loc S.length) (.int i) S2 = some d := by rw [ix_loc hO2, atI_n, hd]
    have hr2 : Rows S2 n0 900 rows := by
      refine Rows.keep (S := S ++ [.lst O]) ⟨?_, hr.gd, hr.le, hr.n2⟩ kp
      rw [List.getElem?_append_left (List.getElem?_eq_some_iff.mp hr.at_).1]; exact hr.at_
    have hput := set_row hr2.at_ hk (.tup [mD a.1, d])
    have l1 : a.2.num.natAbs.log2 ≤ 399 := lgI hx.1
    have l2 : a.2.den.log2 ≤ 399 := lg hx.2
    have l3 : Nat.log2 2 ≤ 1 := lg (by decide)
    have g1 : a.2.num.natAbs.log2 + Nat.log2 2 < 1000000 := by omega
    have g2 : a.2.den.log2 + Nat.log2 2 < 1000000 := by omega
    have hadd : oAdd (frD a.2) (.tup [.int 1]) = some (.tup [.int a.2.num, .int a.2.den, .int 1]) := by simp [frD]
    have gv : gd (.tup [mD a.1, d]) = true := gd_tup (by simp) (by
      intro z hz
      simp only [List.mem_cons, List.mem_nil_iff, or_false] at hz
      rcases hz with rfl | rfl
      · exact gm
      · exact hodd _ hdm)
    refine ⟨[some (.loc 1), some p, some (.int n), some (.loc n0), some (.int (3 : Nat)), some (.int k), some (.loc S.length), some (mD a.1), some (frD a.2), o9], S2.set n0 (.lst (rows.set k (.tup [mD a.1, d]))), n0, _, ?_, rfl, ⟨(hr2.put gv).at_, (hr2.put gv).gd, by rw [List.length_set]; omega, hr.n2⟩, (h1.mono (by omega)).set hr.n2 _⟩
    rw [← hO] at e1'
    simp at e1'
    simp [g1, g2, hadd, e1', hix, hput]
  by_cases k4 : kind = 4
  · subst k4
    obtain ⟨j, S1, hj, e1, h1, kp1⟩ := take_ok hS (by omega) n (by omega) (by omega)
    obtain ⟨i, S2, hi, e2, h2, kp2⟩ := take_ok h1 (by omega) 4 (by decide) (by decide)
    have e2' : T__law_take [.loc 1, .int 4] S1 = .ok (.int i) S2 := e2
    obtain ⟨w, hw, hwm⟩ := nat_get (ds := ([.int (-1), .str "1", .tup [.int 1, .int 1], .bl true] : List D)) (show i < 4 from hi)
    have gw : gd w = true := by
      simp only [List.mem_cons, List.mem_nil_iff, or_false] at hwm
      rcases hwm with rfl | rfl | rfl | rfl
      · exact gd_s (by decide)
      · rfl
      · exact gd_tup (by simp) (by
          intro z hz
          simp only [List.mem_cons, List.mem_nil_iff, or_false] at hz
          rcases hz with rfl | rfl <;> exact gd_s (by decide))
      · rfl
    have hr2 := (hr.keep kp1).keep kp2
    have c1 := cut_len (a.1.map D.int) none (some (j : Int))
    have c2 := cut_len (a.1.map D.int) (some ((j : Int) + 1)) none
    have m1 : ∀ z ∈ cutD (a.1.map D.int) none (some (j : Int)), gd z = true := fun z hz => by
      obtain ⟨e, hm, rfl⟩ := List.mem_map.mp (cut_mem hz); exact gd_s (he e hm)
    have m2 : ∀ z ∈ cutD (a.1.map D.int) (some ((j : Int) + 1)) none, gd z = true := fun z hz => by
      obtain ⟨e, hm, rfl⟩ := List.mem_map.mp (cut_mem hz); exact gd_s (he e hm)
    have s1 : slD (mD a.1) none (some (j : Int)) = some (.tup (cutD (a.1.map D.int) none (some (j : Int)))) := rfl
    have s2 : slD (mD a.1) (some ((j : Int) + 1)) none = some (.tup (cutD (a.1.map D.int) (some ((j : Int) + 1)) none)) := rfl
    rw [List.length_map] at c1 c2
    generalize cutD (a.1.map D.int) none (some (j : Int)) = C1 at *
    generalize cutD (a.1.map D.int) (some ((j : Int) + 1)) none = C2 at *
    have hput := set_row hr2.at_ hk (.tup [.tup (C1 ++ [w] ++ C2), frD a.2])
    have q1 : C1.length + 1 ≤ 16777216 := by omega
    have q2 : C1.length + 1 + C2.length ≤ 16777216 := by omega
    have q2' : C1.length + (C2.length + 1) ≤ 16777216 := by omega
    have gv : gd (.tup [.tup (C1 ++ [w] ++ C2), frD a.2]) = true := gd_tup (by simp) (by
      intro z hz
      simp only [List.mem_cons, List.mem_nil_iff, or_false] at hz
      rcases hz with rfl | rfl
      · refine gd_tup (by simp; omega) fun z hz => ?_
        rcases List.mem_append.mp hz with hz | hz
        · rcases List.mem_append.mp hz with hz | hz
          · exact m1 z hz
          · simp at hz; subst hz; exact gw
        · exact m2 z hz
      · exact gx)
    refine ⟨[some (.loc 1), some p, some (.int n), some (.loc n0), some (.int (4 : Nat)), some (.int k), o6, some (mD a.1), some (frD a.2), some (.int j)], S2.set n0 (.lst (rows.set k (.tup [.tup (C1 ++ [w] ++ C2), frD a.2]))), n0, _, ?_, rfl, ⟨(hr2.put gv).at_, (hr2.put gv).gd, by rw [List.length_set]; omega, hr.n2⟩, (h2.mono (by omega)).set hr.n2 _⟩
    simp at hput
    simp [e1, s1, e2', hw, s2, q1, q2, q2', hput]
  by_cases k5 : kind = 5
  · subst k5
    obtain ⟨i, S1, hi, e1, h1, kp1⟩ := take_ok hS (by omega) 2 (by decide) (by decide)
    have e1' : T__law_take [.loc 1, .int 2] S = .ok (.int i) S1 := e1
    have hr2 := hr.keep kp1
    have key : ∃ v, gd v = true ∧ k5E [some (.loc 1), some p, some (.int n), some (.loc n0), some (.int (5 : Nat)), some (.int k), o6, some (mD a.1), some (frD a.2), o9] S = .ok v S1 := by
      by_cases h0 : i = 0
      · subst h0
        have q1 : a.1.length + 1 ≤ 16777216 := by omega
        refine ⟨.tup [.tup (a.1.map D.int ++ [.int 0]), frD a.2], gd_tup (by simp) (by
          intro z hz
          simp only [List.mem_cons, List.mem_nil_iff, or_false] at hz
          rcases hz with rfl | rfl
          · refine gd_tup (by simp; omega) fun z hz => ?_
            rcases List.mem_append.mp hz with hz | hz
            · obtain ⟨e, hm, rfl⟩ := List.mem_map.mp hz; exact gd_s (he e hm)
            · simp at hz; subst hz; exact gd_s (by decide)
          · exact gx), ?_⟩
        have ho : oAdd (mD a.1) (.tup [.int 0]) = some (.tup (a.1.map D.int ++ [.int 0])) := by simp [mD, q1]
        simp at e1'
        simp [k5E, e1', ho]
      · have s2 : slD (mD a.1) (some 1) none = some (.tup (cutD (a.1.map D.int) (some 1) none)) := rfl
        have c2 := cut_len (a.1.map D.int) (some 1) none
        rw [List.length_map] at c2
        refine ⟨.tup [.tup (cutD (a.1.map D.int) (some 1) none), frD a.2], gd_tup (by simp) (by
          intro z hz
          simp only [List.mem_cons, List.mem_nil_iff, or_false] at hz
          rcases hz with rfl | rfl
          · refine gd_tup (by omega) fun z hz => ?_
            obtain ⟨e, hm, rfl⟩ := List.mem_map.mp (cut_mem hz); exact gd_s (he e hm)
          · exact gx), ?_⟩
        simp [k5E, e1', h0, s2]
    obtain ⟨v, gv, ev⟩ := key
    have hput := set_row hr2.at_ hk v
    refine ⟨[some (.loc 1), some p, some (.int n), some (.loc n0), some (.int (5 : Nat)), some (.int k), o6, some (mD a.1), some (frD a.2), o9], S1.set n0 (.lst (rows.set k v)), n0, _, ?_, rfl, ⟨(hr2.put gv).at_, (hr2.put gv).gd, by rw [List.length_set]; omega, hr.n2⟩, (h1.mono (by omega)).set hr.n2 _⟩
    simp at ev
    simp [ev, hput]
  by_cases k6 : kind = 6
  · subst k6
    obtain ⟨i, S1, hi, e1, h1, kp1⟩ := take_ok hS (by omega) 2 (by decide) (by decide)
    have e1' : T__law_take [.loc 1, .int 2] S = .ok (.int i) S1 := e1
    have hr2 := hr.keep kp1
    have key : ∃ v, gd v = true ∧ k6E [some (.loc 1), some p, some (.int n), some (.loc n0), some (.int (6 : Nat)), some (.int k), o6, some (mD a.1), some (frD a.2), o9] S = .ok v S1 := by
      by_cases h0 : i = 0
      · subst h0
        refine ⟨.tup [frD a.2, mD a.1], gd_tup (by simp) (by
          intro z hz
          simp only [List.mem_cons, List.mem_nil_iff, or_false] at hz
          rcases hz with rfl | rfl
          · exact gx
          · exact gm), ?_⟩
        simp at e1'
        simp [k6E, e1']
      · refine ⟨.tup [mD a.1, frD a.2, .tup []], gd_tup (by simp) (by
          intro z hz
          simp only [List.mem_cons, List.mem_nil_iff, or_false] at hz
          rcases hz with rfl | rfl | rfl
          · exact gm
          · exact gx
          · rfl), ?_⟩
        simp [k6E, e1', h0]
    obtain ⟨v, gv, ev⟩ := key
    have hput := set_row hr2.at_ hk v
    refine ⟨[some (.loc 1), some p, some (.int n), some (.loc n0), some (.int (6 : Nat)), some (.int k), o6, some (mD a.1), some (frD a.2), o9], S1.set n0 (.lst (rows.set k v)), n0, _, ?_, rfl, ⟨(hr2.put gv).at_, (hr2.put gv).gd, by rw [List.length_set]; omega, hr.n2⟩, (h1.mono (by omega)).set hr.n2 _⟩
    simp at ev
    simp [ev, hput]
  · have n1 : ¬ ((kind : Int) = 1) := by omega
    have n2 : ¬ ((kind : Int) = 2) := by omega
    have n3 : ¬ ((kind : Int) = 3) := by omega
    have n4 : ¬ ((kind : Int) = 4) := by omega
    have n5 : ¬ ((kind : Int) = 5) := by omega
    have n6 : ¬ ((kind : Int) = 6) := by omega
    refine ⟨[some (.loc 1), some p, some (.int n), some (.loc n0), some (.int kind), some (.int k), o6, some (mD a.1), some (frD a.2), o9], S, n0, rows, ?_, rfl, ⟨hr.at_, hr.gd, by omega, hr.n2⟩, hS.mono (by omega)⟩
    simp [n1, n2, n3, n4, n5, n6]
end DV
/-! P16: what is bent, whole. -/
namespace DV
open PySem L2
def oddE : AEnv → Sto → Res (List D) := (lDisp (aCons (eTup aNil) (aCons (eC (.str "")) (aCons (eC (.int 0)) (aCons (eTup (aCons (eTup aNil) aNil)) (aCons (eTup (aCons (eTup (aCons (eBin oMul (eTup (aCons (eC (.int 0)) aNil)) (eVar 2)) (aCons (eTup (aCons (eC (.int 0)) (aCons (eC (.int 1)) aNil))) aNil))) aNil)) (aCons (eTup (aCons (eTup (aCons (eBin oMul (eTup (aCons (eC (.int 0)) aNil)) (eVar 2)) (aCons (eTup (aCons (eC (.int 1)) (aCons (eC (.int 1)) aNil))) aNil))) aNil)) (aCons (eTup (aCons (eTup (aCons (eBin oMul (eTup (aCons (eC (.int 1)) aNil)) (eVar 2)) (aCons (eTup (aCons (eC (.int 2)) (aCons (eC (.int 4)) aNil))) aNil))) aNil)) (aCons (eTup (aCons (eTup (aCons (eBin oMul (eTup (aCons (eC (.int 1)) aNil)) (eVar 2)) (aCons (eC (.int 3)) aNil))) aNil)) aNil)))))))))
def bentM : EvS := bentMid
theorem bent_body : b__law_bent = (sSeq (sSet 3 (eMat (lCB gLst (aCons (eVar 1) aNil))))
    (sSeq (sSet 4 (eCall 2 T__law_take (aCons (eVar 0) (aCons (eC (.int 8)) aNil))))
    (sSeq (sIf (bOr (tBin (oBl cEq) (eVar 4) (eC (.int 0))) (bNot (tTru (eVar 3)))) (sSeq (sSet 6 (eMat oddE)) (sRet (eIx (eVar 6) (eCall 2 T__law_take (aCons (eVar 0) (aCons (eC (.int 8)) aNil)))))) sNil)
    (sSeq (sSet 5 (eCall 2 T__law_take (aCons (eVar 0) (aCons (eCB gLenD (aCons (eVar 3) aNil)) aNil))))
    (sSeq (sAsg (eIx (eVar 3) (eVar 5)) (gTup' 2 (gCons' (gN 7) (gCons' (gN 8) gNil'))))
    (sSeq bentM
    (sRet (eCB gTupD (aCons (eVar 3) aNil))))))))) := rfl
theorem flat_rep (x : D) : ∀ n : Nat, (List.replicate n [x]).flatten = List.replicate n x
  | 0 => rfl
  | n + 1 => by rw [List.replicate_succ, List.flatten_cons, flat_rep x n]; rfl
theorem mul_rep {n : Nat} (x : D) (hn : 0 < n) (hn3 : n ≤ 3) : oMul (.tup [x]) (.int n) = some (.tup (List.replicate n x)) := by
  show (if [x] ≠ [] ∧ 1 ≤ (n : Int) ∧ (n : Int) ≤ 1000 ∧ [x].length ≤ 1000 then some (D.tup (List.replicate (n : Int).toNat [x]).flatten) else none) = _
  rw [if_pos ⟨by simp, by omega, by omega, by simp⟩, Int.toNat_natCast, flat_rep]
theorem odd8 {n : Nat} {env : AEnv} {S : Sto} (hn : 0 < n) (hn3 : n ≤ 3) (he : env[2]? = some (some (.int n))) : ∃ O : List D, oddE env S = .ok O S ∧ O.length = 8 ∧ ∀ d ∈ O, gd d = true := by
  have m0 := mul_rep (.int 0) hn hn3
  have m1 := mul_rep (.int 1) hn hn3
  have g0 : gd (.int 0) = true := gd_s (by decide)
  have g1 : gd (.int 1) = true := gd_s (by decide)
  have g2 : gd (.int 2) = true := gd_s (by decide)
  have g3 : gd (.int 3) = true := gd_s (by decide)
  have g4 : gd (.int 4) = true := gd_s (by decide)
  have r0 : gd (.tup (List.replicate n (.int 0))) = true := gd_tup (by simp; omega) fun z hz => by rw [(List.mem_replicate.mp hz).2]; exact g0
  have r1 : gd (.tup (List.replicate n (.int 1))) = true := gd_tup (by simp; omega) fun z hz => by rw [(List.mem_replicate.mp hz).2]; exact g1
  have two : ∀ a b : D, gd a = true → gd b = true → gd (.tup [a, b]) = true := fun a b ha hb => gd_tup (by simp) fun z hz => by
    simp only [List.mem_cons, List.mem_nil_iff, or_false] at hz
    rcases hz with rfl | rfl
    · exact ha
    · exact hb
  have one : ∀ a : D, gd a = true → gd (.tup [a]) = true := fun a ha => gd_tup (by simp) fun z hz => by
    simp only [List.mem_cons, List.mem_nil_iff, or_false] at hz
    subst hz; exact ha
  refine ⟨[.tup [], .str "", .int 0, .tup [.tup []], .tup [.tup [.tup (List.replicate n (.int 0)), .tup [.int 0, .int 1]]], .tup [.tup [.tup (List.replicate n (.int 0)), .tup [.int 1, .int 1]]], .tup [.tup [.tup (List.replicate n (.int 1)), .tup [.int 2, .int 4]]], .tup [.tup [.tup (List.replicate n (.int 1)), .int 3]]], ?_, rfl, ?_⟩
  · simp [oddE, he, m0, m1]
  · intro d hd
    simp only [List.mem_cons, List.mem_nil_iff, or_false] at hd
    rcases hd with rfl | rfl | rfl | rfl | rfl | rfl | rfl | rfl
    · rfl
    · rfl
    · exact g0
    · rfl
    · exact one _ (two _ _ r0 (two _ _ g0 g1))
    · exact one _ (two _ _ r0 (two _ _ g1 g1))
    · exact one _ (two _ _ r1 (two _ _ g2 g4))
    · exact one _ (two _ _ r1 g3)
theorem bent_ok {t n c : Nat} {S : Sto} {P : Tb} (hS : CS t S) (ht : t < 2 ^ 47) (hP : Drawn n c P) (hc : c ≤ 5) (hn : 0 < n) (hn3 : n ≤ 3) : ∃ d S', T__law_bent [.loc 1, .fup (polyL P), .int n] S = .ok d S' ∧ gd d = true ∧ CS (t + 20) S' := by
  obtain ⟨gl, gm⟩ := gd_poly hP hn3 hc
  have hS1 : 1 < S.length := by obtain ⟨ns, c1, c2, c3, h⟩ := hS; exact h.lt
  have hlst : gLst [.fup (polyL P)] S = some (polyL P) := rfl
  have h0 : CS t (S ++ [.lst (polyL P)]) := hS.app _
  have hpl : (polyL P).length ≤ 5 := by have := hP.pb.le; simp [polyL]; omega
  have r0 : Rows (S ++ [.lst (polyL P)]) S.length 900 (polyL P) := ⟨by simp, gm, by omega, by omega⟩
  obtain ⟨kind, S1, hk, e1, h1, k1⟩ := take_ok h0 (by omega) 8 (by decide) (by decide)
  have e1' : T__law_take [.loc 1, .int 8] (S ++ [.lst (polyL P)]) = .ok (.int kind) S1 := e1
  have r1 := r0.keep k1
  have ht1 : truD (.loc S.length) S1 = some (!(polyL P).isEmpty) := by simp [truD, r1.at_]
  by_cases hA : kind = 0 ∨ P = []
  · obtain ⟨O, eO, hO, gO⟩ := odd8 (env := [some (.loc 1), some (.fup (polyL P)), some (.int n), some (.loc S.length), some (.int kind), none, none, none, none, none]) (S := S1) hn hn3 rfl
    obtain ⟨i, S2, hi, e2, h2, k2⟩ := take_ok (h1.app [.lst O]) (by omega) 8 (by decide) (by decide)
    have e2' : T__law_take [.loc 1, .int 8] (S1 ++ [.lst O]) = .ok (.int i) S2 := e2
    have hl1 : S1.length = S.length + 1 := by rw [k1.1]; simp
    have hO2 : S2[S1.length]? = some (.lst O) := by rw [k2.2 _ (by omega)]; simp
    obtain ⟨d, hd, hdm⟩ := nat_get (show i < O.length by omega)
    have hix : ixD (.loc S1.length) (.int i) S2 = some d := by rw [ix_loc hO2, atI_n, hd]
    refine ⟨d, S2, ?_, gO d hdm, h2.mono (by omega)⟩
    have hcond : (kind : Int) = 0 ∨ (polyL P).isEmpty = true := by
      rcases hA with h | h
      · exact .inl (by omega)
      · subst h; exact .inr rfl
    by_cases hk0 : kind = 0
    · subst hk0
      simp at e1' eO
      simp [T__law_bent, bent_body, hlst, e1', eO, e2', hix]
    · have hem : (polyL P).isEmpty = true := by
        rcases hcond with h | h
        · omega
        · exact h
      rw [hem] at ht1
      simp [T__law_bent, bent_body, hlst, e1', hk0, ht1, eO, e2', hix]
  · have hk0 : ¬ kind = 0 := fun e => hA (.inl e)
    have hP0 : P ≠ [] := fun e => hA (.inr e)
    have hem : (polyL P).isEmpty = false := by
      cases P with
      | nil => exact absurd rfl hP0
      | cons a P => rfl
    rw [hem] at ht1
    have hlen : gLenD [.loc S.length] S1 = some (.int (polyL P).length) := by simp [gLenD, lenD, r1.at_]
    have hpos : 0 < (polyL P).length := by
      cases P with
      | nil => exact absurd rfl hP0
      | cons a P => simp [polyL]
    obtain ⟨k, S2, hk2, e2, h2, k2⟩ := take_ok h1 (by omega) (polyL P).length hpos (by omega)
    have r2 := r1.keep k2
    obtain ⟨a, ha⟩ : ∃ a, P[k]? = some a := ⟨P[k]'(by simpa [polyL] using hk2), List.getElem?_eq_getElem _⟩
    have haP : a ∈ P := List.mem_of_getElem? ha
    have hrk : (polyL P)[k]? = some (tmD a) := by unfold polyL; rw [List.getElem?_map, ha]; rfl
    have hix : ixD (.loc S.length) (.int k) S2 = some (tmD a) := by rw [ix_loc r2.at_, atI_n, hrk]
    obtain ⟨env', S3, n1, rows', e3, hv, r3, h3⟩ := bent_mid (p := .fup (polyL P)) (kind := kind) h2 (by omega) r2 hk2 hrk hn hn3 (hP.pb.ln a haP) (fun e he => by have := hP.ent a haP e he; omega) (sm_bb (hP.pb.cb a haP)) none none
    have htup : gTupD [.loc n1] S3 = some (.tup rows') := by simp [gTupD, lstOf, r3.at_]
    refine ⟨.tup rows', S3, ?_, gd_tup r3.le r3.gd, h3.mono (by omega)⟩
    have hseq : (tmD a).seq? = some [mD a.1, frD a.2] := rfl
    have e3' : bentM _ S2 = .nx env' S3 := e3
    simp [T__law_bent, bent_body, hlst, e1', hk0, ht1, hlen, e2, hix, tmD, e3', hv, htup]
end DV
/-! P17: repr of what is told. -/
namespace DV
open PySem L2
theorem sb_append (a b : Str) : (a ++ b).length = a.length + b.length := PySem.strLen_append ..
/-- all ints below 2 ^ 400 -/
def Small (i : Int) : Prop := i.natAbs < 2 ^ 400
theorem shown_int {i : Int} (h : Small i) : (PyData.shown (.int i)).length ≤ 401 := by
  have h1 : i.natAbs.log2 < 400 := Nat.lt_of_le_of_lt (lgI (k := 399) h) (by decide)
  have h2 := int_text_length_le (k := 400) (by decide) h1
  show (Str.ofString (toString i)).length ≤ 401
  rw [ofString_length]; exact h2
theorem showable_int {i : Int} (h : Small i) : PyData.showable (.int i) = true := by
  have h1 : i.natAbs.log2 < 1920 := Nat.lt_of_le_of_lt (lgI (k := 399) h) (by decide)
  simpa [PyData.showable] using h1
theorem tupleText_len (ts : List Str) : (tupleText ts).length ≤ piled ts + 3 := by
  unfold tupleText
  rw [sb_append, sb_append]
  have e1 : ((("(" : String) : Str)).length = 1 := rfl
  have e3 : (((if ts.length == 1 then ",)" else ")" : String) : Str)).length ≤ 2 := by split <;> decide
  rw [e1]
  by_cases h : ts = []
  · subst h
    have : (Str.join ", " ([] : List Str)).length = 0 := rfl
    omega
  · have := join_length_add ts h
    omega
theorem shown_tuple (xs : List PyData) : (PyData.shown (.tuple xs)).length ≤ piled (PyData.shownAll xs) + 3 := by
  rw [PyData.shown]; exact tupleText_len _
/-- data whose parts are shown in k signs each -/
theorem piled_le {k : Nat} : ∀ {xs : List PyData}, (∀ x ∈ xs, (PyData.shown x).length ≤ k) → piled (PyData.shownAll xs) ≤ xs.length * (k + 2)
  | [], _ => by simp [PyData.shownAll, piled]
  | x :: xs, h => by
    have ih := piled_le fun y hy => h y (List.mem_cons_of_mem _ hy)
    have h1 := h x List.mem_cons_self
    rw [PyData.shownAll, piled_cons, List.length_cons, Nat.add_mul]
    omega
theorem showable_tuple {xs : List PyData} (h : ∀ x ∈ xs, PyData.showable x = true) : PyData.showable (.tuple xs) = true := by
  rw [PyData.showable]
  induction xs with
  | nil => rfl
  | cons x xs ih => rw [PyData.showableAll, h x List.mem_cons_self, ih fun y hy => h y (List.mem_cons_of_mem _ hy)]; rfl
theorem hasDict_tuple {xs : List PyData} (h : ∀ x ∈ xs, PyData.hasDict x = false) : PyData.hasDict (.tuple xs) = false := by
  rw [PyData.hasDict]
  induction xs with
  | nil => rfl
  | cons x xs ih => rw [PyData.hasDictAll, h x List.mem_cons_self, ih fun y hy => h y (List.mem_cons_of_mem _ hy)]; rfl
theorem depth_tuple {k : Nat} {xs : List PyData} (h : ∀ x ∈ xs, PyData.depth x ≤ k) : PyData.depth (.tuple xs) ≤ k + 1 := by
  rw [PyData.depth]
  have : PyData.depthAll xs ≤ k := by
    induction xs with
    | nil => simp [PyData.depthAll]
    | cons x xs ih =>
      rw [PyData.depthAll]
      have h1 := h x List.mem_cons_self
      have h2 := ih fun y hy => h y (List.mem_cons_of_mem _ hy)
      omega
  omega
/-- shown in at most k signs, at depth j -/
structure Sh (k j : Nat) (q : PyData) : Prop where
  s : q.showable = true
  d : q.hasDict = false
  l : q.shown.length ≤ k
  p : q.depth ≤ j
theorem Sh.int {i : Int} (h : Small i) : Sh 401 0 (.int i) := ⟨showable_int h, by simp [PyData.hasDict], shown_int h, by simp [PyData.depth]⟩
theorem Sh.tup {k j : Nat} {xs : List PyData} (h : ∀ x ∈ xs, Sh k j x) : Sh (xs.length * (k + 2) + 3) (j + 1) (.tuple xs) :=
  ⟨showable_tuple fun x hx => (h x hx).s, hasDict_tuple fun x hx => (h x hx).d, Nat.le_trans (shown_tuple xs) (Nat.add_le_add_right (piled_le fun x hx => (h x hx).l) 3), depth_tuple fun x hx => (h x hx).p⟩
theorem Sh.mono {k k' j j' : Nat} {q : PyData} (h : Sh k j q) (hk : k ≤ k') (hj : j ≤ j') : Sh k' j' q := ⟨h.s, h.d, Nat.le_trans h.l hk, Nat.le_trans h.p hj⟩
theorem repr_ok {d : D} {q : PyData} {k j : Nat} (S : Sto) (hq : d.py = some q) (h : Sh k j q) (hk : k ≤ 16777216) (hj : j ≤ 20) : gRepr [d] S = some (.str q.shown) := by
  have : ShowOk q := ⟨h.s, h.d, Nat.le_trans h.l hk, Nat.le_trans h.p hj⟩
  simp only [gRepr, hq, Option.bind_some]
  rw [if_pos this]
def tmP (a : Mon × Rat) : PyData := .tuple [.tuple (a.1.map .int), .tuple [.int a.2.num, .int a.2.den]]
def polyP (L : Tb) : PyData := .tuple (L.map tmP)
theorem pys_poly : ∀ L : Tb, pys (polyL L) = some (L.map tmP)
  | [] => rfl
  | a :: L => by
    have ih := pys_poly L
    unfold polyL at ih ⊢
    rw [List.map_cons, pys, py_tmD, ih]; rfl
theorem py_poly {d : D} {L : Tb} (h : d.seq? = some (polyL L)) : d.py = some (polyP L) := by
  cases d <;> simp [D.seq?] at h <;> subst h <;> simp [D.py, pys_poly, polyP]
/-- a polynomial that can be shown -/
structure Nice (N : Nat) (L : Tb) : Prop where
  ln : ∀ a ∈ L, a.1.length = N
  le : L.length ≤ 625
  sm : ∀ a ∈ L, Sm a.2
  en : ∀ a ∈ L, ∀ e ∈ a.1, Small e
theorem Nice.sh {N : Nat} {L : Tb} (h : Nice N L) (hN : N ≤ 3) : Sh 16777216 3 (polyP L) := by
  have each : ∀ x ∈ L.map tmP, Sh 10000 2 x := by
    intro x hx
    obtain ⟨a, ha, rfl⟩ := List.mem_map.mp hx
    have h1 : Sh 5000 1 (.tuple (a.1.map .int)) := by
      have : Sh ((a.1.map PyData.int).length * (401 + 2) + 3) 1 (.tuple (a.1.map .int)) := Sh.tup fun y hy => by
        obtain ⟨e, he, rfl⟩ := List.mem_map.mp hy
        exact Sh.int (h.en a ha e he)
      refine this.mono ?_ (by decide)
      rw [List.length_map, h.ln a ha]; omega
    have h2 : Sh 3000 1 (.tuple [.int a.2.num, .int a.2.den]) := by
      have : Sh (2 * (401 + 2) + 3) 1 (.tuple [.int a.2.num, .int a.2.den]) := Sh.tup (k := 401) (j := 0) (xs := [.int a.2.num, .int a.2.den]) fun y hy => by
        simp only [List.mem_cons, List.mem_nil_iff, or_false] at hy
        rcases hy with rfl | rfl
        · exact Sh.int (h.sm a ha).1
        · exact Sh.int (by have := (h.sm a ha).2; unfold Small; omega)
      exact this.mono (by decide) (by decide)
    have : Sh (2 * (4990 + 2) + 3) 2 (tmP a) := Sh.tup (k := 4990) (j := 1) (xs := [.tuple (a.1.map .int), .tuple [.int a.2.num, .int a.2.den]]) fun y hy => by
      simp only [List.mem_cons, List.mem_nil_iff, or_false] at hy
      rcases hy with rfl | rfl
      · refine ⟨h1.s, h1.d, ?_, h1.p⟩
        have : Sh ((a.1.map PyData.int).length * (401 + 2) + 3) 1 (.tuple (a.1.map .int)) := Sh.tup fun y hy => by
          obtain ⟨e, he, rfl⟩ := List.mem_map.mp hy
          exact Sh.int (h.en a ha e he)
        refine Nat.le_trans this.l ?_
        rw [List.length_map, h.ln a ha]; omega
      · exact h2.mono (by decide) (by decide)
    exact this.mono (by decide) (by decide)
  have := Sh.tup each
  refine this.mono ?_ (by decide)
  have hl := h.le
  rw [List.length_map]; omega
theorem repr_poly {d : D} {N : Nat} {L : Tb} (S : Sto) (hd : d.seq? = some (polyL L)) (h : Nice N L) (hN : N ≤ 3) : gRepr [d] S = some (.str (polyP L).shown) := repr_ok S (py_poly hd) (h.sh hN) (Nat.le_refl _) (by decide)
theorem repr_bl (b : Bool) (S : Sto) : gRepr [.bl b] S = some (.str (if b then "True" else "False")) := by
  have : Sh 10 0 (.bool b) := ⟨by simp [PyData.showable], by simp [PyData.hasDict], by cases b <;> decide, by simp [PyData.depth]⟩
  rw [repr_ok (d := .bl b) S rfl this (by decide) (by decide)]
  simp only [PyData.shown]
theorem repr_int {i : Int} (h : Small i) (S : Sto) : gRepr [.int i] S = some (.str (PyData.shown (.int i))) := repr_ok S rfl (Sh.int h) (by decide) (by decide)
/-! ### where the monomials come from -/
theorem acc_ne {l : Tb} {m : Mon} (h : acc l m ≠ 0) : ∃ a ∈ l, a.1 = m := by
  induction l with
  | nil => exact absurd rfl h
  | cons a l ih =>
    by_cases e : a.1 = m
    · exact ⟨a, List.mem_cons_self, e⟩
    · rw [acc_cons, if_neg e, Rat.zero_add] at h
      obtain ⟨b, hb, e2⟩ := ih h
      exact ⟨b, List.mem_cons_of_mem _ hb, e2⟩
theorem small_of {e : Int} {k : Nat} (h : e.natAbs ≤ k) (hk : k < 2 ^ 20) : Small e := Nat.lt_of_le_of_lt h (Nat.lt_of_lt_of_le hk (Nat.pow_le_pow_right (by decide) (by decide)))
/-- entries at most k -/
def EntB (k : Nat) (L : Tb) : Prop := ∀ a ∈ L, ∀ e ∈ a.1, e.natAbs ≤ k
theorem addM_ent {a b : Mon} {j k : Nat} (ha : ∀ e ∈ a, e.natAbs ≤ j) (hb : ∀ e ∈ b, e.natAbs ≤ k) : ∀ e ∈ addM a b, e.natAbs ≤ j + k := by
  intro e he
  unfold addM at he
  obtain ⟨i, hi, rfl⟩ := List.mem_iff_getElem.mp he
  rw [List.getElem_zipWith]
  have h1 := ha _ (List.getElem_mem (by simp at hi; omega : i < a.length))
  have h2 := hb _ (List.getElem_mem (by simp at hi; omega : i < b.length))
  omega
theorem PolyIs.nice {N c M B k : Nat} {f : Mon → Rat} {L : Tb} (h : PolyIs N c f L) (hc : c ≤ 625) (hf : ∀ m, CB M B (f m)) (hM : M < 2 ^ 400) (hB : B < 2 ^ 400) (hk : k < 2 ^ 20) (src : ∀ m, f m ≠ 0 → ∀ e ∈ m, e.natAbs ≤ k) : Nice N L :=
  ⟨h.ln, Nat.le_trans h.le hc, fun a ha => (h.cb hf a ha).sm hM hB, fun a ha e he => by
    refine small_of (src a.1 ?_ e he) hk
    rw [← h.cf, cf_mem h.cn.nd ha]; exact h.cn.nz a ha⟩
end DV
/-! P18: the program tells what the law tells. -/
namespace DV
open PySem L2
theorem cf_cb {M B : Nat} {P : Tb} (h : ∀ a ∈ P, CB M B a.2) (nd : (keys P).Nodup) (k : Mon) : CB M B (cf P k) := by
  by_cases hk : k ∈ keys P
  · obtain ⟨a, ha, rfl⟩ := List.mem_map.mp hk
    rw [cf_mem nd ha]; exact h a ha
  · rw [cf_not hk]; exact CB.zero _ _
theorem cf_src {P : Tb} {m : Mon} (h : cf P m ≠ 0) : ∃ a ∈ P, a.1 = m := by
  by_cases hk : m ∈ keys P
  · obtain ⟨a, ha, e⟩ := List.mem_map.mp hk; exact ⟨a, ha, e⟩
  · exact absurd (cf_not hk) h
theorem Drawn.ent' {n c : Nat} {P : Tb} (h : Drawn n c P) : ∀ a ∈ P, ∀ e ∈ a.1, e.natAbs ≤ 3 := fun a ha e he => by have := h.ent a ha e he; omega
theorem Drawn.len {n c : Nat} {P : Tb} (h : Drawn n c P) (hc : c ≤ 5) : P.length ≤ 5 := Nat.le_trans h.pb.le hc
theorem Drawn.sm {n c : Nat} {P : Tb} (h : Drawn n c P) : ∀ a ∈ P, Sm a.2 := fun a ha => sm_bb (h.pb.cb a ha)
/-- p + y q, the program's way and the law's -/
theorem sum_nice {n c c' : Nat} {P Q : Tb} {y : Rat} {L : Tb} (hP : Drawn n c P) (hQ : Drawn n c' Q) (hc : c ≤ 5) (hc' : c' ≤ 5) (hy : ∀ x, CB 42 bb x → CB 42 bb (x * y)) (pl : PolyIs n (P.length + Q.length) (fun k => cf P k + acc (Q.map fun a => (a.1, a.2 * y)) k) L) : Nice n L := by
  have l1 := hP.len hc
  have l2 := hQ.len hc'
  have hcb : ∀ k, CB 42 (bb + 5 * bb) (cf P k + acc (Q.map fun a => (a.1, a.2 * y)) k) := fun k => by
    refine CB.add (by decide) (cf_cb hP.pb.cb hP.pb.cn.nd k) ((acc_cb (by decide) (fun a ha => ?_) k).mono (Nat.mul_le_mul_right bb (show (Q.map fun a => (a.1, a.2 * y)).length ≤ 5 by simpa using l2)))
    obtain ⟨b, hb, rfl⟩ := List.mem_map.mp ha
    exact hy _ (hQ.pb.cb b hb)
  refine pl.nice (k := 3) (by omega) hcb (lt400 (by decide)) (lt400 (by decide)) (by decide) fun m hm => ?_
  by_cases h1 : cf P m = 0
  · have h2 : acc (Q.map fun a => (a.1, a.2 * y)) m ≠ 0 := fun e => hm (by show cf P m + _ = 0; rw [h1, e]; exact Rat.zero_add 0)
    obtain ⟨a, ha, rfl⟩ := acc_ne h2
    obtain ⟨b, hb, rfl⟩ := List.mem_map.mp ha
    exact hQ.ent' b hb
  · obtain ⟨a, ha, rfl⟩ := cf_src h1
    exact hP.ent' a ha
theorem bbs : bb + 5 * bb < 2 ^ 400 := lt400 (by decide)
theorem law_sum_drawn {n c c' : Nat} {P Q : Tb} {y : Rat} {f : D} (hP : Drawn n c P) (hQ : Drawn n c' Q) (hc : c ≤ 5) (hc' : c' ≤ 5) (hf : fr? f y) (hsy : Sm y) (hy : ∀ x, CB 42 bb x → CB 42 bb (x * y)) (S : Sto) :
    ∃ L g, T__law_sum [.fup (polyL P), .fup (polyL Q), f] S = .ok (.fup (polyL L)) (S ++ g) ∧ PolyIs n (P.length + Q.length) (fun k => cf P k + acc (Q.map fun a => (a.1, a.2 * y)) k) L := by
  have l1 := hP.len hc
  have l2 := hQ.len hc'
  have m1 : P.length * bb ≤ 5 * bb := Nat.mul_le_mul_right _ l1
  have m2 : Q.length * bb ≤ 5 * bb := Nat.mul_le_mul_right _ l2
  have b10 : 5 * bb + 5 * bb < 2 ^ 400 := lt400 (by decide)
  exact T_law_sum_ok (B := bb) (B0 := bb) rfl rfl hP.pb.cn hP.pb.ln hQ.pb.ln (by decide) hf hsy hQ.sm (fun a ha => hy _ (hQ.pb.cb a ha)) hP.pb.cb (lt400 (by decide)) (Nat.lt_of_le_of_lt (Nat.add_le_add m1 m2) b10) (lt400 (by decide)) (lt400 (by decide)) (by have : LN = 16777216 := rfl; omega)
theorem added_same {n c c' : Nat} {P Q : Tb} (hP : Drawn n c P) (hQ : Drawn n c' Q) (hc : c ≤ 5) (hc' : c' ≤ 5) (hn : 0 < n) (S : Sto) : ∃ L g, T_added [.fup (polyL P), .fup (polyL Q)] S = .ok (.tup (polyL L)) (S ++ g) ∧ Nice n L ∧ ∀ S', ∃ g', T__law_sum [.fup (polyL P), .fup (polyL Q), .tup [.int 1, .int 1]] S' = .ok (.fup (polyL L)) (S' ++ g') := by
  have l1 := hP.len hc
  have l2 := hQ.len hc'
  have m2 : Q.length * bb ≤ 5 * bb := Nat.mul_le_mul_right _ l2
  have hb := bbs
  obtain ⟨L, g, e, pl⟩ := T_added_ok (S := S) (q := .fup (polyL Q)) rfl hP.pb.cn hP.pb.ln hQ.pb.ln hn (by decide) hQ.pb.cb (cf_cb hP.pb.cb hP.pb.cn.nd) (lt400 (by decide)) (Nat.lt_of_le_of_lt (Nat.add_le_add_left m2 _) hb) (lt400 (by decide)) (by have : LN = 16777216 := rfl; omega)
  have hone : (Q.map fun a => (a.1, a.2 * 1)) = Q := by simp [Rat.mul_one]
  have pl' : PolyIs n (P.length + Q.length) (fun k => cf P k + acc (Q.map fun a => (a.1, a.2 * 1)) k) L := by rw [hone]; exact pl
  refine ⟨L, g, e, sum_nice hP hQ hc hc' (fun x h => by rw [Rat.mul_one]; exact h) pl', fun S' => ?_⟩
  obtain ⟨L', g', e', q⟩ := law_sum_drawn (y := 1) (f := .tup [.int 1, .int 1]) hP hQ hc hc' rfl sm_one (fun x h => by rw [Rat.mul_one]; exact h) S'
  have : L' = L := q.eq.trans pl'.eq.symm
  rw [this] at e'
  exact ⟨g', e'⟩
theorem less_same {n c c' : Nat} {P Q : Tb} (hP : Drawn n c P) (hQ : Drawn n c' Q) (hc : c ≤ 5) (hc' : c' ≤ 5) (hn : 0 < n) (S : Sto) : ∃ L g, T_less [.fup (polyL P), .fup (polyL Q)] S = .ok (.tup (polyL L)) (S ++ g) ∧ Nice n L ∧ ∀ S', ∃ g', T__law_sum [.fup (polyL P), .fup (polyL Q), .tup [.int (-1), .int 1]] S' = .ok (.fup (polyL L)) (S' ++ g') := by
  have l1 := hP.len hc
  have l2 := hQ.len hc'
  have m2 : Q.length * bb ≤ 5 * bb := Nat.mul_le_mul_right _ l2
  have hb := bbs
  obtain ⟨L, g, e, pl⟩ := T_less_ok (S := S) (q := .fup (polyL Q)) rfl hP.pb.cn hQ.pb.cn hP.pb.ln hQ.pb.ln hn (by decide) hQ.pb.cb (cf_cb hP.pb.cb hP.pb.cn.nd) (lt400 (by decide)) (Nat.lt_of_le_of_lt (Nat.add_le_add_left m2 _) hb) (lt400 (by decide)) (by have : LN = 16777216 := rfl; omega)
  refine ⟨L, g, e, sum_nice hP hQ hc hc' (fun x h => h.neg) pl, fun S' => ?_⟩
  obtain ⟨L', g', e', q⟩ := law_sum_drawn (y := -1) (f := .tup [.int (-1), .int 1]) hP hQ hc hc' rfl sm_minus (fun x h => h.neg) S'
  have : L' = L := q.eq.trans pl.eq.symm
  rw [this] at e'
  exact ⟨g', e'⟩
theorem prodA_src {P Q : Tb} {m : Mon} (h : acc (prodA P Q) m ≠ 0) : ∃ a ∈ P, ∃ b ∈ Q, addM a.1 b.1 = m := by
  obtain ⟨x, hx, rfl⟩ := acc_ne h
  unfold prodA at hx
  obtain ⟨b, hb, hx⟩ := List.mem_flatMap.mp hx
  obtain ⟨a, ha, rfl⟩ := List.mem_map.mp hx
  exact ⟨a, ha, b, hb, rfl⟩
theorem multiplied_same {n c c' : Nat} {P Q : Tb} (hP : Drawn n c P) (hQ : Drawn n c' Q) (hc : c ≤ 5) (hc' : c' ≤ 5) (hn : 0 < n) (hn3 : n ≤ 3) (S : Sto) : ∃ L g, T_multiplied [.fup (polyL P), .fup (polyL Q)] S = .ok (.tup (polyL L)) (S ++ g) ∧ Nice n L ∧ ∀ S', ∃ g', T__law_product [.fup (polyL P), .fup (polyL Q)] S' = .ok (.fup (polyL L)) (S' ++ g') := by
  have hLN : LN = 16777216 := rfl
  have l1 := hP.len hc
  have l2 := hQ.len hc'
  have hcb := prodA_cb hP.pb.cb hQ.pb.cb
  have l3 : Q.length * P.length ≤ 25 := Nat.mul_le_mul l2 l1
  have l3' : P.length * Q.length ≤ 25 := Nat.mul_le_mul l1 l2
  have l4 : Q.length * (P.length * (bb * bb)) ≤ 25 * (bb * bb) := by rw [← Nat.mul_assoc]; exact Nat.mul_le_mul_right _ l3
  have l4' : P.length * (Q.length * (bb * bb)) ≤ 25 * (bb * bb) := by rw [← Nat.mul_assoc]; exact Nat.mul_le_mul_right _ l3'
  have b26 : 25 * (bb * bb) + bb * bb < 2 ^ 400 := lt400 (by decide)
  obtain ⟨L, g, e, pl⟩ := T_multiplied_ok (S := S) (p := .fup (polyL P)) (q := .fup (polyL Q)) rfl rfl hP.pb.ln hQ.pb.ln hn (by omega) (by decide) hP.sm hQ.sm hcb (lt400 (by decide)) (Nat.lt_of_le_of_lt (Nat.add_le_add_right l4 _) b26) (by omega)
  refine ⟨L, g, e, ?_, fun S' => ?_⟩
  · refine pl.nice (k := 6) (by omega) (fun k => (acc_prodA_cb (by decide) hcb k).mono (Nat.mul_le_mul_right _ l3)) (lt400 (by decide)) (lt400 (by decide)) (by decide) fun m hm => ?_
    obtain ⟨a, ha, b, hb, rfl⟩ := prodA_src hm
    exact addM_ent (hP.ent' a ha) (hQ.ent' b hb)
  · obtain ⟨L', g', e', q⟩ := T_law_product_ok (S := S') (p := .fup (polyL P)) (q := .fup (polyL Q)) rfl rfl hP.pb.ln hQ.pb.ln hn (by omega) (by decide) hP.sm hQ.sm hcb (lt400 (by decide)) (Nat.lt_of_le_of_lt (Nat.add_le_add_right l4' _) b26) (by omega)
    have : L' = L := (q.congr fun k => (acc_swap P Q k).symm).eq.trans pl.eq.symm
    rw [this] at e'
    exact ⟨g', e'⟩
theorem scaled_same {n c : Nat} {P : Tb} {f : D} {y : Rat} (hP : Drawn n c P) (hc : c ≤ 5) (hf : fr? f y) (hy : CB 42 bb y) (S : Sto) : ∃ L, T_scaled [.fup (polyL P), f] S = .ok (.tup (polyL L)) S ∧ Nice n L ∧ ∀ S', ∃ g', T__law_sum [.tup [], .fup (polyL P), f] S' = .ok (.fup (polyL L)) (S' ++ g') := by
  have hLN : LN = 16777216 := rfl
  have l1 := hP.len hc
  have hsy := sm_bb hy
  have hcb : ∀ a ∈ P, CB (42 * 42) (bb * bb) (a.2 * y) := fun a ha => (hP.pb.cb a ha).mul hy
  have sp := scale_poly (y := y) hP.pb.cn hP.pb.ln
  have m1 : P.length * (bb * bb) ≤ 5 * (bb * bb) := Nat.mul_le_mul_right _ l1
  have b5 : 5 * (bb * bb) < 2 ^ 400 := lt400 (by decide)
  refine ⟨scaleL P y, T_scaled_ok rfl hf hsy hP.sm (by omega), ?_, fun S' => ?_⟩
  · refine sp.nice (M := 42 * 42) (B := 5 * (bb * bb)) (k := 3) (by omega) (fun k => (acc_cb (by decide) (fun a ha => ?_) k).mono (show (P.map fun a => (a.1, a.2 * y)).length * (bb * bb) ≤ 5 * (bb * bb) by simpa using m1)) (lt400 (by decide)) b5 (by decide) fun m hm => ?_
    · obtain ⟨b, hb, rfl⟩ := List.mem_map.mp ha
      exact hcb b hb
    · obtain ⟨a, ha, rfl⟩ := acc_ne hm
      obtain ⟨b, hb, rfl⟩ := List.mem_map.mp ha
      exact hP.ent' b hb
  · obtain ⟨L', g', e', q⟩ := T_law_sum_ok (S := S') (P := []) (p := .tup []) (q := .fup (polyL P)) (B0 := 0) (N := n) (M := 42 * 42) (B := bb * bb) rfl rfl ⟨List.Pairwise.nil, fun _ h => (by cases h)⟩ (fun _ h => (by cases h)) hP.pb.ln (by decide) hf hsy hP.sm hcb (fun _ h => (by cases h)) (lt400 (by decide)) (by rw [List.length_nil, Nat.zero_mul, Nat.zero_add]; exact Nat.lt_of_le_of_lt m1 b5) (lt400 (by decide)) (Nat.pow_pos (by decide)) (by rw [List.length_nil]; omega)
    have : L' = scaleL P y := (q.congr fun k => by rw [cf_nil, Rat.zero_add]).eq.trans sp.eq.symm
    rw [this] at e'
    exact ⟨g', e'⟩
end DV
/-! P19: powers, degree; the steps of the law. -/
namespace DV
open PySem L2
theorem powers_nice {n : Nat} {P : Tb} (h : Powers n P) (hP : ∀ a ∈ P, ∀ e ∈ a.1, e.natAbs ≤ 3) {i : Nat} (hi : i ≤ 3) : Nice n (cpow P i) := by
  have he := h.ent hP i hi
  have hen : ∀ a ∈ cpow P i, ∀ e ∈ a.1, Small e := fun a ha e hm => small_of (he a ha e hm) (by have : 3 + 3 * i ≤ 12 := (by omega); exact Nat.lt_of_le_of_lt this (by decide))
  rcases h.pb i hi with q | q | q | q
  · exact ⟨q.ln, q.le, q.sm (lt400 (by decide)) (lt400 (by decide)), hen⟩
  · exact ⟨q.ln, q.le, q.sm (lt400 (by decide)) (lt400 (by decide)), hen⟩
  · exact ⟨q.ln, q.le, q.sm (lt400 (by decide)) (lt400 (by decide)), hen⟩
  · exact ⟨q.ln, q.le, q.sm (lt400 (by decide)) (lt400 (by decide)), hen⟩
/-- the greatest sum of exponents -/
def degI (P : Tb) : Int := maxI (-1) (P.map fun a => a.1.sum)
theorem sum_le3 : ∀ {m : Mon} {k : Nat}, (∀ e ∈ m, e.natAbs ≤ k) → m.sum.natAbs ≤ m.length * k
  | [], _, _ => by simp
  | e :: m, k, h => by
    have h1 := h e List.mem_cons_self
    have h2 := sum_le3 fun x hx => h x (List.mem_cons_of_mem _ hx)
    rw [List.sum_cons, List.length_cons, Nat.add_mul, Nat.one_mul]; omega
theorem deg_small {n c : Nat} {P : Tb} (h : Drawn n c P) (hn : n ≤ 3) : Small (degI P) := by
  have hm := maxI_mem (P.map fun a => a.1.sum) (-1)
  unfold degI
  rcases List.mem_cons.mp hm with e | e
  · rw [e]; exact small_of (k := 1) (by decide) (by decide)
  · obtain ⟨a, ha, e⟩ := List.mem_map.mp e
    rw [← e]
    have h1 := sum_le3 (h.ent' a ha)
    rw [h.pb.ln a ha] at h1
    exact small_of (k := 9) (by omega) (by decide)
theorem gSumD_mD (m : Mon) (S : Sto) : gSumD [mD m] S = some (.int m.sum) := by simp [gSumD, mD, gSum]
theorem deg_max (P : Tb) : gMax (.int (-1) :: P.map fun a => D.int a.1.sum) = some (.int (degI P)) := by
  have : ints? (.int (-1) :: P.map fun a => D.int a.1.sum) = some ((-1) :: P.map fun a => a.1.sum) := by
    rw [show (D.int (-1) :: P.map fun a => D.int a.1.sum) = ((-1) :: P.map fun a => a.1.sum).map D.int by simp]
    exact ints?_map _
  simp only [gMax, this]; rfl
theorem T_degree_ok {P : Tb} {p : D} (S : Sto) (hp : p.seq? = some (polyL P)) (hl : P.length ≤ 1000) : T_degree [p] S = .ok (.int (degI P)) S := by
  have hLN : LN = 16777216 := rfl
  have ec := compD_map (vs := [1, 2]) (g := gTup' 2 (gCons' (gN 1) (gCons' (gN 2) gNil'))) (q := tYes') (te := eCB gSumD (aCons (eVar 1) aNil)) (env := [some p, none, none]) (S := S)
    tmD (fun _ => true) (fun a => D.int a.1.sum) P [] (fun a _ => ⟨[some p, some (mD a.1), some (frD a.2)], by simp [wipeA, tmD], by simp, fun _ => by simp [gSumD_mD]⟩) (by simp; omega)
  rw [List.filter_eq_self.mpr (fun _ _ => rfl), List.nil_append] at ec
  have hm := deg_max P
  have hq : 1 + P.length ≤ 16777216 := by omega
  change compD _ _ _ _ _ (polyL P) _ _ = _ at ec
  simp [T_degree, b_degree, hp, ec, hq, hm]
end DV
/-! P20: the steps of the law. -/
namespace DV
open PySem L2
abbrev lenv (n : Nat) (o3 o4 o5 o6 : Option D) (P Q : Tb) (o9 o10 o11 : Option D) : AEnv := [none, some (.loc 1), some (.int n), o3, o4, o5, o6, some (.fup (polyL P)), some (.fup (polyL Q)), o9, o10, o11, none, none]
theorem Drawn.mono {n c c' : Nat} {L : Tb} (h : Drawn n c L) (l : c ≤ c') : Drawn n c' L := ⟨h.pb.more l, h.ent⟩
theorem same_step {fa fb : EvE} {env : AEnv} {S S1 S2 : Sto} {a b : D} {x : Str} (h1 : fa env S = .ok a S1) (r1 : gRepr [a] S1 = some (.str x)) (h2 : fb env S1 = .ok b S2) (r2 : gRepr [b] S2 = some (.str x)) :
    tBin (oBn cEq) (eCB gRepr (aCons fa aNil)) (eCB gRepr (aCons fb aNil)) env S = .ok false S2 := by
  simp [h1, r1, h2, r2]
theorem law0 {t : Nat} {S : Sto} (h : CS t S) (ht : t < 2 ^ 40) : ∃ (n : Nat) (S' : Sto), 0 < n ∧ n ≤ 3 ∧ CS (t + 1) S' ∧ b_law_0 [none, some (.loc 1), none, none, none, none, none, none, none, none, none, none, none, none] S = .nx [none, some (.loc 1), some (.int n), none, none, none, none, none, none, none, none, none, none, none] S' := by
  obtain ⟨d, S1, hd, e, h1, k⟩ := take_ok h (by omega) 3 (by decide) (by decide)
  have e' : T__law_take [.loc 1, .int 3] S = .ok (.int d) S1 := e
  refine ⟨d + 1, S1, by omega, by omega, h1, ?_⟩
  have : (1 + (d : Int)) = ((d + 1 : Nat) : Int) := by omega
  simp [b_law_0, e', this]
theorem law1 {t n : Nat} {S : Sto} (h : CS t S) (ht : t < 2 ^ 40) (hn : 0 < n) (hn3 : n ≤ 3) : ∃ (P Q : Tb) (S' : Sto), Drawn n 5 P ∧ Drawn n 5 Q ∧ CS (t + 200) S' ∧ b_law_1 [none, some (.loc 1), some (.int n), none, none, none, none, none, none, none, none, none, none, none] S = .nx (lenv n none none none none P Q none none none) S' := by
  obtain ⟨P, S1, e1, d1, h1⟩ := polynomial_ok (terms := 5) h (by omega) hn hn3 (by decide)
  obtain ⟨Q, S2, e2, d2, h2⟩ := polynomial_ok (terms := 4) h1 (by omega) hn hn3 (by decide)
  have e1' : T__law_polynomial [.loc 1, .int n, .int 5, .int 3] S = .ok (.fup (polyL P)) S1 := e1
  have e2' : T__law_polynomial [.loc 1, .int n, .int 4, .int 3] S1 = .ok (.fup (polyL Q)) S2 := e2
  refine ⟨P, Q, S2, d1, d2.mono (by decide), h2, ?_⟩
  simp [b_law_1, e1', e2']
theorem law2 {t n : Nat} {S : Sto} {P Q : Tb} (h : CS t S) (ht : t < 2 ^ 40) (hP : Drawn n 5 P) (hQ : Drawn n 5 Q) : ∃ (Q' : Tb) (S' : Sto), Drawn n 5 Q' ∧ CS (t + 1) S' ∧ b_law_2 (lenv n none none none none P Q none none none) S = .nx (lenv n none none none none P Q' none none none) S' := by
  obtain ⟨d, S1, hd, e, h1, k⟩ := take_ok h (by omega) 5 (by decide) (by decide)
  have e' : T__law_take [.loc 1, .int 5] S = .ok (.int d) S1 := e
  by_cases h0 : d = 0
  · subst h0
    refine ⟨P, S1, hP, h1, ?_⟩
    simp at e'
    simp [b_law_2, e']
  · refine ⟨Q, S1, hQ, h1, ?_⟩
    simp [b_law_2, e', h0]
section
variable {t n : Nat} {S : Sto} {P Q : Tb} {o3 o4 o5 o6 o9 o10 o11 : Option D}
theorem law3 (h : CS t S) (hP : Drawn n 5 P) (hQ : Drawn n 5 Q) (hn : 0 < n) (hn3 : n ≤ 3) : ∃ S', CS t S' ∧ b_law_3 (lenv n o3 o4 o5 o6 P Q o9 o10 o11) S = .nx (lenv n o3 o4 o5 o6 P Q o9 o10 o11) S' := by
  have w1 : ∃ L S1 S2, T_added [.fup (polyL P), .fup (polyL Q)] S = .ok (.tup (polyL L)) S1 ∧ Nice n L ∧ T__law_sum [.fup (polyL P), .fup (polyL Q), .tup [.int 1, .int 1]] S1 = .ok (.fup (polyL L)) S2 ∧ CS t S2 := by
    obtain ⟨L, g, e1, ni, e2⟩ := added_same hP hQ (by decide) (by decide) hn S
    obtain ⟨g', e2⟩ := e2 (S ++ g)
    exact ⟨L, _, _, e1, ni, e2, (h.app _).app _⟩
  obtain ⟨L, S1, S2, e1, ni, e2, h2⟩ := w1
  have w2 : ∃ L S3 S4, T_less [.fup (polyL P), .fup (polyL Q)] S2 = .ok (.tup (polyL L)) S3 ∧ Nice n L ∧ T__law_sum [.fup (polyL P), .fup (polyL Q), .tup [.int (-1), .int 1]] S3 = .ok (.fup (polyL L)) S4 ∧ CS t S4 := by
    obtain ⟨L, g, e1, ni, e2⟩ := less_same hP hQ (by decide) (by decide) hn S2
    obtain ⟨g', e2⟩ := e2 (S2 ++ g)
    exact ⟨L, _, _, e1, ni, e2, (h2.app _).app _⟩
  obtain ⟨L2, S3, S4, e3, ni2, e4, h4⟩ := w2
  refine ⟨S4, h4, ?_⟩
  have t1 : tBin (oBn cEq) (eCB gRepr (aCons (eCall 2 T_added (aCons (eVar 7) (aCons (eVar 8) aNil))) aNil)) (eCB gRepr (aCons (eCall 3 T__law_sum (aCons (eVar 7) (aCons (eVar 8) (aCons (eTup (aCons (eC (.int 1)) (aCons (eC (.int 1)) aNil))) aNil)))) aNil)) (lenv n o3 o4 o5 o6 P Q o9 o10 o11) S = .ok false S2 :=
    same_step (x := (polyP L).shown) (a := .tup (polyL L)) (b := .fup (polyL L)) (S1 := S1) (by simp [e1]) (repr_poly _ rfl ni hn3) (by simp [e2]) (repr_poly _ rfl ni hn3)
  have t2 : tBin (oBn cEq) (eCB gRepr (aCons (eCall 2 T_less (aCons (eVar 7) (aCons (eVar 8) aNil))) aNil)) (eCB gRepr (aCons (eCall 3 T__law_sum (aCons (eVar 7) (aCons (eVar 8) (aCons (eTup (aCons (eBin oSub (eC (.int 0)) (eC (.int 1))) (aCons (eC (.int 1)) aNil))) aNil)))) aNil)) (lenv n o3 o4 o5 o6 P Q o9 o10 o11) S2 = .ok false S4 :=
    same_step (x := (polyP L2).shown) (a := .tup (polyL L2)) (b := .fup (polyL L2)) (S1 := S3) (by simp [e3]) (repr_poly _ rfl ni2 hn3) (by simp [e4]) (repr_poly _ rfl ni2 hn3)
  show sbind (bOr _ _ (lenv n o3 o4 o5 o6 P Q o9 o10 o11) S) _ _ = _
  simp only [bOr]
  rw [t1]
  simp only [Res.bind, if_neg Bool.false_ne_true]
  rw [t2]
  simp
theorem law4 (h : CS t S) (hP : Drawn n 5 P) (hQ : Drawn n 5 Q) (hn : 0 < n) (hn3 : n ≤ 3) : ∃ S', CS t S' ∧ b_law_4 (lenv n o3 o4 o5 o6 P Q o9 o10 o11) S = .nx (lenv n o3 o4 o5 o6 P Q o9 o10 o11) S' := by
  have w1 : ∃ L S1 S2, T_multiplied [.fup (polyL P), .fup (polyL Q)] S = .ok (.tup (polyL L)) S1 ∧ Nice n L ∧ T__law_product [.fup (polyL P), .fup (polyL Q)] S1 = .ok (.fup (polyL L)) S2 ∧ CS t S2 := by
    obtain ⟨L, g, e1, ni, e2⟩ := multiplied_same hP hQ (by decide) (by decide) hn hn3 S
    obtain ⟨g', e2⟩ := e2 (S ++ g)
    exact ⟨L, _, _, e1, ni, e2, (h.app _).app _⟩
  obtain ⟨L, S1, S2, e1, ni, e2, h2⟩ := w1
  refine ⟨S2, h2, ?_⟩
  have t1 : tBin (oBn cEq) (eCB gRepr (aCons (eCall 2 T_multiplied (aCons (eVar 7) (aCons (eVar 8) aNil))) aNil)) (eCB gRepr (aCons (eCall 2 T__law_product (aCons (eVar 7) (aCons (eVar 8) aNil))) aNil)) (lenv n o3 o4 o5 o6 P Q o9 o10 o11) S = .ok false S2 :=
    same_step (x := (polyP L).shown) (a := .tup (polyL L)) (b := .fup (polyL L)) (S1 := S1) (by simp [e1]) (repr_poly _ rfl ni hn3) (by simp [e2]) (repr_poly _ rfl ni hn3)
  show sbind (tBin _ _ _ (lenv n o3 o4 o5 o6 P Q o9 o10 o11) S) _ _ = _
  rw [t1]
  simp
theorem law5 (h : CS t S) (ht : t < 2 ^ 40) : ∃ (f : D) (y : Rat) (S' : Sto), fr? f y ∧ CB 42 bb y ∧ CS (t + 3) S' ∧ b_law_5 (lenv n o3 o4 o5 o6 P Q o9 o10 o11) S = .nx (lenv n (some f) o4 o5 o6 P Q o9 o10 o11) S' := by
  obtain ⟨d, S1, hd, e, h1, k⟩ := take_ok h (by omega) 5 (by decide) (by decide)
  have e' : T__law_take [.loc 1, .int 5] S = .ok (.int d) S1 := e
  by_cases h0 : d = 0
  · subst h0
    refine ⟨.tup [.int 0, .int 1], 0, S1, fr_zeroT, CB.zero _ _, h1.mono (by omega), ?_⟩
    simp at e'
    simp [b_law_5, e']
  · obtain ⟨y, S2, e2, _, hy, h2, _⟩ := fraction_ok h1 (by omega)
    refine ⟨frD y, y, S2, fr_frD y, hy, h2, ?_⟩
    have : 0 < d := by omega
    simp [b_law_5, e', this, e2]
theorem law6 {f : D} {y : Rat} (h : CS t S) (hP : Drawn n 5 P) (hn3 : n ≤ 3) (hf : fr? f y) (hy : CB 42 bb y) : ∃ S', CS t S' ∧ b_law_6 (lenv n (some f) o4 o5 o6 P Q o9 o10 o11) S = .nx (lenv n (some f) o4 o5 o6 P Q o9 o10 o11) S' := by
  obtain ⟨L, e1, ni, e2⟩ := scaled_same hP (by decide) hf hy S
  obtain ⟨g', e2⟩ := e2 S
  refine ⟨S ++ g', h.app _, ?_⟩
  have t1 : tBin (oBn cEq) (eCB gRepr (aCons (eCall 2 T_scaled (aCons (eVar 7) (aCons (eVar 3) aNil))) aNil)) (eCB gRepr (aCons (eCall 3 T__law_sum (aCons (eTup aNil) (aCons (eVar 7) (aCons (eVar 3) aNil)))) aNil)) (lenv n (some f) o4 o5 o6 P Q o9 o10 o11) S = .ok false (S ++ g') :=
    same_step (x := (polyP L).shown) (a := .tup (polyL L)) (b := .fup (polyL L)) (S1 := S) (by simp [e1]) (repr_poly _ rfl ni hn3) (by simp [e2]) (repr_poly _ rfl ni hn3)
  show sbind (tBin _ _ _ (lenv n (some f) o4 o5 o6 P Q o9 o10 o11) S) _ _ = _
  rw [t1]
  simp
theorem law7 (h : CS t S) (ht : t < 2 ^ 40) : ∃ (j : Nat) (S' : Sto), j ≤ 3 ∧ CS (t + 1) S' ∧ b_law_7 (lenv n o3 o4 o5 o6 P Q o9 o10 o11) S = .nx (lenv n o3 (some (.int (j + 1 : Nat))) o5 o6 P Q o9 o10 o11) S' := by
  obtain ⟨d, S1, hd, e, h1, k⟩ := take_ok h (by omega) 4 (by decide) (by decide)
  have e' : T__law_take [.loc 1, .int 4] S = .ok (.int d) S1 := e
  refine ⟨d, S1, by omega, h1, ?_⟩
  have : (1 + (d : Int)) = ((d : Int) + 1) := by omega
  simp [b_law_7, e', this]
theorem law8 : b_law_8 (lenv n o3 o4 o5 o6 P Q o9 o10 o11) S = .nx (lenv n o3 o4 (some (.fup (polyL P))) o6 P Q o9 o10 o11) S := by
  simp [b_law_8]
theorem law9 {j : Nat} (h : CS t S) (hj : j ≤ 3) (pw : Powers n P) : ∃ (d : D) (o6' : Option D) (S' : Sto), d.seq? = some (polyL (cpow P j)) ∧ CS t S' ∧ b_law_9 (lenv n o3 (some (.int (j + 1 : Nat))) (some (.fup (polyL P))) o6 P Q o9 o10 o11) S = .nx (lenv n o3 (some (.int (j + 1 : Nat))) (some d) o6' P Q o9 o10 o11) S' := by
  obtain ⟨env', S', h1, i, d, o, g, e1, e2, rfl, rfl, e5⟩ := forD_rule (g := gN 6) (f := b_law_9b)
    (fun ds env S1 => ∃ i d o g, i ≤ j ∧ ds.length = j - i ∧ env = lenv n o3 (some (.int (j + 1 : Nat))) (some d) o P Q o9 o10 o11 ∧ S1 = S ++ g ∧ d.seq? = some (polyL (cpow P i)))
    (by
      rintro x ds env S1 ⟨i, d, o, g, e1, e2, rfl, rfl, e5⟩
      simp only [List.length_cons] at e2
      obtain ⟨g2, e6⟩ := pw.lp i (by omega) d (.fup (polyL P)) (S ++ g) rfl e5
      refine ⟨(lenv n o3 (some (.int (j + 1 : Nat))) (some d) (some x) P Q o9 o10 o11, S ++ g), lenv n o3 (some (.int (j + 1 : Nat))) (some (.fup (polyL (cpow P (i + 1))))) (some x) P Q o9 o10 o11, S ++ g ++ g2, by simp, ?_, i + 1, .fup (polyL (cpow P (i + 1))), some x, g ++ g2, by omega, by omega, rfl, by simp, rfl⟩
      simp at e6
      simp [b_law_9b, b_law_9b_0, e6])
    (rngD 0 j) (lenv n o3 (some (.int (j + 1 : Nat))) (some (.fup (polyL P))) o6 P Q o9 o10 o11) S ⟨0, .fup (polyL P), o6, [], Nat.zero_le _, by rw [rng_len]; rfl, rfl, by simp, rfl⟩
  have hij : i = j := by simp at e2; omega
  subst hij
  refine ⟨d, o, S ++ g, e5, h.app _, ?_⟩
  have hr : iRng1K [.int ((i + 1 : Nat) - 1)] S = .ok (rngD 0 i) S := by
    rw [show (((i + 1 : Nat) : Int) - 1) = (i : Int) by omega]
    exact rng1_nat S (by omega)
  simp [b_law_9] at h1 hr ⊢
  simp [hr, h1]
theorem law10 {j : Nat} {d : D} (h : CS t S) (hj : j ≤ 3) (pw : Powers n P) (hP : Drawn n 5 P) (hn3 : n ≤ 3) (hd : d.seq? = some (polyL (cpow P j))) : ∃ S', CS t S' ∧ b_law_10 (lenv n o3 (some (.int (j + 1 : Nat))) (some d) o6 P Q o9 o10 o11) S = .nx (lenv n o3 (some (.int (j + 1 : Nat))) (some d) o6 P Q o9 o10 o11) S' := by
  obtain ⟨d', g, e1, e2⟩ := T_raised_ok (p := .fup (polyL P)) pw rfl j hj S
  have ni := powers_nice pw hP.ent' hj
  refine ⟨S ++ g, h.app _, ?_⟩
  have t1 : tBin (oBn cEq) (eCB gRepr (aCons (eCall 2 T_raised (aCons (eVar 7) (aCons (eVar 4) aNil))) aNil)) (eCB gRepr (aCons (eVar 5) aNil)) (lenv n o3 (some (.int (j + 1 : Nat))) (some d) o6 P Q o9 o10 o11) S = .ok false (S ++ g) :=
    same_step (x := (polyP (cpow P j)).shown) (a := d') (b := d) (S1 := S ++ g) (by simp at e1 ⊢; simp [e1]) (repr_poly _ e2 ni hn3) (by simp) (repr_poly _ hd ni hn3)
  show sbind (tBin _ _ _ (lenv n o3 (some (.int (j + 1 : Nat))) (some d) o6 P Q o9 o10 o11) S) _ _ = _
  rw [t1]
  simp
theorem law11 (h : CS t S) (hP : Drawn n 5 P) (hn3 : n ≤ 3) : b_law_11 (lenv n o3 o4 o5 o6 P Q o9 o10 o11) S = .nx (lenv n o3 o4 o5 o6 P Q o9 o10 o11) S := by
  have hLN : LN = 16777216 := rfl
  have hl := hP.len (by decide)
  have e1 := T_degree_ok (p := .fup (polyL P)) S rfl (by omega)
  have ec := compD_map (vs := [12, 13]) (g := gTup' 2 (gCons' (gN 12) (gCons' (gN 13) gNil'))) (q := tYes') (te := eCB gSumD (aCons (eVar 12) aNil)) (env := lenv n o3 o4 o5 o6 P Q o9 o10 o11) (S := S)
    tmD (fun _ => true) (fun a => D.int a.1.sum) P [] (fun a _ => ⟨[none, some (.loc 1), some (.int n), o3, o4, o5, o6, some (.fup (polyL P)), some (.fup (polyL Q)), o9, o10, o11, some (mD a.1), some (frD a.2)], by simp [wipeA, tmD], by simp, fun _ => by simp [gSumD_mD]⟩) (by simp; omega)
  rw [List.filter_eq_self.mpr (fun _ _ => rfl), List.nil_append] at ec
  change compD _ _ _ _ _ (polyL P) _ _ = _ at ec
  have hm := deg_max P
  have hq : 1 + P.length ≤ 16777216 := by omega
  have t1 : tBin (oBn cEq) (eCB gRepr (aCons (eCall 1 T_degree (aCons (eVar 7) aNil)) aNil)) (eCB gRepr (aCons (eOfL gMax (lCat (lDisp (aCons (eBin oSub (eC (.int 0)) (eC (.int 1))) aNil)) (lComp [12, 13] (iTup' (eVar 7)) (gTup' 2 (gCons' (gN 12) (gCons' (gN 13) gNil'))) tYes' (eCB gSumD (aCons (eVar 12) aNil))))) aNil)) (lenv n o3 o4 o5 o6 P Q o9 o10 o11) S = .ok false S :=
    same_step (x := PyData.shown (.int (degI P))) (a := .int (degI P)) (b := .int (degI P)) (S1 := S) (by simp [e1]) (repr_int (deg_small hP hn3) S) (by simp [ec, hq, hm]) (repr_int (deg_small hP hn3) S)
  show sbind (tBin _ _ _ (lenv n o3 o4 o5 o6 P Q o9 o10 o11) S) _ _ = _
  rw [t1]
  simp
end
end DV
/-! P21: the rest of the law. -/
namespace DV
open PySem L2
theorem gd_fup {ds : List D} (hl : ds.length ≤ 1000) (h : ∀ d ∈ ds, gd d = true) : gd (.fup ds) = true := by
  simp only [gd, Bool.and_eq_true, Nat.ble_eq]; exact ⟨hl, gds_of h⟩
theorem Drawn.gd {n c : Nat} {P : Tb} (h : Drawn n c P) (hn : n ≤ 3) (hc : c ≤ 5) : DV.gd (.fup (polyL P)) = true := by
  obtain ⟨h1, h2⟩ := gd_poly h hn hc
  exact gd_fup h1 h2
theorem gd_1 {a : D} (ha : gd a = true) : gd (.tup [a]) = true := gd_tup (by simp) fun z hz => by
  simp only [List.mem_cons, List.mem_nil_iff, or_false] at hz
  subst hz; exact ha
theorem gd_2 {a b : D} (ha : gd a = true) (hb : gd b = true) : gd (.tup [a, b]) = true := gd_tup (by simp) fun z hz => by
  simp only [List.mem_cons, List.mem_nil_iff, or_false] at hz
  rcases hz with rfl | rfl
  · exact ha
  · exact hb
theorem gd_3 {a b c : D} (ha : gd a = true) (hb : gd b = true) (hc : gd c = true) : gd (.tup [a, b, c]) = true := gd_tup (by simp) fun z hz => by
  simp only [List.mem_cons, List.mem_nil_iff, or_false] at hz
  rcases hz with rfl | rfl | rfl
  · exact ha
  · exact hb
  · exact hc
section
variable {t n : Nat} {S : Sto} {P Q : Tb} {o3 o4 o5 o6 o9 o10 o11 : Option D}
theorem law12_0 (h : CS t S) (ht : t < 2 ^ 40) (hP : Drawn n 5 P) (hn : 0 < n) (hn3 : n ≤ 3) : ∃ d S', gd d = true ∧ CS (t + 20) S' ∧ b_law_12b_0 (lenv n o3 o4 o5 o6 P Q o9 o10 o11) S = .nx (lenv n o3 o4 o5 o6 P Q (some d) o10 o11) S' := by
  obtain ⟨d, S', e, hd, h'⟩ := bent_ok h (by omega) hP (by decide) hn hn3
  exact ⟨d, S', hd, h', by simp [b_law_12b_0, e]⟩
theorem law12_1 (h : CS t S) (ht : t < 2 ^ 40) (hn3 : n ≤ 3) : ∃ (m : Int) (S' : Sto), m.natAbs < 2 ^ 20 ∧ CS (t + 1) S' ∧ b_law_12b_1 (lenv n o3 o4 o5 o6 P Q o9 o10 o11) S = .nx (lenv n o3 o4 o5 o6 P Q o9 (some (.int m)) o11) S' := by
  obtain ⟨d, S1, hd, e, h1, k⟩ := take_ok h (by omega) 5 (by decide) (by decide)
  have e' : T__law_take [.loc 1, .int 5] S = .ok (.int d) S1 := e
  have l4 : Nat.log2 4 < 9000 := Nat.lt_of_le_of_lt (lg (k := 2) (by decide)) (by decide)
  have hb : (d : Int) / 4 ≤ 1 := by omega
  have hb0 : 0 ≤ (d : Int) / 4 := by omega
  have hs : ((n : Int) + (d : Int) / 4).natAbs ≤ 4 := by omega
  exact ⟨n + d / 4, S1, Nat.lt_of_le_of_lt hs (by decide), h1, by simp [b_law_12b_1, e', l4]⟩
theorem law12_2 {d : D} {m : Int} (hd : gd d = true) : b_law_12b_2 (lenv n o3 o4 o5 o6 P Q (some d) (some (.int m)) o11) S = .nx (lenv n o3 o4 o5 o6 P Q (some d) (some (.int m)) o11) S := by
  have e1 := T_is_polynomial_ok (n := m) S hd
  have e2 := T_law_is_polynomial_ok (n := m) S hd
  have t1 : tBin (oBn cEq) (eCB gRepr (aCons (eCall 2 T_is_polynomial (aCons (eVar 9) (aCons (eVar 10) aNil))) aNil)) (eCB gRepr (aCons (eCall 2 T__law_is_polynomial (aCons (eVar 9) (aCons (eVar 10) aNil))) aNil)) (lenv n o3 o4 o5 o6 P Q (some d) (some (.int m)) o11) S = .ok false S :=
    same_step (a := .bl (isPoly m d)) (b := .bl (isPoly m d)) (S1 := S) (by simp [e1]) (repr_bl _ S) (by simp [e2]) (repr_bl _ S)
  show sbind (tBin _ _ _ (lenv n o3 o4 o5 o6 P Q (some d) (some (.int m)) o11) S) _ _ = _
  rw [t1]
  simp
theorem law12_3 {d : D} {m : Int} (h : CS t S) (ht : t < 2 ^ 40) (hd : gd d = true) (hm : m.natAbs < 2 ^ 20) (hP : Drawn n 5 P) (hQ : Drawn n 5 Q) (hn3 : n ≤ 3) : ∃ v S', gd v = true ∧ CS (t + 1) S' ∧ b_law_12b_3 (lenv n o3 o4 o5 o6 P Q (some d) (some (.int m)) o11) S = .nx (lenv n o3 o4 o5 o6 P Q (some d) (some (.int m)) (some v)) S' := by
  obtain ⟨i, S1, hi, e, h1, k⟩ := take_ok h (by omega) 6 (by decide) (by decide)
  have e' : T__law_take [.loc 1, .int 6] S = .ok (.int i) S1 := e
  have gm : gd (.int m) = true := gd_s hm
  have gP := hP.gd hn3 (by decide)
  have gQ := hQ.gd hn3 (by decide)
  have g0 : gd (.tup []) = true := rfl
  obtain ⟨v, hv, hvm⟩ := nat_get (ds := [.tup [.int m, .tup [d, .fup (polyL Q)]], .tup [.int m, .tup [d]], .tup [.int m, d], d, .tup [.int m], .tup [.int m, .tup [.fup (polyL Q), .fup (polyL P)], .tup []]]) (show i < 6 from hi)
  refine ⟨v, S1, ?_, h1, by simp [b_law_12b_3, e', hv]⟩
  simp only [List.mem_cons, List.mem_nil_iff, or_false] at hvm
  rcases hvm with rfl | rfl | rfl | rfl | rfl | rfl
  · exact gd_2 gm (gd_2 hd gQ)
  · exact gd_2 gm (gd_1 hd)
  · exact gd_2 gm hd
  · exact hd
  · exact gd_1 gm
  · exact gd_3 gm (gd_2 gQ gP) g0
theorem law12_4 {v : D} (h : CS t S) (ht : t < 2 ^ 40) (hv : gd v = true) (hP : Drawn n 5 P) (hn3 : n ≤ 3) : ∃ v' S', gd v' = true ∧ CS (t + 2) S' ∧ b_law_12b_4 (lenv n o3 o4 o5 o6 P Q o9 o10 (some v)) S = .nx (lenv n o3 o4 o5 o6 P Q o9 o10 (some v')) S' := by
  obtain ⟨i, S1, hi, e, h1, k⟩ := take_ok h (by omega) 6 (by decide) (by decide)
  have e' : T__law_take [.loc 1, .int 6] S = .ok (.int i) S1 := e
  by_cases h0 : i = 0
  · subst h0
    obtain ⟨j, S2, hj, e2, h2, k2⟩ := take_ok h1 (by omega) 4 (by decide) (by decide)
    have e2' : T__law_take [.loc 1, .int 4] S1 = .ok (.int j) S2 := e2
    obtain ⟨w, hw, hwm⟩ := nat_get (ds := ([.int 0, .bl true, .str "1", .int (-1)] : List D)) (show j < 4 from hj)
    have gw : gd w = true := by
      simp only [List.mem_cons, List.mem_nil_iff, or_false] at hwm
      rcases hwm with rfl | rfl | rfl | rfl
      · exact gd_s (by decide)
      · rfl
      · rfl
      · exact gd_s (by decide)
    refine ⟨.tup [w, .tup [.fup (polyL P)]], S2, gd_2 gw (gd_1 (hP.gd hn3 (by decide))), h2, ?_⟩
    simp at e'
    simp [b_law_12b_4, e', e2', hw]
  · exact ⟨v, S1, hv, h1.mono (by omega), by simp [b_law_12b_4, e', h0]⟩
theorem law12_5 {v : D} (hv : gd v = true) : b_law_12b_5 (lenv n o3 o4 o5 o6 P Q o9 o10 (some v)) S = .nx (lenv n o3 o4 o5 o6 P Q o9 o10 (some v)) S := by
  have e1 := T_is_problem_ok S hv
  have e2 := T_law_is_problem_ok S hv
  have t1 : tBin (oBn cEq) (eCB gRepr (aCons (eCall 1 T_is_problem (aCons (eVar 11) aNil)) aNil)) (eCB gRepr (aCons (eCall 1 T__law_is_problem (aCons (eVar 11) aNil)) aNil)) (lenv n o3 o4 o5 o6 P Q o9 o10 (some v)) S = .ok false S :=
    same_step (a := .bl (isProb v)) (b := .bl (isProb v)) (S1 := S) (by simp [e1]) (repr_bl _ S) (by simp [e2]) (repr_bl _ S)
  show sbind (tBin _ _ _ (lenv n o3 o4 o5 o6 P Q o9 o10 (some v)) S) _ _ = _
  rw [t1]
  simp
theorem seq_step {f g : EvS} {env env1 : AEnv} {S S1 : Sto} {R : SRes} (h : f env S = .nx env1 S1) (h2 : g env1 S1 = R) : sSeq f g env S = R := by
  show sThen _ _ = _
  rw [h]; exact h2
theorem law12 (h : CS t S) (ht : t < 2 ^ 39) (hP : Drawn n 5 P) (hQ : Drawn n 5 Q) (hn : 0 < n) (hn3 : n ≤ 3) : ∃ o6' o9' o10' o11' S', CS (t + 200) S' ∧ b_law_12 (lenv n o3 o4 o5 o6 P Q o9 o10 o11) S = .nx (lenv n o3 o4 o5 o6' P Q o9' o10' o11') S' := by
  obtain ⟨env', S', h1, p6, p9, p10, p11, i, e1, e2, rfl, hS⟩ := forD_rule (g := gN 6) (f := b_law_12b)
    (fun ds env S1 => ∃ p6 p9 p10 p11 i, i ≤ 4 ∧ ds.length = 4 - i ∧ env = lenv n o3 o4 o5 p6 P Q p9 p10 p11 ∧ CS (t + 30 * i) S1)
    (by
      rintro x ds env S1 ⟨p6, p9, p10, p11, i, e1, e2, rfl, hS⟩
      simp only [List.length_cons] at e2
      obtain ⟨d, S2, gd2, h2, r0⟩ := law12_0 (o3 := o3) (o4 := o4) (o5 := o5) (o6 := some x) (Q := Q) (o9 := p9) (o10 := p10) (o11 := p11) hS (by omega) hP hn hn3
      obtain ⟨m, S3, hm, h3, r1⟩ := law12_1 (o3 := o3) (o4 := o4) (o5 := o5) (o6 := some x) (P := P) (Q := Q) (o9 := some d) (o10 := p10) (o11 := p11) h2 (by omega) hn3
      have r2 := law12_2 (S := S3) (n := n) (o3 := o3) (o4 := o4) (o5 := o5) (o6 := some x) (P := P) (Q := Q) (o11 := p11) (m := m) gd2
      obtain ⟨v, S4, gv, h4, r3⟩ := law12_3 (o3 := o3) (o4 := o4) (o5 := o5) (o6 := some x) (o11 := p11) h3 (by omega) gd2 hm hP hQ hn3
      obtain ⟨v', S5, gv', h5, r4⟩ := law12_4 (o3 := o3) (o4 := o4) (o5 := o5) (o6 := some x) (Q := Q) (o9 := some d) (o10 := some (.int m)) h4 (by omega) gv hP hn3
      have r5 := law12_5 (S := S5) (n := n) (o3 := o3) (o4 := o4) (o5 := o5) (o6 := some x) (P := P) (Q := Q) (o9 := some d) (o10 := some (.int m)) gv'
      exact ⟨(lenv n o3 o4 o5 (some x) P Q p9 p10 p11, S1), _, S5, by simp, seq_step r0 (seq_step r1 (seq_step r2 (seq_step r3 (seq_step r4 r5)))), some x, some d, some (.int m), some v', i + 1, by omega, by omega, rfl, h5.mono (by omega)⟩)
    (rngD 0 4) (lenv n o3 o4 o5 o6 P Q o9 o10 o11) S ⟨o6, o9, o10, o11, 0, by omega, by rw [rng_len], rfl, h.mono (by omega)⟩
  refine ⟨p6, p9, p10, p11, S', hS.mono (by omega), ?_⟩
  have hr : rngB 4 = true := rfl
  simp [b_law_12, hr, h1]
theorem law13 (hP : Drawn n 5 P) (hQ : Drawn n 5 Q) (hn : 0 < n) (hn3 : n ≤ 3) : b_law_13 (lenv n o3 o4 o5 o6 P Q o9 o10 o11) S = .ret (.bl true) S := by
  have gP := hP.gd hn3 (by decide)
  have gQ := hQ.gd hn3 (by decide)
  have iP : isPoly n (.fup (polyL P)) = true := isPoly_drawn hP rfl
  have iQ : isPoly n (.fup (polyL Q)) = true := isPoly_drawn hQ rfl
  have e1 := T_is_polynomial_ok (n := n) S gP
  rw [iP] at e1
  have gv : gd (.tup [.int n, .tup [.fup (polyL P), .fup (polyL Q)]]) = true := gd_2 (gd_s (by have : (n : Int).natAbs ≤ 3 := (by omega); exact Nat.lt_of_le_of_lt this (by decide))) (gd_2 gP gQ)
  have e2 := T_is_problem_ok S gv
  have ip : isProb (.tup [.int n, .tup [.fup (polyL P), .fup (polyL Q)]]) = true := by
    have h1 : (1 : Int) ≤ n := by omega
    simp [isProb, polys, iP, iQ, h1]
  rw [ip] at e2
  have rb := repr_bl true S
  simp at rb
  simp [b_law_13, e1, e2, rb]
end
theorem plain : ∀ ns : List Int, ns.length ≤ 63 → ∃ S, b_law [none, some (.loc 1), none, none, none, none, none, none, none, none, none, none, none, none] [.lst (ns.map .int), .lst [.loc 0, .int 0, .int 0, .int 0, .int 20]] = .ret (.bl true) S := by
  intro ns _
  have h0 : CS 0 [.lst (ns.map .int), .lst [.loc 0, .int 0, .int 0, .int 0, .int 20]] := ⟨ns, 0, 0, 0, rfl, rfl, Int.le_refl _, Int.le_refl _, Int.le_refl _, Int.le_refl _⟩
  obtain ⟨n, S1, hn, hn3, h1, r0⟩ := law0 h0 (by decide)
  obtain ⟨P, Q0, S2, hP, hQ0, h2, r1⟩ := law1 h1 (by decide) hn hn3
  obtain ⟨Q, S3, hQ, h3, r2⟩ := law2 h2 (by decide) hP hQ0
  obtain ⟨S4, h4, r3⟩ := law3 (o3 := none) (o4 := none) (o5 := none) (o6 := none) (o9 := none) (o10 := none) (o11 := none) h3 hP hQ hn hn3
  obtain ⟨S5, h5, r4⟩ := law4 (o3 := none) (o4 := none) (o5 := none) (o6 := none) (o9 := none) (o10 := none) (o11 := none) h4 hP hQ hn hn3
  obtain ⟨f, y, S6, hf, hy, h6, r5⟩ := law5 (n := n) (P := P) (Q := Q) (o3 := none) (o4 := none) (o5 := none) (o6 := none) (o9 := none) (o10 := none) (o11 := none) h5 (by decide)
  obtain ⟨S7, h7, r6⟩ := law6 (Q := Q) (o4 := none) (o5 := none) (o6 := none) (o9 := none) (o10 := none) (o11 := none) h6 hP hn3 hf hy
  obtain ⟨j, S8, hj, h8, r7⟩ := law7 (n := n) (P := P) (Q := Q) (o3 := some f) (o4 := none) (o5 := none) (o6 := none) (o9 := none) (o10 := none) (o11 := none) h7 (by decide)
  have r8 := law8 (S := S8) (n := n) (P := P) (Q := Q) (o3 := some f) (o4 := some (.int (j + 1 : Nat))) (o5 := none) (o6 := none) (o9 := none) (o10 := none) (o11 := none)
  have pw := powers_of hP.pb hn (by omega)
  obtain ⟨d, o6', S9, hd, h9, r9⟩ := law9 (Q := Q) (o3 := some f) (o6 := none) (o9 := none) (o10 := none) (o11 := none) h8 hj pw
  obtain ⟨S10, h10, r10⟩ := law10 (Q := Q) (o3 := some f) (o6 := o6') (o9 := none) (o10 := none) (o11 := none) h9 hj pw hP hn3 hd
  have r11 := law11 (Q := Q) (o3 := some f) (o4 := some (.int (j + 1 : Nat))) (o5 := some d) (o6 := o6') (o9 := none) (o10 := none) (o11 := none) h10 hP hn3
  obtain ⟨q6, q9, q10, q11, S12, h12, r12⟩ := law12 (o3 := some f) (o4 := some (.int (j + 1 : Nat))) (o5 := some d) (o6 := o6') (o9 := none) (o10 := none) (o11 := none) h10 (by decide) hP hQ hn hn3
  have r13 := law13 (S := S12) (o3 := some f) (o4 := some (.int (j + 1 : Nat))) (o5 := some d) (o6 := q6) (o9 := q9) (o10 := q10) (o11 := q11) hP hQ hn hn3
  exact ⟨S12, seq_step r0 (seq_step r1 (seq_step r2 (seq_step r3 (seq_step r4 (seq_step r5 (seq_step r6 (seq_step r7 (seq_step r8 (seq_step r9 (seq_step r10 (seq_step r11 (seq_step r12 r13))))))))))))⟩
end DV
namespace DV
open PySem PySem.Spec PyProof.Rows L2
def LawC (P : Program) (w : World) (K : PySem.W.Frag) (mg : Str → Option Value) (fa : Addr) : Prop :=
    ∃ fd, Fun K "law" "law" s_law fa fd ∧ (∀ (s : Shared) (u : Value), BindsTo s fd ⟨[u], []⟩ [("script", u)]) ∧ ∀ base : Heap, K.In base → base.Ns mainGlobals mg → ∀ (s₁ : Shared) (H : Hp) (cdv : Value) (a : Addr) (ns : List Int), ns.length ≤ 63 → SqL K H a (ns.map V.int) →
      ∃ t, PSs (cxOf (L2.CX P w) P w K mg base ["script", "c", "n", "one", "k", "power", "turn", "p", "q", "bent", "many", "value", "key", "part"] "law" (defScope s_law) fa cdv callerA [] s₁ H fun _ _ _ => False) (defBody s_law) t ∧ t { nx := fun _ _ => V.non = .bl true, rt := fun v _ => v = .bl true } (L2.start ["script", "c", "n", "one", "k", "power", "turn", "p", "q", "bent", "many", "value", "key", "part"] [.ref a]) H
theorem law_code {P : Program} {w : World} {K : PySem.W.Frag} {mg mb : Str → Option Value} {fa a : Addr} {s₁ : Shared} {vs : List Value} {ns : List Int} (C : LawC P w K mg fa)
    (inK : K.In s₁.heap) (gl : s₁.heap.Ns mainGlobals mg) (bn : s₁.heap.Ns builtinsNs mb) (bb : ∀ x : Str, x ≠ "__name__" → mb x = bootBuiltins x) (noL : s₁.heap.NoLimit) (gn : s₁.gens = #[])
    (ga : s₁.heap.get? a = some { cls := .type "list", data := .seq vs.toArray }) (ia : IntsAre vs ns) (hl : ns.length ≤ 63) :
    codeAny (model P w) callerA (.call (.ref fa) ⟨[.ref a], []⟩) (fun r s' => r = .ok (.ret (.bool true)) ∧ OldK s₁.heap s'.heap ∧ s'.os = s₁.os ∧ AllBare s'.gens) s₁ := by
  obtain ⟨fd, F, hb, body⟩ := C
  exact law_here inK gl bn bb noL gn ga ia (Nat.le_trans hl (by decide)) F sc_law hb fun base kb gb H cdv _ sq => body base kb gb s₁ H cdv a ns hl sq
theorem all_mk {P : Program} {w : World} {K : PySem.W.Frag} {h : Heap} {mg : Str → Option Value} (X : K.In h) (G : h.Ns mainGlobals mg)
    {f0 : Addr} {od0 an0 : Option Addr} {sl0 : Array (Option Value)} {oc0 kV0 dc0 pm0 cd0 ct0 : Value} (a0 : PySem.W.nsIn K mainGlobals "_law_start" = some (some (.ref f0))) (l0 : K.lookup f0 = some ⟨oc0, od0, .func (PySem.W.fnOf "_law_start" "_law_start" (defArgs s_start) (defBody s_start) (defScope s_start) .none kV0 dc0 pm0 an0 cd0 ct0), sl0⟩) (c0 : PySem.W.codeIn K cd0 "_law_start" = true) (k0 : PySem.W.keepIn K (.ref f0) = true)
    {f1 : Addr} {od1 an1 : Option Addr} {sl1 : Array (Option Value)} {oc1 kV1 dc1 pm1 cd1 ct1 : Value} (a1 : PySem.W.nsIn K mainGlobals "common_divisor" = some (some (.ref f1))) (l1 : K.lookup f1 = some ⟨oc1, od1, .func (PySem.W.fnOf "common_divisor" "common_divisor" (defArgs s_common_divisor) (defBody s_common_divisor) (defScope s_common_divisor) .none kV1 dc1 pm1 an1 cd1 ct1), sl1⟩) (c1 : PySem.W.codeIn K cd1 "common_divisor" = true) (k1 : PySem.W.keepIn K (.ref f1) = true)
    {f2 : Addr} {od2 an2 : Option Addr} {sl2 : Array (Option Value)} {oc2 kV2 dc2 pm2 cd2 ct2 : Value} (a2 : PySem.W.nsIn K mainGlobals "ratio" = some (some (.ref f2))) (l2 : K.lookup f2 = some ⟨oc2, od2, .func (PySem.W.fnOf "ratio" "ratio" (defArgs s_ratio) (defBody s_ratio) (defScope s_ratio) .none kV2 dc2 pm2 an2 cd2 ct2), sl2⟩) (c2 : PySem.W.codeIn K cd2 "ratio" = true) (k2 : PySem.W.keepIn K (.ref f2) = true)
    {f3 : Addr} {od3 an3 : Option Addr} {sl3 : Array (Option Value)} {oc3 kV3 dc3 pm3 cd3 ct3 : Value} (a3 : PySem.W.nsIn K mainGlobals "plus" = some (some (.ref f3))) (l3 : K.lookup f3 = some ⟨oc3, od3, .func (PySem.W.fnOf "plus" "plus" (defArgs s_plus) (defBody s_plus) (defScope s_plus) .none kV3 dc3 pm3 an3 cd3 ct3), sl3⟩) (c3 : PySem.W.codeIn K cd3 "plus" = true) (k3 : PySem.W.keepIn K (.ref f3) = true)
    {f4 : Addr} {od4 an4 : Option Addr} {sl4 : Array (Option Value)} {oc4 kV4 dc4 pm4 cd4 ct4 : Value} (a4 : PySem.W.nsIn K mainGlobals "times" = some (some (.ref f4))) (l4 : K.lookup f4 = some ⟨oc4, od4, .func (PySem.W.fnOf "times" "times" (defArgs s_times) (defBody s_times) (defScope s_times) .none kV4 dc4 pm4 an4 cd4 ct4), sl4⟩) (c4 : PySem.W.codeIn K cd4 "times" = true) (k4 : PySem.W.keepIn K (.ref f4) = true)
    {f5 : Addr} {od5 an5 : Option Addr} {sl5 : Array (Option Value)} {oc5 kV5 dc5 pm5 cd5 ct5 : Value} (a5 : PySem.W.nsIn K mainGlobals "is_integer" = some (some (.ref f5))) (l5 : K.lookup f5 = some ⟨oc5, od5, .func (PySem.W.fnOf "is_integer" "is_integer" (defArgs s_is_integer) (defBody s_is_integer) (defScope s_is_integer) .none kV5 dc5 pm5 an5 cd5 ct5), sl5⟩) (c5 : PySem.W.codeIn K cd5 "is_integer" = true) (k5 : PySem.W.keepIn K (.ref f5) = true)
    {f6 : Addr} {od6 an6 : Option Addr} {sl6 : Array (Option Value)} {oc6 kV6 dc6 pm6 cd6 ct6 : Value} (a6 : PySem.W.nsIn K mainGlobals "is_ratio" = some (some (.ref f6))) (l6 : K.lookup f6 = some ⟨oc6, od6, .func (PySem.W.fnOf "is_ratio" "is_ratio" (defArgs s_is_ratio) (defBody s_is_ratio) (defScope s_is_ratio) .none kV6 dc6 pm6 an6 cd6 ct6), sl6⟩) (c6 : PySem.W.codeIn K cd6 "is_ratio" = true) (k6 : PySem.W.keepIn K (.ref f6) = true)
    {f7 : Addr} {od7 an7 : Option Addr} {sl7 : Array (Option Value)} {oc7 kV7 dc7 pm7 cd7 ct7 : Value} (a7 : PySem.W.nsIn K mainGlobals "is_monomial" = some (some (.ref f7))) (l7 : K.lookup f7 = some ⟨oc7, od7, .func (PySem.W.fnOf "is_monomial" "is_monomial" (defArgs s_is_monomial) (defBody s_is_monomial) (defScope s_is_monomial) .none kV7 dc7 pm7 an7 cd7 ct7), sl7⟩) (c7 : PySem.W.codeIn K cd7 "is_monomial" = true) (k7 : PySem.W.keepIn K (.ref f7) = true)
    {f8 : Addr} {od8 an8 : Option Addr} {sl8 : Array (Option Value)} {oc8 kV8 dc8 pm8 cd8 ct8 : Value} (a8 : PySem.W.nsIn K mainGlobals "is_polynomial" = some (some (.ref f8))) (l8 : K.lookup f8 = some ⟨oc8, od8, .func (PySem.W.fnOf "is_polynomial" "is_polynomial" (defArgs s_is_polynomial) (defBody s_is_polynomial) (defScope s_is_polynomial) .none kV8 dc8 pm8 an8 cd8 ct8), sl8⟩) (c8 : PySem.W.codeIn K cd8 "is_polynomial" = true) (k8 : PySem.W.keepIn K (.ref f8) = true)
    {f9 : Addr} {od9 an9 : Option Addr} {sl9 : Array (Option Value)} {oc9 kV9 dc9 pm9 cd9 ct9 : Value} (a9 : PySem.W.nsIn K mainGlobals "is_problem" = some (some (.ref f9))) (l9 : K.lookup f9 = some ⟨oc9, od9, .func (PySem.W.fnOf "is_problem" "is_problem" (defArgs s_is_problem) (defBody s_is_problem) (defScope s_is_problem) .none kV9 dc9 pm9 an9 cd9 ct9), sl9⟩) (c9 : PySem.W.codeIn K cd9 "is_problem" = true) (k9 : PySem.W.keepIn K (.ref f9) = true)
    {f10 : Addr} {od10 an10 : Option Addr} {sl10 : Array (Option Value)} {oc10 kV10 dc10 pm10 cd10 ct10 : Value} (a10 : PySem.W.nsIn K mainGlobals "told" = some (some (.ref f10))) (l10 : K.lookup f10 = some ⟨oc10, od10, .func (PySem.W.fnOf "told" "told" (defArgs s_told) (defBody s_told) (defScope s_told) .none kV10 dc10 pm10 an10 cd10 ct10), sl10⟩) (c10 : PySem.W.codeIn K cd10 "told" = true) (k10 : PySem.W.keepIn K (.ref f10) = true)
    {f11 : Addr} {od11 an11 : Option Addr} {sl11 : Array (Option Value)} {oc11 kV11 dc11 pm11 cd11 ct11 : Value} (a11 : PySem.W.nsIn K mainGlobals "joined" = some (some (.ref f11))) (l11 : K.lookup f11 = some ⟨oc11, od11, .func (PySem.W.fnOf "joined" "joined" (defArgs s_joined) (defBody s_joined) (defScope s_joined) .none kV11 dc11 pm11 an11 cd11 ct11), sl11⟩) (c11 : PySem.W.codeIn K cd11 "joined" = true) (k11 : PySem.W.keepIn K (.ref f11) = true)
    {f12 : Addr} {od12 an12 : Option Addr} {sl12 : Array (Option Value)} {oc12 kV12 dc12 pm12 cd12 ct12 : Value} (a12 : PySem.W.nsIn K mainGlobals "add_to" = some (some (.ref f12))) (l12 : K.lookup f12 = some ⟨oc12, od12, .func (PySem.W.fnOf "add_to" "add_to" (defArgs s_add_to) (defBody s_add_to) (defScope s_add_to) .none kV12 dc12 pm12 an12 cd12 ct12), sl12⟩) (c12 : PySem.W.codeIn K cd12 "add_to" = true) (k12 : PySem.W.keepIn K (.ref f12) = true)
    {f13 : Addr} {od13 an13 : Option Addr} {sl13 : Array (Option Value)} {oc13 kV13 dc13 pm13 cd13 ct13 : Value} (a13 : PySem.W.nsIn K mainGlobals "added" = some (some (.ref f13))) (l13 : K.lookup f13 = some ⟨oc13, od13, .func (PySem.W.fnOf "added" "added" (defArgs s_added) (defBody s_added) (defScope s_added) .none kV13 dc13 pm13 an13 cd13 ct13), sl13⟩) (c13 : PySem.W.codeIn K cd13 "added" = true) (k13 : PySem.W.keepIn K (.ref f13) = true)
    {f14 : Addr} {od14 an14 : Option Addr} {sl14 : Array (Option Value)} {oc14 kV14 dc14 pm14 cd14 ct14 : Value} (a14 : PySem.W.nsIn K mainGlobals "scaled" = some (some (.ref f14))) (l14 : K.lookup f14 = some ⟨oc14, od14, .func (PySem.W.fnOf "scaled" "scaled" (defArgs s_scaled) (defBody s_scaled) (defScope s_scaled) .none kV14 dc14 pm14 an14 cd14 ct14), sl14⟩) (c14 : PySem.W.codeIn K cd14 "scaled" = true) (k14 : PySem.W.keepIn K (.ref f14) = true)
    {f15 : Addr} {od15 an15 : Option Addr} {sl15 : Array (Option Value)} {oc15 kV15 dc15 pm15 cd15 ct15 : Value} (a15 : PySem.W.nsIn K mainGlobals "less" = some (some (.ref f15))) (l15 : K.lookup f15 = some ⟨oc15, od15, .func (PySem.W.fnOf "less" "less" (defArgs s_less) (defBody s_less) (defScope s_less) .none kV15 dc15 pm15 an15 cd15 ct15), sl15⟩) (c15 : PySem.W.codeIn K cd15 "less" = true) (k15 : PySem.W.keepIn K (.ref f15) = true)
    {f16 : Addr} {od16 an16 : Option Addr} {sl16 : Array (Option Value)} {oc16 kV16 dc16 pm16 cd16 ct16 : Value} (a16 : PySem.W.nsIn K mainGlobals "multiplied" = some (some (.ref f16))) (l16 : K.lookup f16 = some ⟨oc16, od16, .func (PySem.W.fnOf "multiplied" "multiplied" (defArgs s_multiplied) (defBody s_multiplied) (defScope s_multiplied) .none kV16 dc16 pm16 an16 cd16 ct16), sl16⟩) (c16 : PySem.W.codeIn K cd16 "multiplied" = true) (k16 : PySem.W.keepIn K (.ref f16) = true)
    {f17 : Addr} {od17 an17 : Option Addr} {sl17 : Array (Option Value)} {oc17 kV17 dc17 pm17 cd17 ct17 : Value} (a17 : PySem.W.nsIn K mainGlobals "raised" = some (some (.ref f17))) (l17 : K.lookup f17 = some ⟨oc17, od17, .func (PySem.W.fnOf "raised" "raised" (defArgs s_raised) (defBody s_raised) (defScope s_raised) .none kV17 dc17 pm17 an17 cd17 ct17), sl17⟩) (c17 : PySem.W.codeIn K cd17 "raised" = true) (k17 : PySem.W.keepIn K (.ref f17) = true)
    {f18 : Addr} {od18 an18 : Option Addr} {sl18 : Array (Option Value)} {oc18 kV18 dc18 pm18 cd18 ct18 : Value} (a18 : PySem.W.nsIn K mainGlobals "degree" = some (some (.ref f18))) (l18 : K.lookup f18 = some ⟨oc18, od18, .func (PySem.W.fnOf "degree" "degree" (defArgs s_degree) (defBody s_degree) (defScope s_degree) .none kV18 dc18 pm18 an18 cd18 ct18), sl18⟩) (c18 : PySem.W.codeIn K cd18 "degree" = true) (k18 : PySem.W.keepIn K (.ref f18) = true)
    {f19 : Addr} {od19 an19 : Option Addr} {sl19 : Array (Option Value)} {oc19 kV19 dc19 pm19 cd19 ct19 : Value} (a19 : PySem.W.nsIn K mainGlobals "_law_fill" = some (some (.ref f19))) (l19 : K.lookup f19 = some ⟨oc19, od19, .func (PySem.W.fnOf "_law_fill" "_law_fill" (defArgs s__law_fill) (defBody s__law_fill) (defScope s__law_fill) .none kV19 dc19 pm19 an19 cd19 ct19), sl19⟩) (c19 : PySem.W.codeIn K cd19 "_law_fill" = true) (k19 : PySem.W.keepIn K (.ref f19) = true)
    {f20 : Addr} {od20 an20 : Option Addr} {sl20 : Array (Option Value)} {oc20 kV20 dc20 pm20 cd20 ct20 : Value} (a20 : PySem.W.nsIn K mainGlobals "_law_take" = some (some (.ref f20))) (l20 : K.lookup f20 = some ⟨oc20, od20, .func (PySem.W.fnOf "_law_take" "_law_take" (defArgs s__law_take) (defBody s__law_take) (defScope s__law_take) .none kV20 dc20 pm20 an20 cd20 ct20), sl20⟩) (c20 : PySem.W.codeIn K cd20 "_law_take" = true) (k20 : PySem.W.keepIn K (.ref f20) = true)
    {f21 : Addr} {od21 an21 : Option Addr} {sl21 : Array (Option Value)} {oc21 kV21 dc21 pm21 cd21 ct21 : Value} (a21 : PySem.W.nsIn K mainGlobals "_law_divisor" = some (some (.ref f21))) (l21 : K.lookup f21 = some ⟨oc21, od21, .func (PySem.W.fnOf "_law_divisor" "_law_divisor" (defArgs s__law_divisor) (defBody s__law_divisor) (defScope s__law_divisor) .none kV21 dc21 pm21 an21 cd21 ct21), sl21⟩) (c21 : PySem.W.codeIn K cd21 "_law_divisor" = true) (k21 : PySem.W.keepIn K (.ref f21) = true)
    {f22 : Addr} {od22 an22 : Option Addr} {sl22 : Array (Option Value)} {oc22 kV22 dc22 pm22 cd22 ct22 : Value} (a22 : PySem.W.nsIn K mainGlobals "_law_ratio" = some (some (.ref f22))) (l22 : K.lookup f22 = some ⟨oc22, od22, .func (PySem.W.fnOf "_law_ratio" "_law_ratio" (defArgs s__law_ratio) (defBody s__law_ratio) (defScope s__law_ratio) .none kV22 dc22 pm22 an22 cd22 ct22), sl22⟩) (c22 : PySem.W.codeIn K cd22 "_law_ratio" = true) (k22 : PySem.W.keepIn K (.ref f22) = true)
    {f23 : Addr} {od23 an23 : Option Addr} {sl23 : Array (Option Value)} {oc23 kV23 dc23 pm23 cd23 ct23 : Value} (a23 : PySem.W.nsIn K mainGlobals "_law_plus" = some (some (.ref f23))) (l23 : K.lookup f23 = some ⟨oc23, od23, .func (PySem.W.fnOf "_law_plus" "_law_plus" (defArgs s__law_plus) (defBody s__law_plus) (defScope s__law_plus) .none kV23 dc23 pm23 an23 cd23 ct23), sl23⟩) (c23 : PySem.W.codeIn K cd23 "_law_plus" = true) (k23 : PySem.W.keepIn K (.ref f23) = true)
    {f24 : Addr} {od24 an24 : Option Addr} {sl24 : Array (Option Value)} {oc24 kV24 dc24 pm24 cd24 ct24 : Value} (a24 : PySem.W.nsIn K mainGlobals "_law_times" = some (some (.ref f24))) (l24 : K.lookup f24 = some ⟨oc24, od24, .func (PySem.W.fnOf "_law_times" "_law_times" (defArgs s__law_times) (defBody s__law_times) (defScope s__law_times) .none kV24 dc24 pm24 an24 cd24 ct24), sl24⟩) (c24 : PySem.W.codeIn K cd24 "_law_times" = true) (k24 : PySem.W.keepIn K (.ref f24) = true)
    {f25 : Addr} {od25 an25 : Option Addr} {sl25 : Array (Option Value)} {oc25 kV25 dc25 pm25 cd25 ct25 : Value} (a25 : PySem.W.nsIn K mainGlobals "_law_told" = some (some (.ref f25))) (l25 : K.lookup f25 = some ⟨oc25, od25, .func (PySem.W.fnOf "_law_told" "_law_told" (defArgs s__law_told) (defBody s__law_told) (defScope s__law_told) .none kV25 dc25 pm25 an25 cd25 ct25), sl25⟩) (c25 : PySem.W.codeIn K cd25 "_law_told" = true) (k25 : PySem.W.keepIn K (.ref f25) = true)
    {f26 : Addr} {od26 an26 : Option Addr} {sl26 : Array (Option Value)} {oc26 kV26 dc26 pm26 cd26 ct26 : Value} (a26 : PySem.W.nsIn K mainGlobals "_law_sum" = some (some (.ref f26))) (l26 : K.lookup f26 = some ⟨oc26, od26, .func (PySem.W.fnOf "_law_sum" "_law_sum" (defArgs s__law_sum) (defBody s__law_sum) (defScope s__law_sum) .none kV26 dc26 pm26 an26 cd26 ct26), sl26⟩) (c26 : PySem.W.codeIn K cd26 "_law_sum" = true) (k26 : PySem.W.keepIn K (.ref f26) = true)
    {f27 : Addr} {od27 an27 : Option Addr} {sl27 : Array (Option Value)} {oc27 kV27 dc27 pm27 cd27 ct27 : Value} (a27 : PySem.W.nsIn K mainGlobals "_law_product" = some (some (.ref f27))) (l27 : K.lookup f27 = some ⟨oc27, od27, .func (PySem.W.fnOf "_law_product" "_law_product" (defArgs s__law_product) (defBody s__law_product) (defScope s__law_product) .none kV27 dc27 pm27 an27 cd27 ct27), sl27⟩) (c27 : PySem.W.codeIn K cd27 "_law_product" = true) (k27 : PySem.W.keepIn K (.ref f27) = true)
    {f28 : Addr} {od28 an28 : Option Addr} {sl28 : Array (Option Value)} {oc28 kV28 dc28 pm28 cd28 ct28 : Value} (a28 : PySem.W.nsIn K mainGlobals "_law_fraction" = some (some (.ref f28))) (l28 : K.lookup f28 = some ⟨oc28, od28, .func (PySem.W.fnOf "_law_fraction" "_law_fraction" (defArgs s__law_fraction) (defBody s__law_fraction) (defScope s__law_fraction) .none kV28 dc28 pm28 an28 cd28 ct28), sl28⟩) (c28 : PySem.W.codeIn K cd28 "_law_fraction" = true) (k28 : PySem.W.keepIn K (.ref f28) = true)
    {f29 : Addr} {od29 an29 : Option Addr} {sl29 : Array (Option Value)} {oc29 kV29 dc29 pm29 cd29 ct29 : Value} (a29 : PySem.W.nsIn K mainGlobals "_law_polynomial" = some (some (.ref f29))) (l29 : K.lookup f29 = some ⟨oc29, od29, .func (PySem.W.fnOf "_law_polynomial" "_law_polynomial" (defArgs s__law_polynomial) (defBody s__law_polynomial) (defScope s__law_polynomial) .none kV29 dc29 pm29 an29 cd29 ct29), sl29⟩) (c29 : PySem.W.codeIn K cd29 "_law_polynomial" = true) (k29 : PySem.W.keepIn K (.ref f29) = true)
    {f30 : Addr} {od30 an30 : Option Addr} {sl30 : Array (Option Value)} {oc30 kV30 dc30 pm30 cd30 ct30 : Value} (a30 : PySem.W.nsIn K mainGlobals "_law_is_integer" = some (some (.ref f30))) (l30 : K.lookup f30 = some ⟨oc30, od30, .func (PySem.W.fnOf "_law_is_integer" "_law_is_integer" (defArgs s__law_is_integer) (defBody s__law_is_integer) (defScope s__law_is_integer) .none kV30 dc30 pm30 an30 cd30 ct30), sl30⟩) (c30 : PySem.W.codeIn K cd30 "_law_is_integer" = true) (k30 : PySem.W.keepIn K (.ref f30) = true)
    {f31 : Addr} {od31 an31 : Option Addr} {sl31 : Array (Option Value)} {oc31 kV31 dc31 pm31 cd31 ct31 : Value} (a31 : PySem.W.nsIn K mainGlobals "_law_is_ratio" = some (some (.ref f31))) (l31 : K.lookup f31 = some ⟨oc31, od31, .func (PySem.W.fnOf "_law_is_ratio" "_law_is_ratio" (defArgs s__law_is_ratio) (defBody s__law_is_ratio) (defScope s__law_is_ratio) .none kV31 dc31 pm31 an31 cd31 ct31), sl31⟩) (c31 : PySem.W.codeIn K cd31 "_law_is_ratio" = true) (k31 : PySem.W.keepIn K (.ref f31) = true)
    {f32 : Addr} {od32 an32 : Option Addr} {sl32 : Array (Option Value)} {oc32 kV32 dc32 pm32 cd32 ct32 : Value} (a32 : PySem.W.nsIn K mainGlobals "_law_is_polynomial" = some (some (.ref f32))) (l32 : K.lookup f32 = some ⟨oc32, od32, .func (PySem.W.fnOf "_law_is_polynomial" "_law_is_polynomial" (defArgs s__law_is_polynomial) (defBody s__law_is_polynomial) (defScope s__law_is_polynomial) .none kV32 dc32 pm32 an32 cd32 ct32), sl32⟩) (c32 : PySem.W.codeIn K cd32 "_law_is_polynomial" = true) (k32 : PySem.W.keepIn K (.ref f32) = true)
    {f33 : Addr} {od33 an33 : Option Addr} {sl33 : Array (Option Value)} {oc33 kV33 dc33 pm33 cd33 ct33 : Value} (a33 : PySem.W.nsIn K mainGlobals "_law_is_problem" = some (some (.ref f33))) (l33 : K.lookup f33 = some ⟨oc33, od33, .func (PySem.W.fnOf "_law_is_problem" "_law_is_problem" (defArgs s__law_is_problem) (defBody s__law_is_problem) (defScope s__law_is_problem) .none kV33 dc33 pm33 an33 cd33 ct33), sl33⟩) (c33 : PySem.W.codeIn K cd33 "_law_is_problem" = true) (k33 : PySem.W.keepIn K (.ref f33) = true)
    {f34 : Addr} {od34 an34 : Option Addr} {sl34 : Array (Option Value)} {oc34 kV34 dc34 pm34 cd34 ct34 : Value} (a34 : PySem.W.nsIn K mainGlobals "_law_bent" = some (some (.ref f34))) (l34 : K.lookup f34 = some ⟨oc34, od34, .func (PySem.W.fnOf "_law_bent" "_law_bent" (defArgs s__law_bent) (defBody s__law_bent) (defScope s__law_bent) .none kV34 dc34 pm34 an34 cd34 ct34), sl34⟩) (c34 : PySem.W.codeIn K cd34 "_law_bent" = true) (k34 : PySem.W.keepIn K (.ref f34) = true)
    {f35 : Addr} {od35 an35 : Option Addr} {sl35 : Array (Option Value)} {oc35 kV35 dc35 pm35 cd35 ct35 : Value} (a35 : PySem.W.nsIn K mainGlobals "law" = some (some (.ref f35))) (l35 : K.lookup f35 = some ⟨oc35, od35, .func (PySem.W.fnOf "law" "law" (defArgs s_law) (defBody s_law) (defScope s_law) .none kV35 dc35 pm35 an35 cd35 ct35), sl35⟩) (c35 : PySem.W.codeIn K cd35 "law" = true) (k35 : PySem.W.keepIn K (.ref f35) = true)
    (z_abs : PySem.W.nsIn K mainGlobals "abs" = some none)
    (z_isinstance : PySem.W.nsIn K mainGlobals "isinstance" = some none)
    (z_int : PySem.W.nsIn K mainGlobals "int" = some none)
    (z_bool : PySem.W.nsIn K mainGlobals "bool" = some none)
    (z_tuple : PySem.W.nsIn K mainGlobals "tuple" = some none)
    (z_len : PySem.W.nsIn K mainGlobals "len" = some none)
    (z_all : PySem.W.nsIn K mainGlobals "all" = some none)
    (z_sorted : PySem.W.nsIn K mainGlobals "sorted" = some none)
    (z_zip : PySem.W.nsIn K mainGlobals "zip" = some none)
    (z_dict : PySem.W.nsIn K mainGlobals "dict" = some none)
    (z_range : PySem.W.nsIn K mainGlobals "range" = some none)
    (z_max : PySem.W.nsIn K mainGlobals "max" = some none)
    (z_sum : PySem.W.nsIn K mainGlobals "sum" = some none)
    (z_list : PySem.W.nsIn K mainGlobals "list" = some none)
    (z_repr : PySem.W.nsIn K mainGlobals "repr" = some none)
    (z_str : PySem.W.nsIn K mainGlobals "str" = some none)
    {a_ZERO : Addr} {oa_ZERO : Option Addr} {n_ZERO : Nat} {tt_ZERO0 tt_ZERO1 : Tok} {os_ZERO : Array (Option Value)} (g_ZERO : PySem.W.nsIn K mainGlobals "ZERO" = some (some (.ref a_ZERO))) (e_ZERO : K.lookup a_ZERO = some ⟨.type "tuple", oa_ZERO, .seq #[.int 0 tt_ZERO0, .int 1 tt_ZERO1] n_ZERO, os_ZERO⟩)
    {k_MOST_TERMS : Tok} (g_MOST_TERMS : PySem.W.nsIn K mainGlobals "MOST_TERMS" = some (some (.int 4000 k_MOST_TERMS)))
    (plain : ∀ ns : List Int, ns.length ≤ 63 → ∃ S, b_law [none, some (.loc 1), none, none, none, none, none, none, none, none, none, none, none, none] [.lst (ns.map .int), .lst [.loc 0, .int 0, .int 0, .int 0, .int 20]] = .ret (.bl true) S) {fa : Addr} (hfa : mg "law" = some (.ref fa)) :
    LawC P w K mg fa := by
  have e := hfa.symm.trans (PySem.W.mg_of X G a35)
  obtain rfl : f35 = fa := by cases e; rfl
  unfold LawC
  have F0 := fun_mk (st := s_start) l0 c0 k0
  have F1 := fun_mk (st := s_common_divisor) l1 c1 k1
  have F2 := fun_mk (st := s_ratio) l2 c2 k2
  have F3 := fun_mk (st := s_plus) l3 c3 k3
  have F4 := fun_mk (st := s_times) l4 c4 k4
  have F5 := fun_mk (st := s_is_integer) l5 c5 k5
  have F6 := fun_mk (st := s_is_ratio) l6 c6 k6
  have F7 := fun_mk (st := s_is_monomial) l7 c7 k7
  have F8 := fun_mk (st := s_is_polynomial) l8 c8 k8
  have F9 := fun_mk (st := s_is_problem) l9 c9 k9
  have F10 := fun_mk (st := s_told) l10 c10 k10
  have F11 := fun_mk (st := s_joined) l11 c11 k11
  have F12 := fun_mk (st := s_add_to) l12 c12 k12
  have F13 := fun_mk (st := s_added) l13 c13 k13
  have F14 := fun_mk (st := s_scaled) l14 c14 k14
  have F15 := fun_mk (st := s_less) l15 c15 k15
  have F16 := fun_mk (st := s_multiplied) l16 c16 k16
  have F17 := fun_mk (st := s_raised) l17 c17 k17
  have F18 := fun_mk (st := s_degree) l18 c18 k18
  have F19 := fun_mk (st := s__law_fill) l19 c19 k19
  have F20 := fun_mk (st := s__law_take) l20 c20 k20
  have F21 := fun_mk (st := s__law_divisor) l21 c21 k21
  have F22 := fun_mk (st := s__law_ratio) l22 c22 k22
  have F23 := fun_mk (st := s__law_plus) l23 c23 k23
  have F24 := fun_mk (st := s__law_times) l24 c24 k24
  have F25 := fun_mk (st := s__law_told) l25 c25 k25
  have F26 := fun_mk (st := s__law_sum) l26 c26 k26
  have F27 := fun_mk (st := s__law_product) l27 c27 k27
  have F28 := fun_mk (st := s__law_fraction) l28 c28 k28
  have F29 := fun_mk (st := s__law_polynomial) l29 c29 k29
  have F30 := fun_mk (st := s__law_is_integer) l30 c30 k30
  have F31 := fun_mk (st := s__law_is_ratio) l31 c31 k31
  have F32 := fun_mk (st := s__law_is_polynomial) l32 c32 k32
  have F33 := fun_mk (st := s__law_is_problem) l33 c33 k33
  have F34 := fun_mk (st := s__law_bent) l34 c34 k34
  have F35 := fun_mk (st := s_law) l35 c35 k35
  have B : Bt mg := ⟨PySem.W.mg_none_of X G z_abs, PySem.W.mg_none_of X G z_isinstance, PySem.W.mg_none_of X G z_int, PySem.W.mg_none_of X G z_bool, PySem.W.mg_none_of X G z_tuple, PySem.W.mg_none_of X G z_len, PySem.W.mg_none_of X G z_all, PySem.W.mg_none_of X G z_sorted, PySem.W.mg_none_of X G z_zip, PySem.W.mg_none_of X G z_dict, PySem.W.mg_none_of X G z_range, PySem.W.mg_none_of X G z_max, PySem.W.mg_none_of X G z_sum, PySem.W.mg_none_of X G z_list, PySem.W.mg_none_of X G z_repr, PySem.W.mg_none_of X G z_str⟩
  refine ⟨_, F35, fun s u => .of_eq rfl, fun base KB GB s₁ H cdv a ns hl hS => ?_⟩
  have m_ZERO := PySem.W.mg_of X G g_ZERO
  have t_ZERO : KTup K a_ZERO (List.map V.int [0, 1]) := .inr ⟨_, _, _, e_ZERO, rfl, rfl, (show 2 ≤ sizeLine by decide), (.cons ⟨_, rfl⟩ (.cons ⟨_, rfl⟩ .nil))⟩
  have m_MOST_TERMS := PySem.W.mg_of X G g_MOST_TERMS
  have G_common_divisor : Cal P w K mg base "common_divisor" 1 ["first", "second"] T_common_divisor := ok_common_divisor F1 (PySem.W.mg_of X G a1) B
  have G_ratio : Cal P w K mg base "ratio" 2 ["above", "below"] T_ratio := ok_ratio F2 (PySem.W.mg_of X G a2) B G_common_divisor
  have G_plus : Cal P w K mg base "plus" 3 ["first", "second"] T_plus := ok_plus F3 (PySem.W.mg_of X G a3) B G_ratio
  have G_times : Cal P w K mg base "times" 3 ["first", "second"] T_times := ok_times F4 (PySem.W.mg_of X G a4) B G_ratio
  have G_is_integer : Cal P w K mg base "is_integer" 1 ["value"] T_is_integer := ok_is_integer F5 (PySem.W.mg_of X G a5) B
  have G_is_ratio : Cal P w K mg base "is_ratio" 2 ["value"] T_is_ratio := ok_is_ratio F6 (PySem.W.mg_of X G a6) B G_is_integer G_common_divisor
  have G_is_monomial : Cal P w K mg base "is_monomial" 2 ["value", "n"] T_is_monomial := ok_is_monomial F7 (PySem.W.mg_of X G a7) B G_is_integer
  have G_is_polynomial : Cal P w K mg base "is_polynomial" 3 ["value", "n"] T_is_polynomial := ok_is_polynomial F8 (PySem.W.mg_of X G a8) B G_is_monomial G_is_ratio
  have G_is_problem : Cal P w K mg base "is_problem" 4 ["value"] T_is_problem := ok_is_problem F9 (PySem.W.mg_of X G a9) B G_is_integer G_is_polynomial
  have G_told : Cal P w K mg base "told" 1 ["table"] T_told := ok_told F10 (PySem.W.mg_of X G a10) B
  have G_joined : Cal P w K mg base "joined" 1 ["first", "second"] T_joined := ok_joined F11 (PySem.W.mg_of X G a11) B
  have G_add_to : Cal P w K mg base "add_to" 4 ["table", "p", "monomial", "factor"] T_add_to := ok_add_to F12 (PySem.W.mg_of X G a12) B m_ZERO t_ZERO G_joined G_plus G_times
  have G_added : Cal P w K mg base "added" 4 ["p", "q"] T_added := ok_added F13 (PySem.W.mg_of X G a13) B m_ZERO t_ZERO G_plus G_told
  have G_scaled : Cal P w K mg base "scaled" 4 ["p", "fraction"] T_scaled := ok_scaled F14 (PySem.W.mg_of X G a14) B G_times
  have G_less : Cal P w K mg base "less" 5 ["p", "q"] T_less := ok_less F15 (PySem.W.mg_of X G a15) B G_added G_scaled
  have G_multiplied : Cal P w K mg base "multiplied" 5 ["p", "q"] T_multiplied := ok_multiplied F16 (PySem.W.mg_of X G a16) B G_add_to G_told
  have G_raised : Cal P w K mg base "raised" 6 ["p", "k"] T_raised := ok_raised F17 (PySem.W.mg_of X G a17) B m_MOST_TERMS G_multiplied
  have G_degree : Cal P w K mg base "degree" 1 ["p"] T_degree := ok_degree F18 (PySem.W.mg_of X G a18) B
  have G__law_fill : Cal P w K mg base "_law_fill" 1 ["c"] T__law_fill := ok__law_fill F19 (PySem.W.mg_of X G a19) B
  have G__law_take : Cal P w K mg base "_law_take" 2 ["c", "many"] T__law_take := ok__law_take F20 (PySem.W.mg_of X G a20) B G__law_fill
  have G__law_divisor : Cal P w K mg base "_law_divisor" 1 ["a", "b"] T__law_divisor := ok__law_divisor F21 (PySem.W.mg_of X G a21) B
  have G__law_ratio : Cal P w K mg base "_law_ratio" 2 ["above", "below"] T__law_ratio := ok__law_ratio F22 (PySem.W.mg_of X G a22) B G__law_divisor
  have G__law_plus : Cal P w K mg base "_law_plus" 3 ["a", "b"] T__law_plus := ok__law_plus F23 (PySem.W.mg_of X G a23) B G__law_ratio
  have G__law_times : Cal P w K mg base "_law_times" 3 ["a", "b"] T__law_times := ok__law_times F24 (PySem.W.mg_of X G a24) B G__law_ratio
  have G__law_told : Cal P w K mg base "_law_told" 1 ["table"] T__law_told := ok__law_told F25 (PySem.W.mg_of X G a25) B
  have G__law_sum : Cal P w K mg base "_law_sum" 4 ["p", "q", "factor"] T__law_sum := ok__law_sum F26 (PySem.W.mg_of X G a26) B G__law_plus G__law_times G__law_told
  have G__law_product : Cal P w K mg base "_law_product" 4 ["p", "q"] T__law_product := ok__law_product F27 (PySem.W.mg_of X G a27) B G__law_plus G__law_times G__law_told
  have G__law_fraction : Cal P w K mg base "_law_fraction" 3 ["c"] T__law_fraction := ok__law_fraction F28 (PySem.W.mg_of X G a28) B G__law_ratio G__law_take
  have G__law_polynomial : Cal P w K mg base "_law_polynomial" 4 ["c", "n", "terms", "most"] T__law_polynomial := ok__law_polynomial F29 (PySem.W.mg_of X G a29) B G__law_take G__law_fraction G__law_told
  have G__law_is_integer : Cal P w K mg base "_law_is_integer" 1 ["value"] T__law_is_integer := ok__law_is_integer F30 (PySem.W.mg_of X G a30) B
  have G__law_is_ratio : Cal P w K mg base "_law_is_ratio" 2 ["value"] T__law_is_ratio := ok__law_is_ratio F31 (PySem.W.mg_of X G a31) B G__law_is_integer G__law_divisor
  have G__law_is_polynomial : Cal P w K mg base "_law_is_polynomial" 3 ["value", "n"] T__law_is_polynomial := ok__law_is_polynomial F32 (PySem.W.mg_of X G a32) B G__law_is_integer G__law_is_ratio
  have G__law_is_problem : Cal P w K mg base "_law_is_problem" 4 ["value"] T__law_is_problem := ok__law_is_problem F33 (PySem.W.mg_of X G a33) B G__law_is_integer G__law_is_polynomial
  have G__law_bent : Cal P w K mg base "_law_bent" 3 ["c", "p", "n"] T__law_bent := ok__law_bent F34 (PySem.W.mg_of X G a34) B G__law_take
  have GS : FnOk P w K mg base (L2.CX P w) 1 f0 _ ["script"] (spStart K) := ok_start F0 B
  have b0 := F0.binds (ps := ["script"]) fun _ _ _ _ _ _ us hl => match us, hl with | [_], _ => rfl
  have hr : Room 7 (callerA.deeper (envOfC "law" (defScope s_law) s₁.heap.objs.size f35 cdv)) := Room.deeper ⟨rfl, by decide, by decide⟩ _
  have tk : Takes (cxOf (L2.CX P w) P w K mg base ["script", "c", "n", "one", "k", "power", "turn", "p", "q", "bent", "many", "value", "key", "part"] "law" (defScope s_law) f35 cdv callerA [] s₁ H fun _ _ _ => False) (WE0 fun _ _ _ => False) := takes_of rfl rfl rfl rfl
  have rest := dr_law B G__law_take G__law_polynomial G_added G__law_sum G_less G_multiplied G__law_product G__law_fraction G_scaled G_raised G_degree G__law_bent G_is_polynomial G__law_is_polynomial G_is_problem G__law_is_problem hr rfl tk (passes_of rfl)
  refine ⟨_, pss_cons (ps_set (i := 1) sc_law.nd rfl (by first | exact .inl rfl | exact .inr rfl) (pe_callS GS (hr.mono (by decide)) (by rfl) (PySem.W.mg_of X G a0) F0.kp b0 (passAt tk) (pa_cons (pv 0) pa_nil))) rest.ps, ?_⟩
  refine ⟨_, rfl, a, ns, rfl, hS, hl, fun H' p0 p1 ne sm h0 h1 => ?_⟩
  obtain ⟨S', hb⟩ := plain ns hl
  refine ⟨[p0, p1], [none, some (.loc 1), none, none, none, none, none, none, none, none, none, none, none, none], [.lst (ns.map .int), .lst [.loc 0, .int 0, .int 0, .int 0, .int 20]], state_two (n := 12) ne h0 h1 (by rfl) (by rfl), ?_⟩
  show sresP _ _ _ _ (b_law _ _) _
  rw [hb]
  intro r' H'' v x R' rv
  cases rv
  rfl
end DV
namespace DV
end DV
open PySem PySem.W PyProof.Rows
set_option maxHeartbeats 0 in
theorem PySem.Challenge.cw_counterpane_k40_polynomials_holds : PySem.Challenge.rw_counterpane_k40_polynomials.Holds := by
  w_on; o_law; k_head; (case hw => w_witness2)
  k_fill
  refine Att.attach_call (l := PySem.Challenge.rw_counterpane_k40_polynomials) (n := 63) rfl rfl fun w s₀ s₁ mg mb fa o pm cd doc a vs ns G Y ho hd hcd hmg hobj hints hlen hg => DV.law_code ?C (PySem.W.kIn_of Y) G.T.g G.T.b G.T.builtins G.T.nolimit hg hobj hints hlen
  case C =>
    refine' DV.all_mk (PySem.W.kIn_of Y) G.T.g ?a0 ?l0 ?c0 ?k0 ?a1 ?l1 ?c1 ?k1 ?a2 ?l2 ?c2 ?k2 ?a3 ?l3 ?c3 ?k3 ?a4 ?l4 ?c4 ?k4 ?a5 ?l5 ?c5 ?k5 ?a6 ?l6 ?c6 ?k6 ?a7 ?l7 ?c7 ?k7 ?a8 ?l8 ?c8 ?k8 ?a9 ?l9 ?c9 ?k9 ?a10 ?l10 ?c10 ?k10 ?a11 ?l11 ?c11 ?k11 ?a12 ?l12 ?c12 ?k12 ?a13 ?l13 ?c13 ?k13 ?a14 ?l14 ?c14 ?k14 ?a15 ?l15 ?c15 ?k15 ?a16 ?l16 ?c16 ?k16 ?a17 ?l17 ?c17 ?k17 ?a18 ?l18 ?c18 ?k18 ?a19 ?l19 ?c19 ?k19 ?a20 ?l20 ?c20 ?k20 ?a21 ?l21 ?c21 ?k21 ?a22 ?l22 ?c22 ?k22 ?a23 ?l23 ?c23 ?k23 ?a24 ?l24 ?c24 ?k24 ?a25 ?l25 ?c25 ?k25 ?a26 ?l26 ?c26 ?k26 ?a27 ?l27 ?c27 ?k27 ?a28 ?l28 ?c28 ?k28 ?a29 ?l29 ?c29 ?k29 ?a30 ?l30 ?c30 ?k30 ?a31 ?l31 ?c31 ?k31 ?a32 ?l32 ?c32 ?k32 ?a33 ?l33 ?c33 ?k33 ?a34 ?l34 ?c34 ?k34 ?a35 ?l35 ?c35 ?k35 ?z_abs ?z_isinstance ?z_int ?z_bool ?z_tuple ?z_len ?z_all ?z_sorted ?z_zip ?z_dict ?z_range ?z_max ?z_sum ?z_list ?z_repr ?z_str ?g_ZERO ?e_ZERO ?g_MOST_TERMS DV.plain hmg
    (case a0 => k_is)
    (case l0 => k_is)
    (case c0 => k_is)
    (case k0 => k_is)
    (case a1 => k_is)
    (case l1 => k_is)
    (case c1 => k_is)
    (case k1 => k_is)
    (case a2 => k_is)
    (case l2 => k_is)
    (case c2 => k_is)
    (case k2 => k_is)
    (case a3 => k_is)
    (case l3 => k_is)
    (case c3 => k_is)
    (case k3 => k_is)
    (case a4 => k_is)
    (case l4 => k_is)
    (case c4 => k_is)
    (case k4 => k_is)
    (case a5 => k_is)
    (case l5 => k_is)
    (case c5 => k_is)
    (case k5 => k_is)
    (case a6 => k_is)
    (case l6 => k_is)
    (case c6 => k_is)
    (case k6 => k_is)
    (case a7 => k_is)
    (case l7 => k_is)
    (case c7 => k_is)
    (case k7 => k_is)
    (case a8 => k_is)
    (case l8 => k_is)
    (case c8 => k_is)
    (case k8 => k_is)
    (case a9 => k_is)
    (case l9 => k_is)
    (case c9 => k_is)
    (case k9 => k_is)
    (case a10 => k_is)
    (case l10 => k_is)
    (case c10 => k_is)
    (case k10 => k_is)
    (case a11 => k_is)
    (case l11 => k_is)
    (case c11 => k_is)
    (case k11 => k_is)
    (case a12 => k_is)
    (case l12 => k_is)
    (case c12 => k_is)
    (case k12 => k_is)
    (case a13 => k_is)
    (case l13 => k_is)
    (case c13 => k_is)
    (case k13 => k_is)
    (case a14 => k_is)
    (case l14 => k_is)
    (case c14 => k_is)
    (case k14 => k_is)
    (case a15 => k_is)
    (case l15 => k_is)
    (case c15 => k_is)
    (case k15 => k_is)
    (case a16 => k_is)
    (case l16 => k_is)
    (case c16 => k_is)
    (case k16 => k_is)
    (case a17 => k_is)
    (case l17 => k_is)
    (case c17 => k_is)
    (case k17 => k_is)
    (case a18 => k_is)
    (case l18 => k_is)
    (case c18 => k_is)
    (case k18 => k_is)
    (case a19 => k_is)
    (case l19 => k_is)
    (case c19 => k_is)
    (case k19 => k_is)
    (case a20 => k_is)
    (case l20 => k_is)
    (case c20 => k_is)
    (case k20 => k_is)
    (case a21 => k_is)
    (case l21 => k_is)
    (case c21 => k_is)
    (case k21 => k_is)
    (case a22 => k_is)
    (case l22 => k_is)
    (case c22 => k_is)
    (case k22 => k_is)
    (case a23 => k_is)
    (case l23 => k_is)
    (case c23 => k_is)
    (case k23 => k_is)
    (case a24 => k_is)
    (case l24 => k_is)
    (case c24 => k_is)
    (case k24 => k_is)
    (case a25 => k_is)
    (case l25 => k_is)
    (case c25 => k_is)
    (case k25 => k_is)
    (case a26 => k_is)
    (case l26 => k_is)
    (case c26 => k_is)
    (case k26 => k_is)
    (case a27 => k_is)
    (case l27 => k_is)
    (case c27 => k_is)
    (case k27 => k_is)
    (case a28 => k_is)
    (case l28 => k_is)
    (case c28 => k_is)
    (case k28 => k_is)
    (case a29 => k_is)
    (case l29 => k_is)
    (case c29 => k_is)
    (case k29 => k_is)
    (case a30 => k_is)
    (case l30 => k_is)
    (case c30 => k_is)
    (case k30 => k_is)
    (case a31 => k_is)
    (case l31 => k_is)
    (case c31 => k_is)
    (case k31 => k_is)
    (case a32 => k_is)
    (case l32 => k_is)
    (case c32 => k_is)
    (case k32 => k_is)
    (case a33 => k_is)
    (case l33 => k_is)
    (case c33 => k_is)
    (case k33 => k_is)
    (case a34 => k_is)
    (case l34 => k_is)
    (case c34 => k_is)
    (case k34 => k_is)
    (case a35 => k_is)
    (case l35 => k_is)
    (case c35 => k_is)
    (case k35 => k_is)
    (case z_abs => k_is)
    (case z_isinstance => k_is)
    (case z_int => k_is)
    (case z_bool => k_is)
    (case z_tuple => k_is)
    (case z_len => k_is)
    (case z_all => k_is)
    (case z_sorted => k_is)
    (case z_zip => k_is)
    (case z_dict => k_is)
    (case z_range => k_is)
    (case z_max => k_is)
    (case z_sum => k_is)
    (case z_list => k_is)
    (case z_repr => k_is)
    (case z_str => k_is)
    (case g_ZERO => k_is)
    (case e_ZERO => k_is)
    (case g_MOST_TERMS => k_is)
