import PyProof.Rows.All
import Wide.All
import OpenK.AllK
import Wide.FinOn
import HandS.ForMost
import HandS.Exc
import HandS.TryOnly
import HandS.ExcOwn
import HandS.WordsExc
import HandS.AnyAll
import HandS.TupAny
import HandS.Style
import HandS.Conv
import HandS.IsInst
import HandS.Gcd
import HandS.SortInts
import HandS.Strs
import HandS.SetFor
import HandS.TupSets
import HandS.Iter
import HandS.Rev
import HandS.CallLocal
import HandS.Defaults
import HandS.GenOver
import HandS.Nested
import HandS.Head0
import HandS.Head1
import HandS.Head2
import HandS.HeadEnd
import HandS.HeadHook1
import HandS.HeadHook2
import HandS.HeadWalk
import HandS.EndTab
import PySem.Challenge.RW_everydue_k16_faults_of_rules
set_option Elab.async false
set_option linter.all false
set_option maxRecDepth 100000
set_option maxHeartbeats 0
/-! Px0: values as data (D), a store of the mutable objects (Sto), how they lie in HandS's heap, and the lifting of readings over data to readings over the heap. -/
namespace Px
open PySem PySem.Spec PyProof.Rows L2

/-- a value with all immutable data in it; mutable objects by their number in the store -/
inductive D where
  | non | bl (b : Bool) | int (i : Int) | str (x : Str) | ty (n : String) | adr (a : Addr) | obj (n : Nat) | tup (xs : List D) | sll (xs : List D)

/-- a mutable object -/
inductive O where
  | lst (xs : List D)
  | dct (kvs : List (Key × D))
  | ins (C : Addr) (fs : List (Str × D))
  | any (φ : Addr → Prop)
abbrev Sto := List O
abbrev Sl := List (Option D)

/-! ### how data lie in the heap -/
/-- a list that is never written -/
def SlK (K : PySem.W.Frag) (H : Hp) (a : Addr) (xs : List V) : Prop :=
  (∃ o, H a = some (.frz o (.lst xs))) ∨
    ∃ (o : Obj) (its : Array Value) (n : Nat), K.lookup a = some o ∧ o.cls = .type "list" ∧ o.dict = none ∧ o.data = .seq its n ∧ its.size ≤ sizeLine ∧ Vals xs its.toList
theorem SlK.sq {K : PySem.W.Frag} {H : Hp} {a : Addr} {xs : List V} (h : SlK K H a xs) : SqL K H a xs := by
  rcases h with ⟨o, h⟩ | h
  · exact .inl (.inr ⟨o, h⟩)
  · exact .inr h
mutual
def RelD (K : PySem.W.Frag) (H : Hp) (ρ : List Addr) : D → V → Prop
  | .non, v => v = .non
  | .bl b, v => v = .bl b
  | .int i, v => v = .int i
  | .str x, v => v = .str x
  | .ty n, v => v = .ty n
  | .adr a, v => v = .ref a
  | .obj n, v => ∃ a, ρ[n]? = some a ∧ v = .ref a
  | .tup ds, v => ∃ a vs, v = .ref a ∧ SqT K H a vs ∧ RelDs K H ρ ds vs
  | .sll ds, v => ∃ a vs, v = .ref a ∧ SlK K H a vs ∧ RelDs K H ρ ds vs
def RelDs (K : PySem.W.Frag) (H : Hp) (ρ : List Addr) : List D → List V → Prop
  | [], vs => vs = []
  | d :: ds, vs => ∃ v vr, vs = v :: vr ∧ RelD K H ρ d v ∧ RelDs K H ρ ds vr
end

/-- what never changes is kept -/
structure Kp (H H' : Hp) : Prop where
  tup : ∀ b xs, H b = some (.tup xs) → H' b = some (.tup xs)
  frz : ∀ b o u, H b = some (.frz o u) → H' b = some (.frz o u)
theorem Kp.refl (H : Hp) : Kp H H := ⟨fun _ _ h => h, fun _ _ _ h => h⟩
theorem Kp.trans {H H1 H2 : Hp} (a : Kp H H1) (b : Kp H1 H2) : Kp H H2 := ⟨fun _ _ h => b.tup _ _ (a.tup _ _ h), fun _ _ _ h => b.frz _ _ _ (a.frz _ _ _ h)⟩
theorem Kp.new {H : Hp} {p : Addr} {o : HO} (h : H p = none) : Kp H (upd H p o) :=
  ⟨fun b xs e => by rw [upd_ne (ne_of_none e h)]; exact e, fun b ob u e => by rw [upd_ne (ne_of_none e h)]; exact e⟩
theorem Kp.mut {H : Hp} {p : Addr} {o u : HO} (h : H p = some u) (m : Mut (some u)) : Kp H (upd H p o) := by
  refine ⟨fun b xs e => ?_, fun b ob w e => ?_⟩
  · by_cases hb : b = p
    · subst hb; rw [h] at e; cases e; exact m.elim
    · rw [upd_ne hb]; exact e
  · by_cases hb : b = p
    · subst hb; rw [h] at e; cases e; exact m.elim
    · rw [upd_ne hb]; exact e
theorem Kp.rd {H H' : Hp} {a : Addr} {xs : List V} (k : Kp H H') (h : Rd H a (.tup xs)) : Rd H' a (.tup xs) := by
  rcases h with h | ⟨o, h⟩
  · exact .inl (k.tup _ _ h)
  · exact .inr ⟨o, k.frz _ _ _ h⟩
theorem Kp.sqT {K : PySem.W.Frag} {H H' : Hp} {a : Addr} {xs : List V} (k : Kp H H') (h : SqT K H a xs) : SqT K H' a xs := by
  rcases h with h | h
  · exact .inl (k.rd h)
  · exact .inr h

theorem Kp.slK {K : PySem.W.Frag} {H H' : Hp} {a : Addr} {xs : List V} (k : Kp H H') (h : SlK K H a xs) : SlK K H' a xs := by
  rcases h with ⟨o, h⟩ | h
  · exact .inl ⟨o, k.frz _ _ _ h⟩
  · exact .inr h
theorem pre_get {α : Type} {l l' : List α} {n : Nat} {a : α} (p : l <+: l') (h : l[n]? = some a) : l'[n]? = some a := by
  obtain ⟨t, rfl⟩ := p
  obtain ⟨hn, _⟩ := List.getElem?_eq_some_iff.mp h
  rw [List.getElem?_append_left hn]
  exact h

mutual
theorem RelD.mono {K : PySem.W.Frag} {H H' : Hp} {ρ ρ' : List Addr} (k : Kp H H') (p : ρ <+: ρ') : ∀ (d : D) {v : V}, RelD K H ρ d v → RelD K H' ρ' d v
  | .non, _, h => h
  | .bl _, _, h => h
  | .int _, _, h => h
  | .str _, _, h => h
  | .ty _, _, h => h
  | .adr _, _, h => h
  | .obj _, _, ⟨a, h, e⟩ => ⟨a, pre_get p h, e⟩
  | .tup ds, _, ⟨a, vs, e, s, r⟩ => ⟨a, vs, e, k.sqT s, RelDs.mono k p ds r⟩
  | .sll ds, _, ⟨a, vs, e, s, r⟩ => ⟨a, vs, e, k.slK s, RelDs.mono k p ds r⟩
theorem RelDs.mono {K : PySem.W.Frag} {H H' : Hp} {ρ ρ' : List Addr} (k : Kp H H') (p : ρ <+: ρ') : ∀ (ds : List D) {vs : List V}, RelDs K H ρ ds vs → RelDs K H' ρ' ds vs
  | [], _, h => h
  | d :: ds, _, ⟨v, vr, e, r, rs⟩ => ⟨v, vr, e, RelD.mono k p d r, RelDs.mono k p ds rs⟩
end
section
variable {K : PySem.W.Frag} {H H' : Hp} {ρ ρ' : List Addr}
theorem RelDs.length : ∀ {ds : List D} {vs : List V}, RelDs K H ρ ds vs → ds.length = vs.length
  | [], _, h => by have h : _ = [] := h; rw [h]; rfl
  | _ :: ds, _, ⟨_, vr, e, _, rs⟩ => by rw [e, List.length_cons, List.length_cons, RelDs.length rs]
theorem rel_non : RelD K H ρ .non .non := rfl
theorem rel_bl {b : Bool} : RelD K H ρ (.bl b) (.bl b) := rfl
theorem rel_int {i : Int} : RelD K H ρ (.int i) (.int i) := rfl
theorem rel_str {x : Str} : RelD K H ρ (.str x) (.str x) := rfl
theorem rel_ty {n : String} : RelD K H ρ (.ty n) (.ty n) := rfl
theorem rel_adr {a : Addr} : RelD K H ρ (.adr a) (.ref a) := rfl
theorem rel_obj {n : Nat} {a : Addr} (h : ρ[n]? = some a) : RelD K H ρ (.obj n) (.ref a) := ⟨a, h, rfl⟩
theorem rel_tup {a : Addr} {ds : List D} {vs : List V} (h : SqT K H a vs) (r : RelDs K H ρ ds vs) : RelD K H ρ (.tup ds) (.ref a) := ⟨a, vs, rfl, h, r⟩
theorem RelDs.nil : RelDs K H ρ [] [] := rfl
theorem RelDs.cons {d : D} {ds : List D} {v : V} {vs : List V} (r : RelD K H ρ d v) (rs : RelDs K H ρ ds vs) : RelDs K H ρ (d :: ds) (v :: vs) := ⟨v, vs, rfl, r, rs⟩
theorem RelDs.append : ∀ {ds es : List D} {vs us : List V}, RelDs K H ρ ds vs → RelDs K H ρ es us → RelDs K H ρ (ds ++ es) (vs ++ us)
  | [], _, _, _, h, r => by have h : _ = [] := h; rw [h]; exact r
  | _ :: _, _, _, _, ⟨v, vr, e, q, rs⟩, r => by rw [e]; exact ⟨v, _, rfl, q, RelDs.append rs r⟩
theorem RelDs.get : ∀ {ds : List D} {vs : List V} {i : Nat} {d : D}, RelDs K H ρ ds vs → ds[i]? = some d → ∃ v, vs[i]? = some v ∧ RelD K H ρ d v
  | [], _, _, _, _, h => by simp at h
  | d :: ds, _, 0, _, ⟨v, vr, e, q, rs⟩, h => by
    have h := Option.some.inj (show some d = some _ from h)
    subst h; rw [e]; exact ⟨v, rfl, q⟩
  | d :: ds, _, i + 1, _, ⟨v, vr, e, q, rs⟩, h => by
    rw [e]
    obtain ⟨u, h1, h2⟩ := RelDs.get (i := i) rs (by simpa using h)
    exact ⟨u, by simpa using h1, h2⟩
theorem RelDs.getV : ∀ {ds : List D} {vs : List V} {i : Nat} {v : V}, RelDs K H ρ ds vs → vs[i]? = some v → ∃ d, ds[i]? = some d ∧ RelD K H ρ d v
  | [], _, _, _, h, q => by have h : _ = [] := h; rw [h] at q; simp at q
  | d :: ds, _, 0, _, ⟨v, vr, e, q, rs⟩, h => by
    rw [e] at h
    have h := Option.some.inj (show some v = some _ from h)
    subst h; exact ⟨d, rfl, q⟩
  | d :: ds, _, i + 1, _, ⟨v, vr, e, q, rs⟩, h => by
    rw [e] at h
    obtain ⟨u, h1, h2⟩ := RelDs.getV (i := i) rs (by simpa using h)
    exact ⟨u, by simpa using h1, h2⟩
theorem RelDs.set : ∀ {ds : List D} {vs : List V} (i : Nat) {d : D} {v : V}, RelDs K H ρ ds vs → RelD K H ρ d v → RelDs K H ρ (ds.set i d) (vs.set i v)
  | [], _, _, _, _, h, _ => by have h : _ = [] := h; rw [h]; rfl
  | _ :: _, _, 0, _, _, ⟨v, vr, e, q, rs⟩, r => by rw [e]; exact ⟨_, _, rfl, r, rs⟩
  | _ :: _, _, i + 1, _, _, ⟨v, vr, e, q, rs⟩, r => by rw [e]; exact ⟨_, _, rfl, q, RelDs.set i rs r⟩
theorem RelDs.take : ∀ {ds : List D} {vs : List V} (n : Nat), RelDs K H ρ ds vs → RelDs K H ρ (ds.take n) (vs.take n)
  | _, _, 0, _ => by rw [List.take_zero, List.take_zero]; rfl
  | [], _, n + 1, h => by have h : _ = [] := h; rw [h]; rfl
  | _ :: _, _, n + 1, ⟨v, vr, e, q, rs⟩ => by rw [e]; exact ⟨_, _, rfl, q, RelDs.take n rs⟩
theorem RelDs.drop : ∀ {ds : List D} {vs : List V} (n : Nat), RelDs K H ρ ds vs → RelDs K H ρ (ds.drop n) (vs.drop n)
  | _, _, 0, h => h
  | [], _, n + 1, h => by have h : _ = [] := h; rw [h]; rfl
  | _ :: _, _, n + 1, ⟨v, vr, e, q, rs⟩ => by rw [e]; exact RelDs.drop n rs
theorem RelDs.reverse : ∀ {ds : List D} {vs : List V}, RelDs K H ρ ds vs → RelDs K H ρ ds.reverse vs.reverse
  | [], _, h => by have h : _ = [] := h; rw [h]; rfl
  | _ :: _, _, ⟨v, vr, e, q, rs⟩ => by
    rw [e, List.reverse_cons, List.reverse_cons]
    exact (RelDs.reverse rs).append (RelDs.cons q rfl)
theorem RelDs.dropLast : ∀ {ds : List D} {vs : List V}, RelDs K H ρ ds vs → RelDs K H ρ ds.dropLast vs.dropLast := fun {ds vs} h => by
  rw [List.dropLast_eq_take, List.dropLast_eq_take, h.length]
  exact h.take _
end

/-! ### the store -/
/-- what the law's walk knows for good: the written part, the tables of code objects -/
structure Gx where
  K : PySem.W.Frag
  T : List Addr
def KvR (K : PySem.W.Frag) (H : Hp) (ρ : List Addr) {κ : Type} : List (κ × D) → List (κ × V) → Prop
  | [], vs => vs = []
  | (k, d) :: ds, vs => ∃ v vr, vs = (k, v) :: vr ∧ RelD K H ρ d v ∧ KvR K H ρ ds vr
theorem KvR.mono {K : PySem.W.Frag} {H H' : Hp} {ρ ρ' : List Addr} (k : Kp H H') (p : ρ <+: ρ') {κ : Type} : ∀ {ds : List (κ × D)} {vs : List (κ × V)}, KvR K H ρ ds vs → KvR K H' ρ' ds vs
  | [], _, h => h
  | (_, d) :: _, _, ⟨v, vr, e, r, rs⟩ => ⟨v, vr, e, RelD.mono k p d r, KvR.mono k p rs⟩
def RelO (K : PySem.W.Frag) (H : Hp) (ρ : List Addr) : O → Addr → Prop
  | .lst ds, a => ∃ vs, H a = some (.lst vs) ∧ RelDs K H ρ ds vs
  | .dct kvs, a => ∃ us, H a = some (.dK us) ∧ KvR K H ρ kvs us
  | .ins C fs, a => ∃ dx us, H a = some (.ins C dx us) ∧ KvR K H ρ fs us
  | .any φ, a => φ a ∧ ∃ o, H a = some o
structure StR (G : Gx) (H : Hp) (ρ : List Addr) (S : Sto) : Prop where
  len : ρ.length = S.length
  nd : ρ.Nodup
  ob : ∀ (n : Nat) (o : O), S[n]? = some o → ∃ a, ρ[n]? = some a ∧ RelO G.K H ρ o a
  tab : ∀ P ∈ G.T, GxR.TabG H P

theorem RelO.there {K : PySem.W.Frag} {H : Hp} {ρ : List Addr} {o : O} {a : Addr} (h : RelO K H ρ o a) : ∃ u, H a = some u := by
  cases o with
  | lst _ => obtain ⟨vs, e, _⟩ := h; exact ⟨_, e⟩
  | dct _ => obtain ⟨vs, e, _⟩ := h; exact ⟨_, e⟩
  | ins _ _ => obtain ⟨_, vs, e, _⟩ := h; exact ⟨_, e⟩
  | any _ => exact h.2
/-- an object at whose address nothing changed -/
theorem RelO.mono {K : PySem.W.Frag} {H H' : Hp} {ρ ρ' : List Addr} {o : O} {a : Addr} (k : Kp H H') (p : ρ <+: ρ') (e : H' a = H a) (h : RelO K H ρ o a) : RelO K H' ρ' o a := by
  cases o with
  | lst _ => obtain ⟨vs, q, r⟩ := h; exact ⟨vs, e.trans q, RelDs.mono k p _ r⟩
  | dct _ => obtain ⟨vs, q, r⟩ := h; exact ⟨vs, e.trans q, r.mono k p⟩
  | ins _ _ => obtain ⟨dx, vs, q, r⟩ := h; exact ⟨dx, vs, e.trans q, r.mono k p⟩
  | any _ => obtain ⟨q, u, r⟩ := h; exact ⟨q, u, e.trans r⟩
section
variable {G : Gx} {H H' : Hp} {ρ ρ' : List Addr} {S : Sto} {p a : Addr} {n : Nat} {o : O} {ho : HO}
theorem StR.mem_there (s : StR G H ρ S) (h : a ∈ ρ) : ∃ u, H a = some u := by
  obtain ⟨i, hi, e⟩ := List.getElem_of_mem h
  have hi2 : i < S.length := by rw [← s.len]; exact hi
  obtain ⟨b, e2, r⟩ := s.ob i S[i] (List.getElem?_eq_getElem hi2)
  rw [List.getElem?_eq_getElem hi, e] at e2
  cases e2
  exact r.there
theorem StR.fresh (s : StR G H ρ S) (hp : H p = none) : p ∉ ρ := fun h => by
  obtain ⟨u, e⟩ := s.mem_there h
  rw [hp] at e; cases e
theorem tabG_ne {P : Addr} (hp : H p = none) (h : GxR.TabG H P) : GxR.TabG (upd H p ho) P := by
  obtain ⟨ps, e, t⟩ := h
  exact ⟨ps, by rw [upd_ne (ne_of_none e hp)]; exact e, t⟩
theorem tabG_mut {P : Addr} {u : HO} (hp : H p = some u) (m : Mut (some u)) (h : GxR.TabG H P) : GxR.TabG (upd H p ho) P := by
  obtain ⟨ps, e, t⟩ := h
  refine ⟨ps, ?_, t⟩
  rw [upd_ne (ne_of e hp fun z => by subst z; exact m.elim)]
  exact e
/-- a new tuple: no object of the store -/
theorem StR.newTup (s : StR G H ρ S) (hp : H p = none) : StR G (upd H p ho) ρ S :=
  ⟨s.len, s.nd, fun n o e => by
    obtain ⟨a, e1, r⟩ := s.ob n o e
    refine ⟨a, e1, r.mono (Kp.new hp) (List.prefix_refl _) (upd_ne ?_)⟩
    obtain ⟨u, q⟩ := r.there
    exact ne_of_none q hp, fun P h => tabG_ne hp (s.tab P h)⟩
/-- a new object of the store -/
theorem StR.newObj (s : StR G H ρ S) (hp : H p = none) (r : RelO G.K (upd H p ho) (ρ ++ [p]) o p) : StR G (upd H p ho) (ρ ++ [p]) (S ++ [o]) := by
  refine ⟨by rw [List.length_append, List.length_append, s.len]; rfl, ?_, fun m o' e => ?_, fun P h => tabG_ne hp (s.tab P h)⟩
  · rw [List.nodup_append]
    refine ⟨s.nd, List.nodup_cons.mpr ⟨by simp, List.nodup_nil⟩, fun x hx y hy => ?_⟩
    rw [List.mem_singleton.mp hy]
    rintro rfl
    exact s.fresh hp hx
  · by_cases hm : m < S.length
    · rw [List.getElem?_append_left hm] at e
      obtain ⟨a, e1, q⟩ := s.ob m o' e
      refine ⟨a, by rw [List.getElem?_append_left (by rw [s.len]; exact hm)]; exact e1, q.mono (Kp.new hp) (List.prefix_append _ _) (upd_ne ?_)⟩
      obtain ⟨u, q⟩ := q.there
      exact ne_of_none q hp
    · have hm2 : m = S.length := by
        have h3 := (List.getElem?_eq_some_iff.mp e).1
        rw [List.length_append] at h3
        simp at h3
        omega
      subst hm2
      rw [List.getElem?_append_right (Nat.le_refl _), Nat.sub_self] at e
      have e : o = o' := by simpa using e
      subst e
      exact ⟨p, by rw [← s.len, List.getElem?_append_right (Nat.le_refl _), Nat.sub_self]; rfl, r⟩
theorem nodup_at {l : List Addr} (h : l.Nodup) {i j : Nat} {x : Addr} (a : l[i]? = some x) (b : l[j]? = some x) : i = j := by
  obtain ⟨h1, e1⟩ := List.getElem?_eq_some_iff.mp a
  obtain ⟨h2, e2⟩ := List.getElem?_eq_some_iff.mp b
  exact (List.getElem_inj h).mp (e1.trans e2.symm)
/-- an object of the store changes -/
theorem StR.setObj {u : HO} (s : StR G H ρ S) (ha : ρ[n]? = some a) (hu : H a = some u) (m : Mut (some u)) (r : RelO G.K (upd H a ho) ρ o a) : StR G (upd H a ho) ρ (S.set n o) := by
  refine ⟨by rw [List.length_set]; exact s.len, s.nd, fun k o' e => ?_, fun P h => tabG_mut hu m (s.tab P h)⟩
  by_cases hk : n = k
  · subst hk
    have hn : n < S.length := by rw [← s.len]; exact (List.getElem?_eq_some_iff.mp ha).1
    rw [List.getElem?_set_self hn] at e
    cases e
    exact ⟨a, ha, r⟩
  · rw [List.getElem?_set_ne hk] at e
    obtain ⟨b, e1, q⟩ := s.ob k o' e
    refine ⟨b, e1, q.mono (Kp.mut hu m) (List.prefix_refl _) (upd_ne fun z => hk ?_)⟩
    subst z
    exact nodup_at s.nd ha e1
theorem StR.lst (s : StR G H ρ S) {ds : List D} (h : S[n]? = some (.lst ds)) (ha : ρ[n]? = some a) : ∃ vs, H a = some (.lst vs) ∧ RelDs G.K H ρ ds vs := by
  obtain ⟨b, e, r⟩ := s.ob n _ h
  rw [ha] at e; cases e
  exact r
/-- drop what is behind -/
theorem StR.cut (s : StR G H ρ S) (k : Nat) (hc : ∀ (n : Nat) (o : O), (S.take k)[n]? = some o → ∀ a, ρ[n]? = some a → RelO G.K H ρ o a → RelO G.K H (ρ.take k) o a) : StR G H (ρ.take k) (S.take k) := by
  refine ⟨by rw [List.length_take, List.length_take, s.len], s.nd.sublist (List.take_sublist _ _), fun n o e => ?_, s.tab⟩
  have hk : n < k := by
    have h := (List.getElem?_eq_some_iff.mp e).1
    rw [List.length_take] at h
    omega
  have e' := e
  rw [List.getElem?_take_of_lt hk] at e
  obtain ⟨a, e1, r⟩ := s.ob n o e
  exact ⟨a, by rw [List.getElem?_take_of_lt hk]; exact e1, hc n o e' a e1 r⟩
end

/-! ### slots -/
def SlR (K : PySem.W.Frag) (H : Hp) (ρ : List Addr) (σ : Sl) (τ : L2.St) : Prop := σ.length = τ.length ∧ ∀ (i : Nat) d, σ[i]? = some (some d) → ∃ v, τ[i]? = some (some v) ∧ RelD K H ρ d v
section
variable {K : PySem.W.Frag} {H H' : Hp} {ρ ρ' : List Addr} {σ : Sl} {τ : L2.St}
theorem SlR.mono (k : Kp H H') (p : ρ <+: ρ') (h : SlR K H ρ σ τ) : SlR K H' ρ' σ τ := ⟨h.1, fun i d e => by
  obtain ⟨v, q, r⟩ := h.2 i d e
  exact ⟨v, q, RelD.mono k p d r⟩⟩
theorem SlR.set {d : D} {v : V} (i : Nat) (h : SlR K H ρ σ τ) (r : RelD K H ρ d v) : SlR K H ρ (σ.set i (some d)) (τ.set i (some v)) := by
  refine ⟨by rw [List.length_set, List.length_set]; exact h.1, fun j e he => ?_⟩
  by_cases hj : i = j
  · subst hj
    have hi : i < σ.length := by
      have := (List.getElem?_eq_some_iff.mp he).1
      rwa [List.length_set] at this
    rw [List.getElem?_set_self hi] at he
    cases he
    exact ⟨v, List.getElem?_set_self (by rw [← h.1]; exact hi), r⟩
  · rw [List.getElem?_set_ne hj] at he
    obtain ⟨u, q, s⟩ := h.2 j e he
    exact ⟨u, by rw [List.getElem?_set_ne hj]; exact q, s⟩
theorem SlR.unset (i : Nat) (h : SlR K H ρ σ τ) : SlR K H ρ (σ.set i none) (τ.set i none) := by
  refine ⟨by rw [List.length_set, List.length_set]; exact h.1, fun j e he => ?_⟩
  by_cases hj : i = j
  · subst hj
    have hi : i < σ.length := by
      have := (List.getElem?_eq_some_iff.mp he).1
      rwa [List.length_set] at this
    rw [List.getElem?_set_self hi] at he
    cases he
  · rw [List.getElem?_set_ne hj] at he
    obtain ⟨u, q, s⟩ := h.2 j e he
    exact ⟨u, by rw [List.getElem?_set_ne hj]; exact q, s⟩
end
def wipeD (σ : Sl) : List Nat → Sl
  | [] => σ
  | v :: vs => (wipeD σ vs).set v none
theorem SlR.wipe {K : PySem.W.Frag} {H : Hp} {ρ : List Addr} {σ : Sl} {τ : L2.St} (h : SlR K H ρ σ τ) : ∀ vs : List Nat, SlR K H ρ (wipeD σ vs) (L2.wipe τ vs)
  | [] => h
  | v :: vs => (SlR.wipe h vs).unset v

/-! ### readings over data -/
abbrev VKd := D → Sto → Prop
abbrev WE := Sl → Sto → VKd → Prop
abbrev WT := Sl → Sto → (Bool → Sto → Prop) → Prop
abbrev WA := Sl → Sto → (List D → Sto → Prop) → Prop
structure WEnds where
  nx : Sl → Sto → Prop
  rt : VKd
  bk : Sl → Sto → Prop := fun _ _ => False
  ct : Sl → Sto → Prop := fun _ _ => False
abbrev WS := WEnds → Sl → Sto → Prop
/-- an exception: its class, its attributes -/
abbrev XKd := Addr → List (Str × D) → Sto → Prop
/-- what a def does: its arguments, the store, what is wanted of its value, of an exception -/
abbrev Spec := List D → Sto → VKd → XKd → Prop
abbrev noX : XKd := fun _ _ _ => False

def Cont (G : Gx) (H : Hp) (ρ : List Addr) (Qd : VKd) (Q : VK) : Prop :=
  ∀ H' ρ' S' d v, Kp H H' → ρ <+: ρ' → StR G H' ρ' S' → RelD G.K H' ρ' d v → Qd d S' → Q v H'
def ContT (G : Gx) (H : Hp) (ρ : List Addr) (Qd : Bool → Sto → Prop) (Q : Bool → Hp → Prop) : Prop :=
  ∀ H' ρ' S' b, Kp H H' → ρ <+: ρ' → StR G H' ρ' S' → Qd b S' → Q b H'
def ContA (G : Gx) (H : Hp) (ρ : List Addr) (Qd : List D → Sto → Prop) (Q : List V → Hp → Prop) : Prop :=
  ∀ H' ρ' S' ds vs, Kp H H' → ρ <+: ρ' → StR G H' ρ' S' → RelDs G.K H' ρ' ds vs → Qd ds S' → Q vs H'
def ContS (G : Gx) (H : Hp) (ρ : List Addr) (Qd : Sl → Sto → Prop) (Q : L2.St → Hp → Prop) : Prop :=
  ∀ H' ρ' S' σ τ, Kp H H' → ρ <+: ρ' → StR G H' ρ' S' → SlR G.K H' ρ' σ τ → Qd σ S' → Q τ H'
def ContX (G : Gx) (H : Hp) (ρ : List Addr) (Qd : XKd) (Q : XK) : Prop :=
  ∀ H' ρ' S' C fs od, Kp H H' → ρ <+: ρ' → StR G H' ρ' S' → ((od = none ∧ fs = []) ∨ ∃ d us, od = some d ∧ H' d = some (.xd us) ∧ KvR G.K H' ρ' fs us) → Qd C fs S' → Q (.ref C) od H'
structure ContE (G : Gx) (H : Hp) (ρ : List Addr) (Dd : WEnds) (D : Ends) : Prop where
  nx : ContS G H ρ Dd.nx D.nx
  rt : Cont G H ρ Dd.rt D.rt
  bk : ContS G H ρ Dd.bk D.bk
  ct : ContS G H ρ Dd.ct D.ct
section
variable {G : Gx} {H H' : Hp} {ρ ρ' : List Addr}
theorem Cont.mono {Qd : VKd} {Q : VK} (k : Kp H H') (p : ρ <+: ρ') (c : Cont G H ρ Qd Q) : Cont G H' ρ' Qd Q := fun H2 ρ2 S2 d v k2 p2 => c H2 ρ2 S2 d v (k.trans k2) (p.trans p2)
theorem ContT.mono {Qd : Bool → Sto → Prop} {Q : Bool → Hp → Prop} (k : Kp H H') (p : ρ <+: ρ') (c : ContT G H ρ Qd Q) : ContT G H' ρ' Qd Q := fun H2 ρ2 S2 d k2 p2 => c H2 ρ2 S2 d (k.trans k2) (p.trans p2)
theorem ContA.mono {Qd : List D → Sto → Prop} {Q : List V → Hp → Prop} (k : Kp H H') (p : ρ <+: ρ') (c : ContA G H ρ Qd Q) : ContA G H' ρ' Qd Q := fun H2 ρ2 S2 d v k2 p2 => c H2 ρ2 S2 d v (k.trans k2) (p.trans p2)
theorem ContS.mono {Qd : Sl → Sto → Prop} {Q : L2.St → Hp → Prop} (k : Kp H H') (p : ρ <+: ρ') (c : ContS G H ρ Qd Q) : ContS G H' ρ' Qd Q := fun H2 ρ2 S2 d v k2 p2 => c H2 ρ2 S2 d v (k.trans k2) (p.trans p2)
theorem ContX.mono {Qd : XKd} {Q : XK} (k : Kp H H') (p : ρ <+: ρ') (c : ContX G H ρ Qd Q) : ContX G H' ρ' Qd Q := fun H2 ρ2 S2 C fs od k2 p2 => c H2 ρ2 S2 C fs od (k.trans k2) (p.trans p2)
theorem ContE.mono {Dd : WEnds} {D : Ends} (k : Kp H H') (p : ρ <+: ρ') (c : ContE G H ρ Dd D) : ContE G H' ρ' Dd D := ⟨c.nx.mono k p, c.rt.mono k p, c.bk.mono k p, c.ct.mono k p⟩
end
def lE (G : Gx) (w : WE) : TE := fun τ H Q => ∃ ρ σ S Qd, StR G H ρ S ∧ SlR G.K H ρ σ τ ∧ w σ S Qd ∧ Cont G H ρ Qd Q
def lT (G : Gx) (w : WT) : TT := fun τ H Q => ∃ ρ σ S Qd, StR G H ρ S ∧ SlR G.K H ρ σ τ ∧ w σ S Qd ∧ ContT G H ρ Qd Q
def lA (G : Gx) (w : WA) : TA := fun τ H Q => ∃ ρ σ S Qd, StR G H ρ S ∧ SlR G.K H ρ σ τ ∧ w σ S Qd ∧ ContA G H ρ Qd Q
def lS (G : Gx) (w : WS) : TS := fun D τ H => ∃ ρ σ S Dd, StR G H ρ S ∧ SlR G.K H ρ σ τ ∧ w Dd σ S ∧ ContE G H ρ Dd D
def lSp (G : Gx) (n : Nat) (sp : Spec) : Sp := fun vs H Q E => ∃ ρ S ds Qd Ed, StR G H ρ S ∧ RelDs G.K H ρ ds vs ∧ ds.length = n ∧ sp ds S Qd Ed ∧ Cont G H ρ Qd Q ∧ ContX G H ρ Ed E

theorem PE.imp {X : Cx} {e : Expr} {t t' : TE} (h : PE X e t) (k : ∀ σ H Q, t' σ H Q → t σ H Q) : PE X e t' := ⟨fun pins s σ H Q I hq => h.run pins s σ H Q I (k _ _ _ hq)⟩
theorem PT.imp {X : Cx} {e : Expr} {t t' : TT} (h : PT X e t) (k : ∀ σ H Q, t' σ H Q → t σ H Q) : PT X e t' := ⟨fun pins s σ H Q I hq => h.run pins s σ H Q I (k _ _ _ hq)⟩
theorem PW.imp {X : Cx} {e : Expr} {t t' : TT} (h : PW X e t) (k : ∀ σ H Q, t' σ H Q → t σ H Q) : PW X e t' := ⟨fun wh pins s σ H Q I hq => h.run wh pins s σ H Q I (k _ _ _ hq)⟩
theorem PA.imp {X : Cx} {e : List Expr} {t t' : TA} (h : PA X e t) (k : ∀ σ H Q, t' σ H Q → t σ H Q) : PA X e t' := ⟨fun pos pins s σ H Q I hq => h.run pos pins s σ H Q I (k _ _ _ hq)⟩
theorem PS.imp {X : Cx} {e : Stmt} {t t' : TS} (h : PS X e t) (k : ∀ D σ H, t' D σ H → t D σ H) : PS X e t' := ⟨fun pins s σ H D I hq => h.run pins s σ H D I (k _ _ _ hq)⟩
theorem PSs.imp {X : Cx} {e : List Stmt} {t t' : TS} (h : PSs X e t) (k : ∀ D σ H, t' D σ H → t D σ H) : PSs X e t' := ⟨fun pins s σ H D I hq => h.run pins s σ H D I (k _ _ _ hq)⟩
end Px
/-! Px1: expressions: names, constants, operators, comparisons, truth, displays, calls. -/
namespace Px
open PySem PySem.Spec PyProof.Rows L2

/-! ### readings of operators, by data -/
abbrev Op2 := D → D → Sto → VKd → Prop
def wVar (i : Nat) : WE := fun σ S Q => match σ[i]? with
  | some (some d) => Q d S
  | _ => False
def wC (d : D) : WE := fun _ S Q => Q d S
def wOp (f : Op2) (wa wb : WE) : WE := fun σ S Q => wa σ S fun x S1 => wb σ S1 fun y S2 => f x y S2 Q
def wUn (f : D → Sto → VKd → Prop) (wa : WE) : WE := fun σ S Q => wa σ S fun x S1 => f x S1 Q
def wNil : WA := fun _ S Q => Q [] S
def wCons (wa : WE) (wr : WA) : WA := fun σ S Q => wa σ S fun x S1 => wr σ S1 fun xs S2 => Q (x :: xs) S2
def wTup (wa : WA) : WE := fun σ S Q => wa σ S fun xs S1 => xs.length ≤ sizeLine ∧ Q (.tup xs) S1
def wLst (wa : WA) : WE := fun σ S Q => wa σ S fun xs S1 => xs.length ≤ sizeLine ∧ Q (.obj S1.length) (S1 ++ [.lst xs])
def wCall (sp : Spec) (wa : WA) : WE := fun σ S Q => wa σ S fun ds S1 => sp ds S1 Q noX
def wCb (f : List D → Sto → VKd → Prop) (wa : WA) : WE := fun σ S Q => wa σ S fun ds S1 => f ds S1 Q

/-- an operation of two ints -/
def dI (C : Int → Int → Prop) (g : Int → Int → D) : Op2 := fun x y S Q => match x, y with
  | .int i, .int j => C i j ∧ Q (g i j) S
  | _, _ => False

/-- the lifted reading of a two-place operation -/
def rL (G : Gx) (f : Op2) : R2 := fun x y H Q => ∃ ρ S dx dy Qd, StR G H ρ S ∧ RelD G.K H ρ dx x ∧ RelD G.K H ρ dy y ∧ f dx dy S Qd ∧ Cont G H ρ Qd Q
def uL (G : Gx) (f : D → Sto → VKd → Prop) : V → Hp → VK → Prop := fun x H Q => ∃ ρ S dx Qd, StR G H ρ S ∧ RelD G.K H ρ dx x ∧ f dx S Qd ∧ Cont G H ρ Qd Q
def cL (G : Gx) (f : List D → Sto → VKd → Prop) : List V → Hp → VK → Prop := fun xs H Q => ∃ ρ S ds Qd, StR G H ρ S ∧ RelDs G.K H ρ ds xs ∧ f ds S Qd ∧ Cont G H ρ Qd Q

section
variable {G : Gx} {σ : L2.St} {H : Hp} {Q : VK}
theorem Cont.self {ρ : List Addr} {S : Sto} {Qd : VKd} {d : D} {v : V} (c : Cont G H ρ Qd Q) (s : StR G H ρ S) (r : RelD G.K H ρ d v) (q : Qd d S) : Q v H := c H ρ S d v (Kp.refl H) (List.prefix_refl _) s r q
/-- with a new object of the store -/
theorem Cont.newObj {ρ : List Addr} {S : Sto} {Qd : VKd} {p : Addr} {o : O} {ho : HO} (c : Cont G H ρ Qd Q) (s : StR G H ρ S) (hp : H p = none) (r : RelO G.K (upd H p ho) (ρ ++ [p]) o p) (q : Qd (.obj S.length) (S ++ [o])) : Q (.ref p) (upd H p ho) :=
  c _ _ _ _ _ (Kp.new hp) (List.prefix_append _ _) (s.newObj hp r) (rel_obj (n := S.length) (by rw [← s.len, List.getElem?_append_right (Nat.le_refl _), Nat.sub_self]; rfl)) q
theorem Cont.newLst {ρ : List Addr} {S : Sto} {Qd : VKd} {p : Addr} {ds : List D} {vs : List V} (c : Cont G H ρ Qd Q) (s : StR G H ρ S) (hp : H p = none) (r : RelDs G.K H ρ ds vs) (q : Qd (.obj S.length) (S ++ [.lst ds])) : Q (.ref p) (upd H p (.lst vs)) :=
  c.newObj (o := .lst ds) s hp ⟨vs, upd_same, RelDs.mono (Kp.new hp) (List.prefix_append _ _) _ r⟩ q
theorem Cont.newTup {ρ : List Addr} {S : Sto} {Qd : VKd} {p : Addr} {ds : List D} {vs : List V} (c : Cont G H ρ Qd Q) (s : StR G H ρ S) (hp : H p = none) (r : RelDs G.K H ρ ds vs) (q : Qd (.tup ds) S) : Q (.ref p) (upd H p (.tup vs)) :=
  c _ ρ _ _ _ (Kp.new hp) (List.prefix_refl _) (s.newTup hp) (rel_tup (SqT.of upd_same) (RelDs.mono (Kp.new hp) (List.prefix_refl _) _ r)) q

theorem l_var {i : Nat} (h : lE G (wVar i) σ H Q) : tVar i σ H Q := by
  obtain ⟨ρ, σ', S, Qd, s, sl, w, c⟩ := h
  unfold wVar at w
  split at w
  · rename_i d e
    obtain ⟨v, e2, r⟩ := sl.2 i d e
    exact ⟨v, e2, c.self s r w⟩
  · exact w.elim
theorem l_c {d : D} {v : V} (hv : ∀ H ρ, RelD G.K H ρ d v) (h : lE G (wC d) σ H Q) : tC v σ H Q := by
  obtain ⟨ρ, σ', S, Qd, s, sl, w, c⟩ := h
  exact c.self s (hv _ _) w
theorem l_op {f : Op2} {wa wb : WE} (h : lE G (wOp f wa wb) σ H Q) : tOp (rL G f) (lE G wa) (lE G wb) σ H Q := by
  obtain ⟨ρ, σ', S, Qd, s, sl, w, c⟩ := h
  refine ⟨ρ, σ', S, _, s, sl, w, fun H1 ρ1 S1 dx x k1 p1 s1 r1 w1 => ?_⟩
  refine ⟨ρ1, σ', S1, _, s1, sl.mono k1 p1, w1, fun H2 ρ2 S2 dy y k2 p2 s2 r2 w2 => ?_⟩
  exact ⟨ρ2, S2, dx, dy, Qd, s2, RelD.mono k2 p2 _ r1, r2, w2, c.mono (k1.trans k2) (p1.trans p2)⟩
theorem l_un {f : D → Sto → VKd → Prop} {wa : WE} (h : lE G (wUn f wa) σ H Q) : tUn (uL G f) (lE G wa) σ H Q := by
  obtain ⟨ρ, σ', S, Qd, s, sl, w, c⟩ := h
  exact ⟨ρ, σ', S, _, s, sl, w, fun H1 ρ1 S1 dx x k1 p1 s1 r1 w1 => ⟨ρ1, S1, dx, Qd, s1, r1, w1, c.mono k1 p1⟩⟩
theorem l_nil {Q : List V → Hp → Prop} (h : lA G wNil σ H Q) : tNil σ H Q := by
  obtain ⟨ρ, σ', S, Qd, s, sl, w, c⟩ := h
  exact c H ρ S [] [] (Kp.refl _) (List.prefix_refl _) s RelDs.nil w
theorem l_cons {wa : WE} {wr : WA} {Q : List V → Hp → Prop} (h : lA G (wCons wa wr) σ H Q) : tCons (lE G wa) (lA G wr) σ H Q := by
  obtain ⟨ρ, σ', S, Qd, s, sl, w, c⟩ := h
  refine ⟨ρ, σ', S, _, s, sl, w, fun H1 ρ1 S1 dx x k1 p1 s1 r1 w1 => ?_⟩
  refine ⟨ρ1, σ', S1, _, s1, sl.mono k1 p1, w1, fun H2 ρ2 S2 ds vs k2 p2 s2 r2 w2 => ?_⟩
  exact c H2 ρ2 S2 _ _ (k1.trans k2) (p1.trans p2) s2 (.cons (RelD.mono k2 p2 _ r1) r2) w2
theorem l_tup {wa : WA} (h : lE G (wTup wa) σ H Q) : tTup (lA G wa) σ H Q := by
  obtain ⟨ρ, σ', S, Qd, s, sl, w, c⟩ := h
  refine ⟨ρ, σ', S, _, s, sl, w, fun H1 ρ1 S1 ds vs k1 p1 s1 r1 w1 => ?_⟩
  exact ⟨by rw [← r1.length]; exact w1.1, fun p hp => (c.mono k1 p1).newTup s1 hp r1 w1.2⟩
theorem l_lst {wa : WA} (h : lE G (wLst wa) σ H Q) : tLst (lA G wa) σ H Q := by
  obtain ⟨ρ, σ', S, Qd, s, sl, w, c⟩ := h
  refine ⟨ρ, σ', S, _, s, sl, w, fun H1 ρ1 S1 ds vs k1 p1 s1 r1 w1 => ?_⟩
  exact ⟨by rw [← r1.length]; exact w1.1, fun p hp => (c.mono k1 p1).newLst s1 hp r1 w1.2⟩
theorem l_cb {f : List D → Sto → VKd → Prop} {wa : WA} (h : lE G (wCb f wa) σ H Q) : tCB (cL G f) (lA G wa) σ H Q := by
  obtain ⟨ρ, σ', S, Qd, s, sl, w, c⟩ := h
  refine ⟨ρ, σ', S, _, s, sl, w, fun H1 ρ1 S1 ds vs k1 p1 s1 r1 w1 => ⟨ρ1, S1, ds, Qd, s1, r1, w1, c.mono k1 p1⟩⟩
theorem l_call {sp : Spec} {wa : WA} {n : Nat} (hn : ∀ ds S Q E, sp ds S Q E → ds.length = n) (h : lE G (wCall sp wa) σ H Q) : tCall (lSp G n sp) [] E0 (lA G wa) σ H Q := by
  obtain ⟨ρ, σ', S, Qd, s, sl, w, c⟩ := h
  refine ⟨ρ, σ', S, _, s, sl, w, fun H1 ρ1 S1 ds vs k1 p1 s1 r1 w1 => ?_⟩
  show lSp G n sp (vs ++ []) H1 Q E0
  rw [List.append_nil]
  exact ⟨ρ1, S1, ds, Qd, noX, s1, r1, hn _ _ _ _ w1, w1, c.mono k1 p1, fun _ _ _ _ _ _ _ _ _ _ z => z.elim⟩
end

/-! ### the rules -/
section
variable {X : Cx} {T : List Addr} {a b c : Expr} {pos p : Pos}
abbrev gx (X : Cx) (T : List Addr) : Gx := ⟨X.K, T⟩
/-- e reads as w -/
abbrev RE (X : Cx) (T : List Addr) (e : Expr) (w : WE) : Prop := PE X e (lE (gx X T) w)
abbrev RT (X : Cx) (T : List Addr) (e : Expr) (w : WT) : Prop := PT X e (lT (gx X T) w)
abbrev RA (X : Cx) (T : List Addr) (e : List Expr) (w : WA) : Prop := PA X e (lA (gx X T) w)
abbrev RS (X : Cx) (T : List Addr) (e : Stmt) (w : WS) : Prop := PS X e (lS (gx X T) w)
abbrev RSs (X : Cx) (T : List Addr) (e : List Stmt) (w : WS) : Prop := PSs X e (lS (gx X T) w)
abbrev OpD (X : Cx) (T : List Addr) (f : Value → Value → Sem Value) (g : Op2) : Prop := OpR X f (rL (gx X T) g)

theorem r_var (i : Nat) {x : Str} (hN : X.N[i]? = some x := by rfl) (hv : Vis X.env.scope x := by first | exact Or.inl rfl | exact Or.inr (Or.inl rfl) | exact Or.inr (Or.inr rfl)) (hd : (x == ("__debug__" : Str)) = false := by decide +kernel)
    (hcd : (x == ("__classdict__" : Str)) = false := by decide +kernel) : RE X T (.Name x p) (wVar i) := PE.imp (pe_var hN hv hd hcd) fun _ _ _ => l_var
theorem r_int {i : Int} {j pos} : RE X T (.Constant (.int i) j pos) (wC (.int i)) := PE.imp pe_int fun _ _ _ => l_c fun _ _ => rfl
theorem r_bl {b : Bool} {j pos} : RE X T (.Constant (.bool b) j pos) (wC (.bl b)) := PE.imp pe_bl fun _ _ _ => l_c fun _ _ => rfl
theorem r_non {j pos} : RE X T (.Constant .none j pos) (wC .non) := PE.imp pe_non fun _ _ _ => l_c fun _ _ => rfl
theorem r_str {x : Str} {j pos} : RE X T (.Constant (.str x) j pos) (wC (.str x)) := PE.imp pe_str fun _ _ _ => l_c fun _ _ => rfl
/-- a name of the module -/
theorem r_glob {x : Str} {d : D} {v : V} {u : Value} (hg : Gl X x) (hm : X.mg x = some u) (r : RelV v u) (hv : ∀ H ρ, RelD X.K H ρ d v) (hd : (x == ("__debug__" : Str)) = false := by decide +kernel) : RE X T (.Name x p) (wC d) := PE.imp (pe_glob hg hm r hd) fun _ _ _ => l_c hv
/-- a builtin type as a value -/
theorem r_ty {x : Str} {n : String} (hg : Gl X x) (hm : X.mg x = none) (hv : bootBuiltins x = some (.type n)) (hn : x ≠ "__name__" := by decide +kernel) (hd : (x == ("__debug__" : Str)) = false := by decide +kernel) : RE X T (.Name x p) (wC (.ty n)) :=
  PE.imp (pe_bltn (v := .ty n) hg hm hv rfl hn hd) fun _ _ _ => l_c fun _ _ => rfl
theorem r_op {op : Operator} {f : Op2} (ho : OpD X T (binaryOp op) f) {wa wb : WE} (ha : RE X T a wa) (hb : RE X T b wb) : RE X T (.BinOp a op b pos) (wOp f wa wb) := PE.imp (pe_op ho ha hb) fun _ _ _ => l_op
theorem r_un {op : UnaryOp} {f : D → Sto → VKd → Prop} (ho : UnR X (unaryOp op) (uL (gx X T) f)) {wa : WE} (ha : RE X T a wa) : RE X T (.UnaryOp op a pos) (wUn f wa) := PE.imp (pe_un ho ha) fun _ _ _ => l_un
theorem r_cmp {op : CmpOp} {f : Op2} (ho : OpD X T (compareOp op) f) {wa wb : WE} (ha : RE X T a wa) (hb : RE X T b wb) (hm : behindInMarks op b = false) : RE X T (.Compare a [op] [b] pos) (wOp f wa wb) := PE.imp (pe_cmpR ho ha hb hm) fun _ _ _ => l_op
theorem r_nil : RA X T [] wNil := PA.imp pa_nil fun _ _ _ => l_nil
theorem r_cons {e : Expr} {es : List Expr} {wa : WE} {wr : WA} (ha : RE X T e wa) (hr : RA X T es wr) (hs : starEach (e :: es) X.env = (false, eval e X.env) :: starEach es X.env := by rfl) : RA X T (e :: es) (wCons wa wr) := PA.imp (pa_cons ha hr hs) fun _ _ _ => l_cons
theorem r_tup {es : List Expr} {x1} {wa : WA} (ha : RA X T es wa) : RE X T (.Tuple es x1 pos) (wTup wa) := PE.imp (pe_tup ha) fun _ _ _ => l_tup
theorem r_lst {es : List Expr} {wa : WA} (ha : RA X T es wa) : RE X T (.List es pos) (wLst wa) := PE.imp (pe_lst ha) fun _ _ _ => l_lst
end

/-! ### operators -/
section
variable {X : Cx} {T : List Addr}
/-- an operation by cases on data -/
theorem opD {f : Value → Value → Sem Value} {g : Op2} {r : R2} (h : OpR X f r) (k : ∀ H ρ S dx dy x y Qd Q, StR (gx X T) H ρ S → RelD X.K H ρ dx x → RelD X.K H ρ dy y → g dx dy S Qd → Cont (gx X T) H ρ Qd Q → r x y H Q) : OpD X T f g := by
  intro pins s σ H x y v u Q I rx ry hq
  obtain ⟨ρ, S, dx, dy, Qd, s1, r1, r2, w, c⟩ := hq
  exact h pins s σ H x y v u Q I rx ry (k H ρ S dx dy x y Qd Q s1 r1 r2 w c)
/-- several rules for one operation, by the data -/
theorem OpR.imp {f : Value → Value → Sem Value} {r r' : R2} (h : OpR X f r) (k : ∀ x y H Q, r' x y H Q → r x y H Q) : OpR X f r' := fun pins s σ H x y v u Q I rx ry hq => h pins s σ H x y v u Q I rx ry (k _ _ _ _ hq)
theorem opI {f : Value → Value → Sem Value} {C : Int → Int → Prop} {g : Int → Int → V} {gd : Int → Int → D} (h : OpR X f (rI C g)) (hg : ∀ i j H ρ, RelD X.K H ρ (gd i j) (g i j)) : OpD X T f (dI C gd) := by
  refine opD h fun H ρ S dx dy x y Qd Q s r1 r2 w c => ?_
  unfold dI at w
  split at w
  · exact ⟨_, _, r1, r2, w.1, c.self s (hg _ _ _ _) w.2⟩
  · exact w.elim
theorem opI0 {f : Value → Value → Sem Value} {g : Int → Int → V} {gd : Int → Int → D} (h : OpR X f (rI0 g)) (hg : ∀ i j H ρ, RelD X.K H ρ (gd i j) (g i j)) : OpD X T f (dI (fun _ _ => True) gd) := by
  refine opD h fun H ρ S dx dy x y Qd Q s r1 r2 w c => ?_
  unfold dI at w
  split at w
  · exact ⟨_, _, r1, r2, c.self s (hg _ _ _ _) w.2⟩
  · exact w.elim

/-- + : ints, texts, tuples, lists -/
def dAdd : Op2 := fun x y S Q => match x, y with
  | .int i, .int j => Q (.int (i + j)) S
  | .str i, .str j => i.length + j.length ≤ sizeLine ∧ Q (.str (i ++ j)) S
  | .tup xs, .tup ys => xs.length + ys.length ≤ sizeLine ∧ Q (.tup (xs ++ ys)) S
  | .obj m, .obj n => match S[m]?, S[n]? with
    | some (.lst xs), some (.lst ys) => xs.length + ys.length ≤ sizeLine ∧ Q (.obj S.length) (S ++ [.lst (xs ++ ys)])
    | _, _ => False
  | _, _ => False
theorem o_add : OpD X T (binaryOp .Add) dAdd := by
  refine opD ((op_add.or op_add_str).or (op_catA.or op_cat)) fun H ρ S dx dy x y Qd Q s r1 r2 w c => ?_
  unfold dAdd at w
  split at w
  · exact .inl (.inl ⟨_, _, r1, r2, c.self s rel_int w⟩)
  · exact .inl (.inr ⟨_, _, r1, r2, by exact w.1, c.self s rel_str w.2⟩)
  · obtain ⟨a, us, rfl, q1, rs1⟩ := r1
    obtain ⟨b, vs, rfl, q2, rs2⟩ := r2
    refine .inr (.inl ⟨a, b, us, vs, rfl, rfl, q1, q2, by rw [← rs1.length, ← rs2.length]; exact w.1, ?_⟩)
    have rs := rs1.append rs2
    have one : ∀ {t : Addr}, SqT X.K H t (us ++ vs) → Q (.ref t) H := fun ht => c.self s (rel_tup ht rs) w.2
    exact ⟨fun e => one (by rw [e]; simpa using q2), fun _ e => one (by rw [e]; simpa using q1), fun _ _ p hp => c.newTup s hp rs w.2⟩
  · rename_i m n
    split at w
    · rename_i xs ys e1 e2
      obtain ⟨a, h1, rfl⟩ := r1
      obtain ⟨b, h2, rfl⟩ := r2
      obtain ⟨us, g1, rs1⟩ := s.lst e1 h1
      obtain ⟨vs, g2, rs2⟩ := s.lst e2 h2
      exact .inr (.inr ⟨a, b, us, vs, rfl, rfl, g1, g2, by rw [← rs1.length, ← rs2.length]; exact w.1, fun p hp => c.newLst s hp (rs1.append rs2) w.2⟩)
    · exact w.elim
  · exact w.elim
theorem o_sub : OpD X T (binaryOp .Sub) (dI (fun _ _ => True) fun i j => .int (i - j)) := Px.opI0 op_sub fun _ _ _ _ => rfl
theorem o_mul : OpD X T (binaryOp .Mult) (dI CMul fun i j => .int (i * j)) := Px.opI op_mul fun _ _ _ _ => rfl
theorem o_fdiv : OpD X T (binaryOp .FloorDiv) (dI CDiv fun i j => .int (i / j)) := Px.opI op_fdiv fun _ _ _ _ => rfl
theorem o_mod : OpD X T (binaryOp .Mod) (dI (fun _ j => 0 < j) fun i j => .int (i % j)) := Px.opI op_mod fun _ _ _ _ => rfl
theorem o_pow : OpD X T (binaryOp .Pow) (dI CPow fun i j => .int (i ^ j.toNat)) := Px.opI op_pow fun _ _ _ _ => rfl
/-- a one-place operation of an int -/
def dU (g : Int → D) (x : D) (S : Sto) (Q : VKd) : Prop := match x with
  | .int i => Q (g i) S
  | _ => False
theorem u_neg : UnR X (unaryOp .USub) (uL (gx X T) (dU fun i => .int (-i))) := by
  intro pins s σ H x v Q I rx hq
  obtain ⟨ρ, S, dx, Qd, s1, r1, w, c⟩ := hq
  unfold dU at w
  split at w
  · exact un_neg pins s σ H x v Q I rx ⟨_, r1, c.self s1 rel_int w⟩
  · exact w.elim

/-! ### comparisons -/
/-- <, <=, .. : two ints, two texts -/
def dCmp (p : Int → Int → Bool) (q : Str → Str → Bool) : Op2 := fun x y S Q => match x, y with
  | .int i, .int j => Q (.bl (p i j)) S
  | .str i, .str j => Q (.bl (q i j)) S
  | _, _ => False
theorem o_cmp {op : CmpOp} {p : Int → Int → Bool} {q : Str → Str → Bool} {r : R2} (h : OpR X (compareOp op) (rI0 fun i j => .bl (p i j)))
    (h2 : OpR X (compareOp op) r) (k : ∀ i j H Q, Q (.bl (q i j)) H → r (.str i) (.str j) H Q) : OpD X T (compareOp op) (dCmp p q) := by
  refine opD (h.or h2) fun H ρ S dx dy x y Qd Q s r1 r2 w c => ?_
  unfold dCmp at w
  split at w
  · exact .inl ⟨_, _, r1, r2, c.self s rel_bl w⟩
  · have e1 : x = .str _ := r1
    have e2 : y = .str _ := r2
    subst e1 e2
    exact .inr (k _ _ _ _ (c.self s rel_bl w))
  · exact w.elim
theorem o_lt : OpD X T (compareOp .Lt) (dCmp (fun i j => decide (i < j)) fun i j => decide (i.cps.toList < j.cps.toList)) := o_cmp op_lt op_lt_str fun i j H Q h => ⟨i, j, rfl, rfl, h⟩
/-- of ints alone -/
theorem o_le : OpD X T (compareOp .LtE) (dI (fun _ _ => True) fun i j => .bl (decide (i ≤ j))) := Px.opI0 op_le fun _ _ _ _ => rfl
theorem o_gt : OpD X T (compareOp .Gt) (dI (fun _ _ => True) fun i j => .bl (decide (j < i))) := Px.opI0 op_gt fun _ _ _ _ => rfl
theorem o_ge : OpD X T (compareOp .GtE) (dI (fun _ _ => True) fun i j => .bl (decide (j ≤ i))) := Px.opI0 op_ge fun _ _ _ _ => rfl
theorem o_lti : OpD X T (compareOp .Lt) (dI (fun _ _ => True) fun i j => .bl (decide (i < j))) := Px.opI0 op_lt fun _ _ _ _ => rfl
def isNonD : D → Bool
  | .non => true
  | _ => false
theorem RelD.isNon {K : PySem.W.Frag} {H : Hp} {ρ : List Addr} : ∀ {d : D} {v : V}, RelD K H ρ d v → decide (v = .non) = isNonD d
  | .non, _, h => by have h : _ = V.non := h; rw [h]; rfl
  | .bl _, _, h => by have h : _ = V.bl _ := h; rw [h]; rfl
  | .int _, _, h => by have h : _ = V.int _ := h; rw [h]; rfl
  | .str _, _, h => by have h : _ = V.str _ := h; rw [h]; rfl
  | .ty _, _, h => by have h : _ = V.ty _ := h; rw [h]; rfl
  | .adr _, _, h => by have h : _ = V.ref _ := h; rw [h]; rfl
  | .obj _, _, ⟨a, _, e⟩ => by rw [e]; rfl
  | .tup _, _, ⟨a, _, e, _⟩ => by rw [e]; rfl
  | .sll _, _, ⟨a, _, e, _⟩ => by rw [e]; rfl
/-- x is None, x is not None (the right side written so) -/
def dIs (neg : Bool) : Op2 := fun x y S Q => match y with
  | .non => Q (.bl (if neg then !isNonD x else isNonD x)) S
  | _ => False
theorem o_isN : OpD X T (compareOp .Is) (dIs false) := by
  refine opD op_isN fun H ρ S dx dy x y Qd Q s r1 r2 w c => ?_
  unfold dIs at w
  split at w
  · exact ⟨r2, by rw [r1.isNon]; exact c.self s rel_bl w⟩
  · exact w.elim
theorem o_notN : OpD X T (compareOp .IsNot) (dIs true) := by
  refine opD op_notN fun H ρ S dx dy x y Qd Q s r1 r2 w c => ?_
  unfold dIs at w
  split at w
  · exact ⟨r2, by rw [r1.isNon]; exact c.self s rel_bl w⟩
  · exact w.elim

/-! #### == of data -/
mutual
def toPy : D → PyData
  | .non => .none
  | .bl b => .bool b
  | .int i => .int i
  | .str x => .str x
  | .tup xs => .tuple (toPys xs)
  | .sll _ => .none
  | .ty _ => .none
  | .adr _ => .none
  | .obj _ => .none
def toPys : List D → List PyData
  | [] => []
  | d :: ds => toPy d :: toPys ds
end
mutual
/-- plain data, not too deep -/
def pl : Nat → D → Bool
  | _, .non => true
  | _, .bl _ => true
  | _, .int _ => true
  | _, .str x => PyData.strOk x
  | 0, .tup _ => false
  | n + 1, .tup xs => pls n xs
  | _, .ty _ => false
  | _, .adr _ => false
  | _, .obj _ => false
  | _, .sll _ => false
def pls : Nat → List D → Bool
  | _, [] => true
  | n, d :: ds => pl n d && pls n ds
end
mutual
theorem Dp.of {K : PySem.W.Frag} {H : Hp} {ρ : List Addr} : ∀ (n : Nat) (d : D) {v : V}, pl n d = true → RelD K H ρ d v → Dp K H v (toPy d)
  | _, .non, _, _, h => by have h : _ = V.non := h; rw [h]; exact Dp.non
  | _, .bl b, _, _, h => by have h : _ = V.bl b := h; rw [h]; exact Dp.bl b
  | _, .int b, _, _, h => by have h : _ = V.int b := h; rw [h]; exact Dp.int b
  | _, .str b, _, _, h => by have h : _ = V.str b := h; rw [h]; exact Dp.str b
  | 0, .tup _, _, p, _ => by simp [pl] at p
  | n + 1, .tup xs, _, p, ⟨a, vs, e, q, r⟩ => by
    rw [e]
    exact Dp.tup q (DpAll.of n xs (by simpa [pl] using p) r)
  | _, .ty _, _, p, _ => by simp [pl] at p
  | _, .adr _, _, p, _ => by simp [pl] at p
  | _, .obj _, _, p, _ => by simp [pl] at p
  | _, .sll _, _, p, _ => by simp [pl] at p
theorem DpAll.of {K : PySem.W.Frag} {H : Hp} {ρ : List Addr} : ∀ (n : Nat) (ds : List D) {vs : List V}, pls n ds = true → RelDs K H ρ ds vs → DpAll K H vs (toPys ds)
  | _, [], _, _, h => by have h : _ = [] := h; rw [h]; exact DpAll.nil
  | n, d :: ds, _, p, ⟨v, vr, e, q, r⟩ => by
    rw [e]
    have p' : pl n d = true ∧ pls n ds = true := by simpa [pls] using p
    exact DpAll.cons (Dp.of n d p'.1 q) (DpAll.of n ds p'.2 r)
end
mutual
theorem lay_of : ∀ (n : Nat) (d : D), pl n d = true → (toPy d).canLay0 = true ∧ (toPy d).depth ≤ n
  | _, .non, _ => ⟨by simp [toPy, PyData.canLay0], by simp [toPy, PyData.depth]⟩
  | _, .bl b, _ => ⟨by simp [toPy, PyData.canLay0], by simp [toPy, PyData.depth]⟩
  | _, .int b, _ => ⟨by simp [toPy, PyData.canLay0], by simp [toPy, PyData.depth]⟩
  | _, .str b, p => ⟨by simpa [toPy, PyData.canLay0, pl] using p, by simp [toPy, PyData.depth]⟩
  | 0, .tup _, p => by simp [pl] at p
  | n + 1, .tup xs, p => by
    obtain ⟨h1, h2⟩ := lays_of n xs (by simpa [pl] using p)
    exact ⟨by simpa [toPy, PyData.canLay0] using h1, by simp only [toPy, PyData.depth]; omega⟩
  | _, .ty _, p => by simp [pl] at p
  | _, .adr _, p => by simp [pl] at p
  | _, .obj _, p => by simp [pl] at p
  | _, .sll _, p => by simp [pl] at p
theorem lays_of : ∀ (n : Nat) (ds : List D), pls n ds = true → PyData.canLayAll0 (toPys ds) = true ∧ PyData.depthAll (toPys ds) ≤ n
  | _, [], _ => ⟨by simp [toPys, PyData.canLayAll0], by simp [toPys, PyData.depthAll]⟩
  | n, d :: ds, p => by
    have p' : pl n d = true ∧ pls n ds = true := by simpa [pls] using p
    obtain ⟨a1, a2⟩ := lay_of n d p'.1
    obtain ⟨b1, b2⟩ := lays_of n ds p'.2
    exact ⟨by simp [toPys, PyData.canLayAll0, a1, b1], by simp only [toPys, PyData.depthAll]; omega⟩
end
theorem shaped_of {n : Nat} {d : D} (hn : n ≤ 64) (p : pl n d = true) : SeqAt.shaped (toPy d) = true := by
  obtain ⟨h1, h2⟩ := lay_of n d p
  unfold SeqAt.shaped
  rw [h1, decide_eq_true (by omega : (toPy d).depth ≤ 64)]
  rfl
/-- what a value is, by the store: a list is read -/
def datum (S : Sto) : D → Option PyData
  | .obj n => match S[n]? with
    | some (.lst xs) => if pls 20 xs then some (.list (toPys xs)) else none
    | _ => none
  | .sll xs => if pls 20 xs then some (.list (toPys xs)) else none
  | d => if pl 20 d then some (toPy d) else none
theorem datum_ok {H : Hp} {ρ : List Addr} {S : Sto} {G : Gx} {d : D} {v : V} {p : PyData} (s : StR G H ρ S) (r : RelD G.K H ρ d v) (h : datum S d = some p) : Dp G.K H v p ∧ SeqAt.shaped p = true := by
  have one : ∀ {xs : List D} {us : List V} {a : Addr}, pls 20 xs = true → SqL G.K H a us → RelDs G.K H ρ xs us → Dp G.K H (.ref a) (.list (toPys xs)) ∧ SeqAt.shaped (.list (toPys xs)) = true := fun {xs us a} hp q rs => by
    obtain ⟨h1, h2⟩ := lays_of 20 xs hp
    refine ⟨Dp.lst q (DpAll.of 20 xs hp rs), ?_⟩
    unfold SeqAt.shaped
    rw [show PyData.canLay0 (.list (toPys xs)) = true by simpa [PyData.canLay0] using h1, decide_eq_true (by simp only [PyData.depth]; omega : PyData.depth (.list (toPys xs)) ≤ 64)]
    rfl
  have flat : (if pl 20 d then some (toPy d) else none) = some p → Dp G.K H v p ∧ SeqAt.shaped p = true := fun h => by
    by_cases hp : pl 20 d = true
    · rw [if_pos hp] at h
      cases h
      exact ⟨Dp.of 20 d hp r, shaped_of (by decide) hp⟩
    · rw [if_neg hp] at h; cases h
  cases d with
  | obj n =>
    obtain ⟨a, ha, rfl⟩ := r
    simp only [datum] at h
    cases e : S[n]? with
    | none => rw [e] at h; cases h
    | some o =>
      rw [e] at h
      obtain ⟨b, hb, q⟩ := s.ob n o e
      rw [ha] at hb; cases hb
      cases o with
      | lst xs =>
        obtain ⟨us, e1, rs⟩ := q
        by_cases hp : pls 20 xs = true
        · simp only [hp, if_true] at h
          cases h
          exact one hp (SqL.of e1) rs
        · simp only [hp] at h; cases h
      | _ => cases h
  | sll xs =>
    obtain ⟨a, us, rfl, e1, rs⟩ := r
    simp only [datum] at h
    by_cases hp : pls 20 xs = true
    · simp only [hp, if_true] at h
      cases h
      exact one hp e1.sq rs
    · simp only [hp] at h; cases h
  | _ => exact flat h
def dEq (neg : Bool) : Op2 := fun x y S Q => match datum S x, datum S y with
  | some p, some q => Q (.bl (if neg then !PyData.eqv p q else PyData.eqv p q)) S
  | _, _ => False
theorem o_eq {k : Nat} (hr : Room k X.A) : OpD X T (compareOp .Eq) (dEq false) := by
  refine opD (op_eqD hr.units) fun H ρ S dx dy x y Qd Q s r1 r2 w c => ?_
  unfold dEq at w
  split at w
  · rename_i p q e1 e2
    obtain ⟨d1, s1⟩ := datum_ok s r1 e1
    obtain ⟨d2, s2⟩ := datum_ok s r2 e2
    exact ⟨p, q, d1, d2, s1, s2, c.self s rel_bl w⟩
  · exact w.elim
theorem o_ne {k : Nat} (hr : Room k X.A) : OpD X T (compareOp .NotEq) (dEq true) := by
  refine opD (op_neD hr.units) fun H ρ S dx dy x y Qd Q s r1 r2 w c => ?_
  unfold dEq at w
  split at w
  · rename_i p q e1 e2
    obtain ⟨d1, s1⟩ := datum_ok s r1 e1
    obtain ⟨d2, s2⟩ := datum_ok s r2 e2
    exact ⟨p, q, d1, d2, s1, s2, c.self s rel_bl w⟩
  · exact w.elim

/-! #### in, not in: flat items -/
def flatD : D → Bool
  | .non => true
  | .bl _ => true
  | .int _ => true
  | .str _ => true
  | _ => false
def toV : D → V
  | .non => .non
  | .bl b => .bl b
  | .int i => .int i
  | .str x => .str x
  | _ => .non
theorem toV_of {K : PySem.W.Frag} {H : Hp} {ρ : List Addr} : ∀ {d : D} {v : V}, flatD d = true → RelD K H ρ d v → v = toV d ∧ flatV v = true
  | .non, _, _, h => by have h : _ = V.non := h; rw [h]; exact ⟨rfl, rfl⟩
  | .bl _, _, _, h => by have h : _ = V.bl _ := h; rw [h]; exact ⟨rfl, rfl⟩
  | .int _, _, _, h => by have h : _ = V.int _ := h; rw [h]; exact ⟨rfl, rfl⟩
  | .str _, _, _, h => by have h : _ = V.str _ := h; rw [h]; exact ⟨rfl, rfl⟩
  | .ty _, _, f, _ => by simp [flatD] at f
  | .adr _, _, f, _ => by simp [flatD] at f
  | .obj _, _, f, _ => by simp [flatD] at f
  | .tup _, _, f, _ => by simp [flatD] at f
  | .sll _, _, f, _ => by simp [flatD] at f
theorem toVs_of {K : PySem.W.Frag} {H : Hp} {ρ : List Addr} : ∀ {ds : List D} {vs : List V}, ds.all flatD = true → RelDs K H ρ ds vs → vs = ds.map toV ∧ vs.all flatV = true
  | [], _, _, h => by have h : _ = [] := h; rw [h]; exact ⟨rfl, rfl⟩
  | d :: ds, _, f, ⟨v, vr, e, q, r⟩ => by
    rw [List.all_cons, Bool.and_eq_true] at f
    obtain ⟨h1, h2⟩ := toV_of f.1 q
    obtain ⟨h3, h4⟩ := toVs_of f.2 r
    rw [e, h1, h3]
    rw [h1] at h2
    rw [h3] at h4
    exact ⟨rfl, by rw [List.all_cons, h2, h4]; rfl⟩
def inD (x : D) (xs : List D) : Bool := inV (toV x) (xs.map toV)
def dIn (neg : Bool) : Op2 := fun x y S Q => match y with
  | .tup xs => flatD x = true ∧ xs.all flatD = true ∧ Q (.bl (if neg then !inD x xs else inD x xs)) S
  | .obj n => match S[n]? with
    | some (.lst xs) => flatD x = true ∧ xs.all flatD = true ∧ Q (.bl (if neg then !inD x xs else inD x xs)) S
    | _ => False
  | _ => False
theorem dIn_ok {neg : Bool} {H : Hp} {ρ : List Addr} {S : Sto} {dx dy : D} {x y : V} {Qd : VKd} {Q : VK} (s : StR (gx X T) H ρ S) (r1 : RelD X.K H ρ dx x) (r2 : RelD X.K H ρ dy y) (w : dIn neg dx dy S Qd) (c : Cont (gx X T) H ρ Qd Q) : rIn X.K neg x y H Q := by
  unfold dIn at w
  split at w
  · obtain ⟨a, vs, e, q, rs⟩ := r2
    obtain ⟨f1, f2, w⟩ := w
    obtain ⟨h1, h2⟩ := toV_of f1 r1
    obtain ⟨h3, h4⟩ := toVs_of f2 rs
    refine ⟨a, vs, e, .inr q, h2, h4, ?_⟩
    rw [h1, h3]
    exact c.self s rel_bl w
  · split at w
    · rename_i xs e0
      obtain ⟨a, ha, e⟩ := r2
      obtain ⟨f1, f2, w⟩ := w
      obtain ⟨vs, q, rs⟩ := s.lst e0 ha
      obtain ⟨h1, h2⟩ := toV_of f1 r1
      obtain ⟨h3, h4⟩ := toVs_of f2 rs
      refine ⟨a, vs, e, .inl (SqL.of q), h2, h4, ?_⟩
      rw [h1, h3]
      exact c.self s rel_bl w
    · exact w.elim
  · exact w.elim
theorem o_in : OpD X T (compareOp .In) (dIn false) := opD op_in_seq fun H ρ S dx dy x y Qd Q s r1 r2 w c => dIn_ok s r1 r2 w c
theorem o_nin : OpD X T (compareOp .NotIn) (dIn true) := opD op_notIn_seq fun H ρ S dx dy x y Qd Q s r1 r2 w c => dIn_ok s r1 r2 w c
end

/-! ### chains, tests -/
def wChain (f g : Op2) (wa wb wc : WE) : WE := fun σ S Q => wa σ S fun x S1 => wb σ S1 fun y S2 => f x y S2 fun z S3 => match z with
  | .bl true => wc σ S3 fun u S4 => g y u S4 Q
  | .bl false => Q (.bl false) S3
  | _ => False
def wB (wa : WE) : WT := fun σ S Q => wa σ S fun x S1 => match x with
  | .bl b => Q b S1
  | _ => False
def dTru (S : Sto) : D → (Bool → Prop) → Prop := fun x Q => match x with
  | .non => Q false
  | .bl b => Q b
  | .int i => Q (i != 0)
  | .str y => y.length ≤ sizeLine ∧ Q ((y.length : Int) != 0)
  | .tup xs => Q (!xs.isEmpty)
  | .obj n => match S[n]? with
    | some (.lst xs) => Q (!xs.isEmpty)
    | some (.dct kvs) => Q (!kvs.isEmpty)
    | _ => False
  | _ => False
def wTru (wa : WE) : WT := fun σ S Q => wa σ S fun x S1 => dTru S1 x fun b => Q b S1
def wAnd (t u : WT) : WT := fun σ S Q => t σ S fun b S1 => if b = true then u σ S1 Q else Q false S1
def wOr (t u : WT) : WT := fun σ S Q => t σ S fun b S1 => if b = true then Q true S1 else u σ S1 Q
def wNot (t : WT) : WT := fun σ S Q => t σ S fun b S1 => Q (!b) S1
def wAndV (t : WE) (u : WE) : WE := fun σ S Q => t σ S fun x S1 => match x with
  | .bl true => u σ S1 Q
  | .bl false => Q (.bl false) S1
  | _ => False
def wOrV (t : WE) (u : WE) : WE := fun σ S Q => t σ S fun x S1 => match x with
  | .bl true => Q (.bl true) S1
  | .bl false => u σ S1 Q
  | _ => False
def wNotV (t : WE) : WE := fun σ S Q => t σ S fun x S1 => match x with
  | .bl b => Q (.bl (!b)) S1
  | _ => False
def wIf (t : WT) (a b : WE) : WE := fun σ S Q => t σ S fun c S1 => if c = true then a σ S1 Q else b σ S1 Q
section
variable {G : Gx} {σ : L2.St} {H : Hp}
theorem l_chain {f g : Op2} {wa wb wc : WE} {Q : VK} (h : lE G (wChain f g wa wb wc) σ H Q) : tChain (rL G f) (rL G g) (lE G wa) (lE G wb) (lE G wc) σ H Q := by
  obtain ⟨ρ, σ', S, Qd, s, sl, w, c⟩ := h
  refine ⟨ρ, σ', S, _, s, sl, w, fun H1 ρ1 S1 dx x k1 p1 s1 r1 w1 => ?_⟩
  refine ⟨ρ1, σ', S1, _, s1, sl.mono k1 p1, w1, fun H2 ρ2 S2 dy y k2 p2 s2 r2 w2 => ?_⟩
  refine ⟨ρ2, S2, dx, dy, _, s2, RelD.mono k2 p2 _ r1, r2, w2, fun H3 ρ3 S3 dz z k3 p3 s3 r3 w3 => ?_⟩
  have kk := k2.trans k3
  have pp := p2.trans p3
  cases dz with
  | bl b =>
    refine ⟨b, r3, ?_⟩
    cases b with
    | true =>
      refine iteT ⟨ρ3, σ', S3, _, s3, sl.mono (k1.trans kk) (p1.trans pp), w3, fun H4 ρ4 S4 du u k4 p4 s4 r4 w4 => ?_⟩
      exact ⟨ρ4, S4, dy, du, Qd, s4, RelD.mono (k3.trans k4) (p3.trans p4) _ r2, r4, w4, c.mono ((k1.trans kk).trans k4) ((p1.trans pp).trans p4)⟩
    | false => exact iteF ((c.mono (k1.trans kk) (p1.trans pp)).self s3 rel_bl w3)
  | _ => exact w3.elim
theorem l_B {wa : WE} {Q : Bool → Hp → Prop} (h : lT G (wB wa) σ H Q) : tTest (lE G wa) σ H Q := by
  obtain ⟨ρ, σ', S, Qd, s, sl, w, c⟩ := h
  refine ⟨ρ, σ', S, _, s, sl, w, fun H1 ρ1 S1 dx x k1 p1 s1 r1 w1 => ?_⟩
  cases dx with
  | bl b => exact ⟨b, r1, c H1 ρ1 S1 b k1 p1 s1 w1⟩
  | _ => exact w1.elim
theorem tru_of {S : Sto} {ρ : List Addr} {d : D} {v : V} {Qd : Bool → Prop} (s : StR G H ρ S) (r : RelD G.K H ρ d v) (h : dTru S d Qd) : ∃ k, TruV G.K v H k ∧ Qd k := by
  have emp : ∀ {xs : List D} {vs : List V}, RelDs G.K H ρ xs vs → (!xs.isEmpty) = !vs.isEmpty := fun {xs vs} r => by
    have := r.length
    cases xs <;> cases vs <;> simp_all
  cases d with
  | non => have r : v = .non := r; subst r; exact ⟨_, rfl, h⟩
  | bl b => have r : v = .bl b := r; subst r; exact ⟨_, rfl, h⟩
  | int i => have r : v = .int i := r; subst r; exact ⟨_, rfl, h⟩
  | str x => have r : v = .str x := r; subst r; exact ⟨_, ⟨h.1, rfl⟩, h.2⟩
  | tup xs =>
    obtain ⟨a, vs, rfl, q, rs⟩ := r
    exact ⟨_, .inr (.inl ⟨vs, q, emp rs⟩), h⟩
  | obj n =>
    obtain ⟨a, ha, rfl⟩ := r
    simp only [dTru] at h
    split at h
    · rename_i xs e0
      obtain ⟨vs, q, rs⟩ := s.lst e0 ha
      exact ⟨_, .inl ⟨vs, SqL.of q, emp rs⟩, h⟩
    · rename_i kvs e0
      obtain ⟨b, hb, q⟩ := s.ob n _ e0
      rw [ha] at hb; cases hb
      obtain ⟨us, q, rs⟩ := q
      refine ⟨_, .inr (.inr ⟨us, q, ?_⟩), h⟩
      cases kvs with
      | nil => have rs : us = [] := rs; rw [rs]; rfl
      | cons kd r =>
        obtain ⟨k, d⟩ := kd
        obtain ⟨v, vr, e, _⟩ := rs
        rw [e]; rfl
    · exact h.elim
  | ty _ => exact h.elim
  | adr _ => exact h.elim
  | sll _ => exact h.elim
theorem l_tru {wa : WE} {Q : Bool → Hp → Prop} (h : lT G (wTru wa) σ H Q) : (fun σ H Q => lE G wa σ H fun x H' => ∃ k, TruV G.K x H' k ∧ Q k H' : TT) σ H Q := by
  obtain ⟨ρ, σ', S, Qd, s, sl, w, c⟩ := h
  refine ⟨ρ, σ', S, _, s, sl, w, fun H1 ρ1 S1 dx x k1 p1 s1 r1 w1 => ?_⟩
  obtain ⟨k, t, q⟩ := tru_of s1 r1 w1
  exact ⟨k, t, c H1 ρ1 S1 k k1 p1 s1 q⟩
theorem l_and {t u : WT} {Q : Bool → Hp → Prop} (h : lT G (wAnd t u) σ H Q) : tAnd (lT G t) (lT G u) σ H Q := by
  obtain ⟨ρ, σ', S, Qd, s, sl, w, c⟩ := h
  refine ⟨ρ, σ', S, _, s, sl, w, fun H1 ρ1 S1 b k1 p1 s1 w1 => ?_⟩
  cases b with
  | true => exact iteT ⟨ρ1, σ', S1, Qd, s1, sl.mono k1 p1, w1, c.mono k1 p1⟩
  | false => exact iteF (c H1 ρ1 S1 false k1 p1 s1 w1)
theorem l_or {t u : WT} {Q : Bool → Hp → Prop} (h : lT G (wOr t u) σ H Q) : tOr (lT G t) (lT G u) σ H Q := by
  obtain ⟨ρ, σ', S, Qd, s, sl, w, c⟩ := h
  refine ⟨ρ, σ', S, _, s, sl, w, fun H1 ρ1 S1 b k1 p1 s1 w1 => ?_⟩
  cases b with
  | true => exact iteT (c H1 ρ1 S1 true k1 p1 s1 w1)
  | false => exact iteF ⟨ρ1, σ', S1, Qd, s1, sl.mono k1 p1, w1, c.mono k1 p1⟩
theorem l_not {t : WT} {Q : Bool → Hp → Prop} (h : lT G (wNot t) σ H Q) : tNot (lT G t) σ H Q := by
  obtain ⟨ρ, σ', S, Qd, s, sl, w, c⟩ := h
  exact ⟨ρ, σ', S, _, s, sl, w, fun H1 ρ1 S1 b k1 p1 s1 w1 => c H1 ρ1 S1 _ k1 p1 s1 w1⟩
theorem l_andV {t u : WE} {Q : VK} (h : lE G (wAndV t u) σ H Q) : tAndV (lE G t) (lE G u) σ H Q := by
  obtain ⟨ρ, σ', S, Qd, s, sl, w, c⟩ := h
  refine ⟨ρ, σ', S, _, s, sl, w, fun H1 ρ1 S1 dx x k1 p1 s1 r1 w1 => ?_⟩
  cases dx with
  | bl b =>
    refine ⟨b, r1, ?_⟩
    cases b with
    | true => exact iteT ⟨ρ1, σ', S1, Qd, s1, sl.mono k1 p1, w1, c.mono k1 p1⟩
    | false => exact iteF ((c.mono k1 p1).self s1 rel_bl w1)
  | _ => exact w1.elim
theorem l_orV {t u : WE} {Q : VK} (h : lE G (wOrV t u) σ H Q) : tOrV (lE G t) (lE G u) σ H Q := by
  obtain ⟨ρ, σ', S, Qd, s, sl, w, c⟩ := h
  refine ⟨ρ, σ', S, _, s, sl, w, fun H1 ρ1 S1 dx x k1 p1 s1 r1 w1 => ?_⟩
  cases dx with
  | bl b =>
    refine ⟨b, r1, ?_⟩
    cases b with
    | true => exact iteT ((c.mono k1 p1).self s1 rel_bl w1)
    | false => exact iteF ⟨ρ1, σ', S1, Qd, s1, sl.mono k1 p1, w1, c.mono k1 p1⟩
  | _ => exact w1.elim
theorem l_notV {t : WE} {Q : VK} (h : lE G (wNotV t) σ H Q) : tNotV (lE G t) σ H Q := by
  obtain ⟨ρ, σ', S, Qd, s, sl, w, c⟩ := h
  refine ⟨ρ, σ', S, _, s, sl, w, fun H1 ρ1 S1 dx x k1 p1 s1 r1 w1 => ?_⟩
  cases dx with
  | bl b => exact ⟨b, r1, (c.mono k1 p1).self s1 rel_bl w1⟩
  | _ => exact w1.elim
theorem l_if {t : WT} {a b : WE} {Q : VK} (h : lE G (wIf t a b) σ H Q) : tIf (lT G t) (lE G a) (lE G b) σ H Q := by
  obtain ⟨ρ, σ', S, Qd, s, sl, w, c⟩ := h
  refine ⟨ρ, σ', S, _, s, sl, w, fun H1 ρ1 S1 b k1 p1 s1 w1 => ?_⟩
  cases b with
  | true => exact iteT ⟨ρ1, σ', S1, Qd, s1, sl.mono k1 p1, w1, c.mono k1 p1⟩
  | false => exact iteF ⟨ρ1, σ', S1, Qd, s1, sl.mono k1 p1, w1, c.mono k1 p1⟩
end
section
variable {X : Cx} {T : List Addr} {a b c : Expr} {pos p : Pos} {rest : List Expr} {wa wb wc : WE} {ta tb : WT}
theorem r_chain {op op' : CmpOp} {f g : Op2} (ho : OpD X T (compareOp op) f) (ho' : OpD X T (compareOp op') g) (ha : RE X T a wa) (hb : RE X T b wb) (hc : RE X T c wc)
    (hm : lastMarks [op, op'] [b, c] = false := by with_unfolding_all rfl) : RE X T (.Compare a [op, op'] [b, c] pos) (wChain f g wa wb wc) := PE.imp (pe_chain ho ho' ha hb hc hm) fun _ _ _ => l_chain
theorem t_chain {op op' : CmpOp} {f g : Op2} (ho : OpD X T (compareOp op) f) (ho' : OpD X T (compareOp op') g) (ha : RE X T a wa) (hb : RE X T b wb) (hc : RE X T c wc)
    (hm : lastMarks [op, op'] [b, c] = false := by with_unfolding_all rfl) : RT X T (.Compare a [op, op'] [b, c] pos) (wB (wChain f g wa wb wc)) := PT.imp (pt_chain ho ho' ha hb hc hm) fun σ H Q h => by
  obtain ⟨ρ, σ', S, Qd, s, sl, w, c⟩ := h
  show tChain _ _ _ _ _ σ H fun x H' => ∃ k, x = .bl k ∧ Q k H'
  refine l_chain ⟨ρ, σ', S, _, s, sl, w, fun H1 ρ1 S1 dx x k1 p1 s1 r1 w1 => ?_⟩
  cases dx with
  | bl b => exact ⟨b, r1, c H1 ρ1 S1 b k1 p1 s1 w1⟩
  | _ => exact w1.elim
theorem t_cmp {op : CmpOp} {f : Op2} (ho : OpD X T (compareOp op) f) (ha : RE X T a wa) (hb : RE X T b wb) (hm : behindInMarks op b = false) : RT X T (.Compare a [op] [b] pos) (wB (wOp f wa wb)) := PT.imp (pt_cmpR ho ha hb hm) fun σ H Q h => by
  obtain ⟨ρ, σ', S, Qd, s, sl, w, c⟩ := h
  show tOp _ _ _ σ H fun x H' => ∃ k, x = .bl k ∧ Q k H'
  refine l_op ⟨ρ, σ', S, _, s, sl, w, fun H1 ρ1 S1 dx x k1 p1 s1 r1 w1 => ?_⟩
  cases dx with
  | bl b => exact ⟨b, r1, c H1 ρ1 S1 b k1 p1 s1 w1⟩
  | _ => exact w1.elim
/-- any other expression as a test -/
theorem t_tru (ha : RE X T a wa) (he : ∀ whole, isTrue a X.env whole = (do let v ← whole; standAt a.pos; holding [v] (truthy v)) := by intro _; rfl) : RT X T a (wTru wa) := PT.imp (pt_truth ha he) fun _ _ _ => l_tru
theorem t_not (ha : RT X T a ta) : RT X T (.UnaryOp .Not a pos) (wNot ta) := PT.imp (pt_not ha) fun _ _ _ => l_not
abbrev RW (X : Cx) (T : List Addr) (e : Expr) (w : WT) : Prop := PW X e (lT (gx X T) w)
theorem w_and1 (ha : RT X T a ta) : RW X T (.BoolOp .And [a] pos) ta := pw_and1 ha
theorem w_or1 (ha : RT X T a ta) : RW X T (.BoolOp .Or [a] pos) ta := pw_or1 ha
theorem w_and (ha : RT X T a ta) (hb : RW X T (.BoolOp .And (b :: rest) pos) tb) : RW X T (.BoolOp .And (a :: b :: rest) pos) (wAnd ta tb) := PW.imp (pw_and ha hb) fun _ _ _ => l_and
theorem w_or (ha : RT X T a ta) (hb : RW X T (.BoolOp .Or (b :: rest) pos) tb) : RW X T (.BoolOp .Or (a :: b :: rest) pos) (wOr ta tb) := PW.imp (pw_or ha hb) fun _ _ _ => l_or
theorem t_w (h : RW X T a ta) : RT X T a ta := h.pt
theorem r_and (ha : RE X T a wa) (hb : RE X T (.BoolOp .And (b :: rest) pos) wb) : RE X T (.BoolOp .And (a :: b :: rest) pos) (wAndV wa wb) := PE.imp (pe_and ha hb) fun _ _ _ => l_andV
theorem r_or (ha : RE X T a wa) (hb : RE X T (.BoolOp .Or (b :: rest) pos) wb) : RE X T (.BoolOp .Or (a :: b :: rest) pos) (wOrV wa wb) := PE.imp (pe_or ha hb) fun _ _ _ => l_orV
theorem r_one {op} (ha : RE X T a wa) : RE X T (.BoolOp op [a] pos) wa := pe_one ha
theorem r_not (ha : RE X T a wa) : RE X T (.UnaryOp .Not a pos) (wNotV wa) := PE.imp (pe_not ha) fun _ _ _ => l_notV
theorem r_if (hc : RT X T c ta) (ha : RE X T a wa) (hb : RE X T b wb) : RE X T (.IfExp c a b pos) (wIf ta wa wb) := PE.imp (pe_ifExp hc ha hb) fun _ _ _ => l_if
end
end Px
/-! Px2: subscripts, slices, built-in functions and methods, dicts. -/
namespace Px
open PySem PySem.Spec PyProof.Rows L2

section
variable {X : Cx} {T : List Addr}
/-! ### the items of a list or tuple -/
/-- the items of a list, a tuple, a frozen list, by the store -/
def items (S : Sto) : D → Option (List D)
  | .tup xs => some xs
  | .sll xs => some xs
  | .obj n => match S[n]? with
    | some (.lst xs) => some xs
    | _ => none
  | _ => none
theorem items_ok {G : Gx} {H : Hp} {ρ : List Addr} {S : Sto} {d : D} {v : V} {xs : List D} (s : StR G H ρ S) (r : RelD G.K H ρ d v) (h : items S d = some xs) : ∃ a vs, v = .ref a ∧ (SqL G.K H a vs ∨ SqT G.K H a vs) ∧ RelDs G.K H ρ xs vs := by
  cases d with
  | tup ds =>
    obtain ⟨a, vs, e, q, rs⟩ := r
    cases h
    exact ⟨a, vs, e, .inr q, rs⟩
  | sll ds =>
    obtain ⟨a, vs, e, q, rs⟩ := r
    cases h
    exact ⟨a, vs, e, .inl q.sq, rs⟩
  | obj n =>
    obtain ⟨a, ha, e⟩ := r
    simp only [items] at h
    split at h
    · rename_i ys e0
      cases h
      obtain ⟨vs, q, rs⟩ := s.lst e0 ha
      exact ⟨a, vs, e, .inl (SqL.of q), rs⟩
    · cases h
  | _ => cases h
theorem atI_rel {K : PySem.W.Frag} {H : Hp} {ρ : List Addr} {ds : List D} {vs : List V} {i : Int} {d : D} (r : RelDs K H ρ ds vs) (h : atI ds i = some d) : ∃ v, atI vs i = some v ∧ RelD K H ρ d v := by
  unfold atI at h ⊢
  rw [← r.length]
  cases e : ixN ds.length i with
  | none => rw [e] at h; cases h
  | some j =>
    rw [e] at h
    obtain ⟨v, h1, h2⟩ := r.get (i := j) h
    exact ⟨v, h1, h2⟩
/-- o[i] of a list, a tuple, a text -/
def dIx : Op2 := fun x y S Q => match x, y with
  | .str z, .int i => z.length ≤ sizeLine ∧ (match atI z.cps.toList i with
    | some c => Q (.str ⟨#[c]⟩) S
    | none => False)
  | d, .int i => (match items S d with
    | some xs => (match atI xs i with
      | some e => Q e S
      | none => False)
    | none => False)
  | _, _ => False
theorem ix_ok : IxR X (rL (gx X T) dIx) := by
  intro value slice pins s σ H x y v u Q I rx ry hq hs
  obtain ⟨ρ, S, dx, dy, Qd, s1, r1, r2, w, c⟩ := hq
  refine (ix_seq (X := X)) value slice pins s σ H x y v u Q I rx ry ?_ hs
  unfold dIx at w
  split at w
  · obtain ⟨hz, w⟩ := w
    split at w
    · rename_i ch e
      exact .inr (.inr ⟨_, _, _, r1, r2, hz, e, c.self s1 rel_str w⟩)
    · exact w.elim
  · split at w
    · rename_i i _ _ xs e0
      obtain ⟨a, vs, e1, q, rs⟩ := items_ok s1 r1 e0
      split at w
      · rename_i e2 ei
        obtain ⟨vv, h1, h2⟩ := atI_rel rs ei
        rcases q with q | q
        · exact .inl ⟨a, vs, i, vv, e1, r2, q, h1, c.self s1 h2 w⟩
        · exact .inr (.inl ⟨a, vs, i, vv, e1, r2, q, h1, c.self s1 h2 w⟩)
      · exact w.elim
    · exact w.elim
  · exact w.elim
theorem r_ix {a b : Expr} {pos : Pos} {wa wb : WE} (ha : RE X T a wa) (hb : RE X T b wb) (hs : PlainIx b := by intro _ _; rfl) : RE X T (.Subscript a b pos) (wOp dIx wa wb) := PE.imp (pe_ix ix_ok ha hb hs) fun _ _ _ => l_op

/-! ### slices -/
abbrev WO := Sl → Sto → (Option Int → Sto → Prop) → Prop
def lO (G : Gx) (w : WO) : TO := fun τ H Q => ∃ ρ σ S Qd, StR G H ρ S ∧ SlR G.K H ρ σ τ ∧ w σ S Qd ∧ ∀ H' ρ' S' o, Kp H H' → ρ <+: ρ' → StR G H' ρ' S' → Qd o S' → Q o H'
def wO0 : WO := fun _ S Q => Q none S
def wO1 (wa : WE) : WO := fun σ S Q => wa σ S fun x S1 => match x with
  | .int i => Q (some i) S1
  | _ => False
theorem PO.imp {e : Option Expr} {t t' : TO} (h : PO X e t) (k : ∀ σ H Q, t' σ H Q → t σ H Q) : PO X e t' := by
  obtain ⟨h⟩ := h
  constructor
  intros
  apply h
  · assumption
  · exact k _ _ _ (by assumption)
theorem o_0 : PO X none (lO (gx X T) wO0) := PO.imp po_none fun τ H Q h => by
  obtain ⟨ρ, σ, S, Qd, s, sl, w, c⟩ := h
  exact c H ρ S none (Kp.refl _) (List.prefix_refl _) s w
theorem o_1 {e : Expr} {wa : WE} (h : RE X T e wa) : PO X (some e) (lO (gx X T) (wO1 wa)) := PO.imp (po_some h) fun τ H Q h => by
  obtain ⟨ρ, σ, S, Qd, s, sl, w, c⟩ := h
  refine ⟨ρ, σ, S, _, s, sl, w, fun H1 ρ1 S1 dx x k1 p1 s1 r1 w1 => ?_⟩
  cases dx with
  | int i => exact ⟨i, r1, c H1 ρ1 S1 _ k1 p1 s1 w1⟩
  | _ => exact w1.elim
/-- a cut of the items -/
def cutD (xs : List D) (lo hi : Option Int) : List D := (xs.drop (HT.sIx xs.length 0 lo)).take (HT.sIx xs.length xs.length hi - HT.sIx xs.length 0 lo)
theorem cut_rel {K : PySem.W.Frag} {H : Hp} {ρ : List Addr} {ds : List D} {vs : List V} {lo hi : Option Int} (r : RelDs K H ρ ds vs) : RelDs K H ρ (cutD ds lo hi) (cutV vs lo hi) := by
  unfold cutD cutV
  rw [← r.length]
  exact (r.drop _).take _
def dSl (x : D) (lo hi : Option Int) (S : Sto) (Q : VKd) : Prop := match x with
  | .tup xs => Q (.tup (cutD xs lo hi)) S
  | .sll xs => Q (.obj S.length) (S ++ [.lst (cutD xs lo hi)])
  | .obj n => (match S[n]? with
    | some (.lst xs) => Q (.obj S.length) (S ++ [.lst (cutD xs lo hi)])
    | _ => False)
  | _ => False
def wSl (wa : WE) (wl wh : WO) : WE := fun σ S Q => wa σ S fun x S1 => wl σ S1 fun lo S2 => wh σ S2 fun hi S3 => dSl x lo hi S3 Q
def slL (G : Gx) : V → Option Int → Option Int → Hp → VK → Prop := fun x lo hi H Q => ∃ ρ S dx Qd, StR G H ρ S ∧ RelD G.K H ρ dx x ∧ dSl dx lo hi S Qd ∧ Cont G H ρ Qd Q
theorem SlR.imp {r r' : V → Option Int → Option Int → Hp → VK → Prop} (h : L2.SlR X r) (k : ∀ x lo hi H Q, r' x lo hi H Q → r x lo hi H Q) : L2.SlR X r' := by
  unfold L2.SlR at h ⊢
  intros
  apply h <;> first | assumption | exact k _ _ _ _ _ (by assumption)
theorem sl_ok : L2.SlR X (slL (gx X T)) := SlR.imp (sl_tupA.or sl_list) fun x lo hi H Q h => by
  obtain ⟨ρ, S, dx, Qd, s, r, w, c⟩ := h
  cases dx with
  | tup xs =>
    obtain ⟨a, vs, e, q, rs⟩ := r
    refine .inl ⟨a, vs, e, q, fun hw => ?_, fun _ p hp => c.newTup s hp (cut_rel rs) w⟩
    have e0 : cutV vs lo hi = vs := by
      unfold cutV
      rw [hw.1, hw.2]
      simp
    have r0 := cut_rel (lo := lo) (hi := hi) rs
    rw [e0] at r0
    exact c.self s (rel_tup q r0) w
  | sll xs =>
    obtain ⟨a, vs, e, q, rs⟩ := r
    exact .inr ⟨a, vs, e, q.sq, fun p hp => c.newLst s hp (cut_rel rs) w⟩
  | obj n =>
    obtain ⟨a, ha, e⟩ := r
    simp only [dSl] at w
    split at w
    · rename_i xs e0
      obtain ⟨vs, q, rs⟩ := s.lst e0 ha
      exact .inr ⟨a, vs, e, SqL.of q, fun p hp => c.newLst s hp (cut_rel rs) w⟩
    · exact w.elim
  | _ => exact w.elim
theorem l_sl {G : Gx} {wa : WE} {wl wh : WO} {τ : L2.St} {H : Hp} {Q : VK} (h : lE G (wSl wa wl wh) τ H Q) : tSl (slL G) (lE G wa) (lO G wl) (lO G wh) τ H Q := by
  obtain ⟨ρ, σ, S, Qd, s, sl, w, c⟩ := h
  refine ⟨ρ, σ, S, _, s, sl, w, fun H1 ρ1 S1 dx x k1 p1 s1 r1 w1 => ?_⟩
  refine ⟨ρ1, σ, S1, _, s1, sl.mono k1 p1, w1, fun H2 ρ2 S2 lo k2 p2 s2 w2 => ?_⟩
  refine ⟨ρ2, σ, S2, _, s2, sl.mono (k1.trans k2) (p1.trans p2), w2, fun H3 ρ3 S3 hi k3 p3 s3 w3 => ?_⟩
  exact ⟨ρ3, S3, dx, Qd, s3, RelD.mono (k2.trans k3) (p2.trans p3) _ r1, w3, c.mono ((k1.trans k2).trans k3) ((p1.trans p2).trans p3)⟩
theorem r_sl {e : Expr} {lo hi : Option Expr} {wa : WE} {wl wh : WO} {p2 pos : Pos} (he : RE X T e wa) (hl : PO X lo (lO (gx X T) wl)) (hh : PO X hi (lO (gx X T) wh)) : RE X T (.Subscript e (.Slice lo hi none p2) pos) (wSl wa wl wh) :=
  PE.imp (pe_slice sl_ok he hl hh) fun _ _ _ => l_sl

/-! ### built-in functions -/
abbrev Fn := List D → Sto → VKd → Prop
abbrev CbD (X : Cx) (T : List Addr) (f : Value) (g : Fn) : Prop := CallR X f (cL (gx X T) g)
theorem cbD {f : Value} {g : Fn} {r : List V → Hp → VK → Prop} (h : CallR X f r) (k : ∀ H ρ S ds xs Qd Q, StR (gx X T) H ρ S → RelDs X.K H ρ ds xs → g ds S Qd → Cont (gx X T) H ρ Qd Q → r xs H Q) : CbD X T f g := by
  intro pins s σ H xs us Q I rx hq
  obtain ⟨ρ, S, ds, Qd, s1, r1, w, c⟩ := hq
  exact h pins s σ H xs us Q I rx (k H ρ S ds xs Qd Q s1 r1 w c)
theorem rel1 {K : PySem.W.Frag} {H : Hp} {ρ : List Addr} {d : D} {vs : List V} (r : RelDs K H ρ [d] vs) : ∃ v, vs = [v] ∧ RelD K H ρ d v := by
  obtain ⟨v, vr, e, r1, r2⟩ := r
  have r2 : vr = [] := r2
  subst r2
  exact ⟨v, e, r1⟩
theorem rel2 {K : PySem.W.Frag} {H : Hp} {ρ : List Addr} {d e : D} {vs : List V} (r : RelDs K H ρ [d, e] vs) : ∃ v u, vs = [v, u] ∧ RelD K H ρ d v ∧ RelD K H ρ e u := by
  obtain ⟨v, vr, e, r1, r2⟩ := r
  obtain ⟨u, rfl, r3⟩ := rel1 r2
  exact ⟨v, u, e, r1, r3⟩
/-- a call of a built-in, by name -/
theorem r_cb {id : String} {x : Str} {p pos : Pos} {e : Expr} {es : List Expr} {f : Fn} {wa : WA} (hc : CbD X T (.builtin id) f) (hg : Gl X x) (hm : X.mg x = none) (hv : bootBuiltins x = some (.builtin id)) (ha : RA X T (e :: es) wa) (hn : x ≠ "__name__" := by decide +kernel) (hdb : (x == ("__debug__" : Str)) = false := by decide +kernel)
    (he : starEach (e :: es) X.env = (false, eval e X.env) :: starEach es X.env := by rfl) (hpl : (backTo pos (starEach es X.env)).any (·.1) = false := by rfl) : RE X T (.Call (.Name x p) (e :: es) [] pos) (wCb f wa) :=
  PE.imp (pe_callB hc hg hm hv ha hn hdb he hpl) fun _ _ _ => l_cb
theorem r_ct {id : String} {x : Str} {p pos : Pos} {e : Expr} {es : List Expr} {f : Fn} {wa : WA} (hc : CbD X T (.type id) f) (hg : Gl X x) (hm : X.mg x = none) (hv : bootBuiltins x = some (.type id)) (ha : RA X T (e :: es) wa) (hn : x ≠ "__name__" := by decide +kernel) (hdb : (x == ("__debug__" : Str)) = false := by decide +kernel)
    (he : starEach (e :: es) X.env = (false, eval e X.env) :: starEach es X.env := by rfl) (hpl : (backTo pos (starEach es X.env)).any (·.1) = false := by rfl) : RE X T (.Call (.Name x p) (e :: es) [] pos) (wCb f wa) :=
  PE.imp (pe_callTy hc hg hm hv ha hn hdb he hpl) fun _ _ _ => l_cb
/-- a built-in that the module's top has imported -/
theorem r_cm {id : String} {x : Str} {p pos : Pos} {e : Expr} {es : List Expr} {f : Fn} {wa : WA} (hc : CbD X T (.builtin id) f) (hg : Gl X x) (hm : X.mg x = some (.builtin id)) (ha : RA X T (e :: es) wa) (hdb : (x == ("__debug__" : Str)) = false := by decide +kernel)
    (he : starEach (e :: es) X.env = (false, eval e X.env) :: starEach es X.env := by rfl) (hpl : (backTo pos (starEach es X.env)).any (·.1) = false := by rfl) : RE X T (.Call (.Name x p) (e :: es) [] pos) (wCb f wa) :=
  PE.imp (pe_callBfun hc hg hm ha hdb he hpl) fun _ _ _ => l_cb

def fLen : Fn := fun ds S Q => match ds with
  | [.str z] => z.length ≤ sizeLine ∧ Q (.int z.length) S
  | [d] => (match items S d with
    | some xs => Q (.int xs.length) S
    | none => False)
  | _ => False
theorem c_len : CbD X T (.builtin "len") fLen := cbD call_len fun H ρ S ds xs Qd Q s r w c => by
  unfold fLen at w
  split at w
  · obtain ⟨v, rfl, r1⟩ := rel1 r
    have r1 : v = .str _ := r1
    subst r1
    exact ⟨_, _, rfl, ⟨w.1, rfl⟩, c.self s rel_int w.2⟩
  · obtain ⟨v, rfl, r1⟩ := rel1 r
    split at w
    · rename_i ys e0
      obtain ⟨a, vs, rfl, q, rs⟩ := items_ok s r1 e0
      refine ⟨_, vs.length, rfl, ?_, by rw [← rs.length]; exact c.self s rel_int w⟩
      rcases q with q | q
      · exact .inl ⟨vs, q, rfl⟩
      · exact .inr ⟨vs, q, rfl⟩
    · exact w.elim
  · exact w.elim

/-- the type's name -/
def tyD (S : Sto) : D → Option String
  | .non => some "NoneType"
  | .bl _ => some "bool"
  | .int _ => some "int"
  | .str _ => some "str"
  | .tup _ => some "tuple"
  | .obj n => (match S[n]? with
    | some (.lst _) => some "list"
    | some (.dct _) => some "dict"
    | _ => none)
  | _ => none
theorem tyD_ok {H : Hp} {ρ : List Addr} {S : Sto} {d : D} {v : V} {n : String} (s : StR (gx X T) H ρ S) (r : RelD X.K H ρ d v) (h : tyD S d = some n) : TyX X.K H v (.type n) := by
  cases d with
  | non => have r : v = .non := r; subst r; cases h; exact .base .non
  | bl b => have r : v = .bl b := r; subst r; cases h; exact .base (.bl b)
  | int b => have r : v = .int b := r; subst r; cases h; exact .base (.int b)
  | str b => have r : v = .str b := r; subst r; cases h; exact .base (.str b)
  | tup xs =>
    obtain ⟨a, vs, rfl, q, rs⟩ := r
    cases h
    rcases q with (q | ⟨o, q⟩) | ⟨o, its, n, q, hc, _⟩
    · exact .base (.tup q)
    · exact .fTuple q
    · exact .kTuple q hc
  | obj m =>
    obtain ⟨a, ha, rfl⟩ := r
    simp only [tyD] at h
    split at h
    · rename_i ys e0
      cases h
      obtain ⟨vs, q, rs⟩ := s.lst e0 ha
      exact .base (.lst q)
    · rename_i ys e0
      cases h
      obtain ⟨b, hb, us, q, rs⟩ := s.ob m _ e0
      rw [ha] at hb; cases hb
      exact .base (.dK q)
    · cases h
  | _ => cases h
def fIsi : Fn := fun ds S Q => match ds with
  | [d, .ty m] => (match tyD S d with
    | some n => (match kitB n m with
      | some b => Q (.bl b) S
      | none => False)
    | none => False)
  | _ => False
theorem c_isi : CbD X T (.builtin "isinstance") fIsi := cbD call_isi fun H ρ S ds xs Qd Q s r w c => by
  unfold fIsi at w
  split at w
  · obtain ⟨v, u, rfl, r1, r2⟩ := rel2 r
    have r2 : u = .ty _ := r2
    subst r2
    split at w
    · rename_i n e1
      split at w
      · rename_i b e2
        exact ⟨v, _, _, _, b, rfl, .ty _, tyD_ok s r1 e1, kit_ty e2, c.self s rel_bl w⟩
      · exact w.elim
    · exact w.elim
  · exact w.elim
def fInt : Fn := fun ds S Q => match ds with
  | [.int i] => Q (.int i) S
  | [.bl b] => Q (.int (if b then 1 else 0)) S
  | _ => False
theorem c_int : CbD X T (.type "int") fInt := cbD call_int1 fun H ρ S ds xs Qd Q s r w c => by
  unfold fInt at w
  split at w
  · obtain ⟨v, rfl, r1⟩ := rel1 r
    have r1 : v = .int _ := r1
    subst r1
    exact .inl ⟨_, rfl, c.self s rel_int w⟩
  · obtain ⟨v, rfl, r1⟩ := rel1 r
    have r1 : v = .bl _ := r1
    subst r1
    exact .inr ⟨_, rfl, c.self s rel_int w⟩
  · exact w.elim
def fAbs : Fn := fun ds S Q => match ds with
  | [.int i] => Q (.int (if i < 0 then -i else i)) S
  | _ => False
theorem c_abs : CbD X T (.builtin "abs") fAbs := cbD call_abs fun H ρ S ds xs Qd Q s r w c => by
  unfold fAbs at w
  split at w
  · obtain ⟨v, rfl, r1⟩ := rel1 r
    have r1 : v = .int _ := r1
    subst r1
    exact ⟨_, rfl, c.self s rel_int w⟩
  · exact w.elim
def fStr : Fn := fun ds S Q => match ds with
  | [.int i] => i.natAbs.log2 < 1920 ∧ Q (.str (toString i)) S
  | _ => False
theorem c_str : CbD X T (.type "str") fStr := cbD call_str_int fun H ρ S ds xs Qd Q s r w c => by
  unfold fStr at w
  split at w
  · obtain ⟨v, rfl, r1⟩ := rel1 r
    have r1 : v = .int _ := r1
    subst r1
    exact ⟨_, rfl, w.1, c.self s rel_str w.2⟩
  · exact w.elim
def fGcd : Fn := fun ds S Q => match ds with
  | [.int i, .int j] => Q (.int ((Nat.gcd i.natAbs j.natAbs : Nat) : Int)) S
  | _ => False
theorem c_gcd : CbD X T (.builtin "math.gcd") fGcd := cbD cr_gcd fun H ρ S ds xs Qd Q s r w c => by
  unfold fGcd at w
  split at w
  · obtain ⟨v, u, rfl, r1, r2⟩ := rel2 r
    have r1 : v = .int _ := r1
    have r2 : u = .int _ := r2
    subst r1 r2
    exact ⟨_, _, rfl, c.self s rel_int w⟩
  · exact w.elim
/-- tuple(xs), list(xs) -/
def fTup : Fn := fun ds S Q => match ds with
  | [d] => (match items S d with
    | some xs => Q (.tup xs) S
    | none => False)
  | _ => False
theorem c_tup : CbD X T (.type "tuple") fTup := cbD call_tuple_of fun H ρ S ds xs Qd Q s r w c => by
  unfold fTup at w
  split at w
  · obtain ⟨v, rfl, r1⟩ := rel1 r
    split at w
    · rename_i ys e0
      obtain ⟨a, vs, rfl, q, rs⟩ := items_ok s r1 e0
      refine ⟨a, vs, rfl, ?_⟩
      rcases q with q | q
      · exact .inl ⟨q, fun l hl => c.newTup s hl rs w⟩
      · exact .inr ⟨q, c.self s (rel_tup q rs) w⟩
    · exact w.elim
  · exact w.elim
def fList : Fn := fun ds S Q => match ds with
  | [d] => (match items S d with
    | some xs => Q (.obj S.length) (S ++ [.lst xs])
    | none => False)
  | _ => False
theorem c_list : CbD X T (.type "list") fList := cbD call_list_of fun H ρ S ds xs Qd Q s r w c => by
  unfold fList at w
  split at w
  · obtain ⟨v, rfl, r1⟩ := rel1 r
    split at w
    · rename_i ys e0
      obtain ⟨a, vs, rfl, q, rs⟩ := items_ok s r1 e0
      exact ⟨a, vs, rfl, q, fun l hl => c.newLst s hl rs w⟩
    · exact w.elim
  · exact w.elim
/-- a list of intsD -/
def intsD : List D → Option (List Int)
  | [] => some []
  | .int i :: r => (intsD r).map (i :: ·)
  | _ :: _ => none
theorem ints_rel {K : PySem.W.Frag} {H : Hp} {ρ : List Addr} : ∀ {ds : List D} {vs : List V} {ns : List Int}, RelDs K H ρ ds vs → intsD ds = some ns → vs = ns.map V.int
  | [], _, _, r, h => by
    have r : _ = [] := r
    rw [r]
    cases h
    rfl
  | d :: ds, vs, ns, ⟨v, vr, e, r1, r2⟩, h => by
    cases d with
    | int i =>
      simp only [intsD] at h
      cases e2 : intsD ds with
      | none => rw [e2] at h; cases h
      | some ms =>
        rw [e2] at h
        cases h
        have r1 : v = .int i := r1
        rw [e, r1, ints_rel r2 e2]
        rfl
    | _ => cases h
theorem rel_ints {K : PySem.W.Frag} {H : Hp} {ρ : List Addr} : ∀ ns : List Int, RelDs K H ρ (ns.map D.int) (ns.map V.int)
  | [] => rfl
  | _ :: ns => .cons rfl (rel_ints ns)
theorem ints_map : ∀ ns : List Int, intsD (ns.map D.int) = some ns
  | [] => rfl
  | n :: ns => by simp [intsD, ints_map ns]
/-- min, max of two intsD, of a list of intsD -/
def fMM (mx : Bool) : Fn := fun ds S Q => match ds with
  | [.int i, .int j] => Q (.int (if mx then (if j > i then j else i) else (if j < i then j else i))) S
  | [.obj n] => (match S[n]? with
    | some (.lst xs) => (match intsD xs with
      | some ns => 0 < ns.length ∧ ∀ m, m ∈ ns → (∀ y, y ∈ ns → if mx then y ≤ m else m ≤ y) → Q (.int m) S
      | none => False)
    | _ => False)
  | _ => False
theorem CallR.imp {f : Value} {r r' : List V → Hp → VK → Prop} (h : CallR X f r) (k : ∀ xs H Q, r' xs H Q → r xs H Q) : CallR X f r' := fun pins s σ H xs us Q I rv hq => h pins s σ H xs us Q I rv (k _ _ _ hq)
theorem c_max (hc : X.calm = true) : CbD X T (.builtin "max") (fMM true) := cbD ((call_max2 hc).or (cr_max hc)) fun H ρ S ds xs Qd Q s r w c => by
  unfold fMM at w
  split at w
  · obtain ⟨v, u, rfl, r1, r2⟩ := rel2 r
    have r1 : v = .int _ := r1
    have r2 : u = .int _ := r2
    subst r1 r2
    exact .inl ⟨_, _, rfl, c.self s rel_int w⟩
  · obtain ⟨v, rfl, a, ha, rfl⟩ := rel1 r
    split at w
    · rename_i ys e0
      obtain ⟨vs, q, rs⟩ := s.lst e0 ha
      split at w
      · rename_i ns e1
        have e2 := ints_rel rs e1
        subst e2
        exact .inr ⟨a, ns, rfl, SqL.of q, w.1, fun m h1 h2 => c.self s rel_int (w.2 m h1 fun y hy => by simpa using h2 y hy)⟩
      · exact w.elim
    · exact w.elim
  · exact w.elim
theorem c_min (hc : X.calm = true) : CbD X T (.builtin "min") (fMM false) := cbD ((call_min2 hc).or (cr_min hc)) fun H ρ S ds xs Qd Q s r w c => by
  unfold fMM at w
  split at w
  · obtain ⟨v, u, rfl, r1, r2⟩ := rel2 r
    have r1 : v = .int _ := r1
    have r2 : u = .int _ := r2
    subst r1 r2
    exact .inl ⟨_, _, rfl, c.self s rel_int w⟩
  · obtain ⟨v, rfl, a, ha, rfl⟩ := rel1 r
    split at w
    · rename_i ys e0
      obtain ⟨vs, q, rs⟩ := s.lst e0 ha
      split at w
      · rename_i ns e1
        have e2 := ints_rel rs e1
        subst e2
        exact .inr ⟨a, ns, rfl, SqL.of q, w.1, fun m h1 h2 => c.self s rel_int (w.2 m h1 fun y hy => by simpa using h2 y hy)⟩
      · exact w.elim
    · exact w.elim
  · exact w.elim
/-- sum of a list of intsD -/
def fSum : Fn := fun ds S Q => match ds with
  | [.obj n] => (match S[n]? with
    | some (.lst xs) => (match intsD xs with
      | some ns => Q (.int ns.sum) S
      | none => False)
    | _ => False)
  | _ => False
theorem c_sum (hc : X.calm = true) : CbD X T (.builtin "sum") fSum := cbD (cr_sum hc) fun H ρ S ds xs Qd Q s r w c => by
  unfold fSum at w
  split at w
  · obtain ⟨v, rfl, a, ha, rfl⟩ := rel1 r
    split at w
    · rename_i ys e0
      obtain ⟨vs, q, rs⟩ := s.lst e0 ha
      split at w
      · rename_i ns e1
        have e2 := ints_rel rs e1
        subst e2
        exact ⟨a, ns, rfl, SqL.of q, c.self s rel_int w⟩
      · exact w.elim
    · exact w.elim
  · exact w.elim
/-- any, all of a list of boolsD -/
def boolsD : List D → Option (List Bool)
  | [] => some []
  | .bl i :: r => (boolsD r).map (i :: ·)
  | _ :: _ => none
theorem bools_rel {K : PySem.W.Frag} {H : Hp} {ρ : List Addr} : ∀ {ds : List D} {vs : List V} {ns : List Bool}, RelDs K H ρ ds vs → boolsD ds = some ns → vs = ns.map V.bl
  | [], _, _, r, h => by
    have r : _ = [] := r
    rw [r]
    cases h
    rfl
  | d :: ds, vs, ns, ⟨v, vr, e, r1, r2⟩, h => by
    cases d with
    | bl i =>
      simp only [boolsD] at h
      cases e2 : boolsD ds with
      | none => rw [e2] at h; cases h
      | some ms =>
        rw [e2] at h
        cases h
        have r1 : v = .bl i := r1
        rw [e, r1, bools_rel r2 e2]
        rfl
    | _ => cases h
theorem bools_map : ∀ ns : List Bool, boolsD (ns.map D.bl) = some ns
  | [] => rfl
  | n :: ns => by simp [boolsD, bools_map ns]
def fAA (al : Bool) : Fn := fun ds S Q => match ds with
  | [.obj n] => (match S[n]? with
    | some (.lst xs) => (match boolsD xs with
      | some ns => Q (.bl (if al then ns.all id else ns.any id)) S
      | none => False)
    | _ => False)
  | _ => False
theorem c_any (hc : X.calm = true) : CbD X T (.builtin "any") (fAA false) := cbD (cr_any hc) fun H ρ S ds xs Qd Q s r w c => by
  unfold fAA at w
  split at w
  · obtain ⟨v, rfl, a, ha, rfl⟩ := rel1 r
    split at w
    · rename_i ys e0
      obtain ⟨vs, q, rs⟩ := s.lst e0 ha
      split at w
      · rename_i ns e1
        have e2 := bools_rel rs e1
        subst e2
        exact ⟨a, ns, rfl, SqL.of q, c.self s rel_bl w⟩
      · exact w.elim
    · exact w.elim
  · exact w.elim
theorem c_all (hc : X.calm = true) : CbD X T (.builtin "all") (fAA true) := cbD (cr_all hc) fun H ρ S ds xs Qd Q s r w c => by
  unfold fAA at w
  split at w
  · obtain ⟨v, rfl, a, ha, rfl⟩ := rel1 r
    split at w
    · rename_i ys e0
      obtain ⟨vs, q, rs⟩ := s.lst e0 ha
      split at w
      · rename_i ns e1
        have e2 := bools_rel rs e1
        subst e2
        exact ⟨a, ns, rfl, SqL.of q, c.self s rel_bl w⟩
      · exact w.elim
    · exact w.elim
  · exact w.elim
/-- sorted of a list of intsD -/
def fSrtI : Fn := fun ds S Q => match ds with
  | [.obj n] => (match S[n]? with
    | some (.lst xs) => (match intsD xs with
      | some ns => ∀ ns' : List Int, ns'.Perm ns → ns'.Pairwise (· ≤ ·) → Q (.obj S.length) (S ++ [.lst (ns'.map D.int)])
      | none => False)
    | _ => False)
  | _ => False
theorem c_srtI : CbD X T (.builtin "sorted") fSrtI := cbD cr_sortedI fun H ρ S ds xs Qd Q s r w c => by
  unfold fSrtI at w
  split at w
  · obtain ⟨v, rfl, a, ha, rfl⟩ := rel1 r
    split at w
    · rename_i ys e0
      obtain ⟨vs, q, rs⟩ := s.lst e0 ha
      split at w
      · rename_i ns e1
        have e2 := ints_rel rs e1
        subst e2
        exact ⟨a, ns, rfl, SqL.of q, fun ns' p h1 h2 hp => c.newLst s hp (rel_ints ns') (w ns' h1 h2)⟩
      · exact w.elim
    · exact w.elim
  · exact w.elim

/-! ### dicts with keys that are texts or intsD -/
def keyD : D → Option Key
  | .int i => some (.inl i)
  | .str x => some (.inr x)
  | _ => none
theorem keyD_ok {K : PySem.W.Frag} {H : Hp} {ρ : List Addr} {d : D} {v : V} {k : Key} (r : RelD K H ρ d v) (h : keyD d = some k) : v = kV k := by
  cases d with
  | int i => cases h; exact r
  | str i => cases h; exact r
  | _ => cases h
def dLook (kvs : List (Key × D)) (k : Key) : Option D := (kvs.find? fun kv => decide (kv.1 = k)).map (·.2)
def dPut (kvs : List (Key × D)) (k : Key) (v : D) : List (Key × D) :=
  if (kvs.any fun kv => decide (kv.1 = k)) = true then kvs.map (fun kv => if kv.1 = k then (kv.1, v) else kv) else kvs ++ [(k, v)]
theorem KvR.look {K : PySem.W.Frag} {H : Hp} {ρ : List Addr} {k : Key} : ∀ {kvs : List (Key × D)} {us : List (Key × V)}, KvR K H ρ kvs us → (∀ d, dLook kvs k = some d → ∃ v, valV us k = some v ∧ RelD K H ρ d v) ∧ (dLook kvs k = none → valV us k = none)
  | [], _, r => by
    have r : _ = [] := r
    rw [r]
    exact ⟨fun d h => by simp [dLook] at h, fun _ => rfl⟩
  | (k', d) :: kvs, _, ⟨v, vr, e, r1, r2⟩ => by
    rw [e]
    have ih := KvR.look (k := k) r2
    by_cases hk : k' = k
    · subst hk
      rw [valV_pos rfl]
      refine ⟨fun d' h => ?_, fun h => ?_⟩
      · simp [dLook] at h
        subst h
        exact ⟨v, rfl, r1⟩
      · simp [dLook] at h
    · rw [valV_neg hk]
      have e2 : dLook ((k', d) :: kvs) k = dLook kvs k := by simp [dLook, List.find?_cons, hk]
      rw [e2]
      exact ih
theorem KvR.any {K : PySem.W.Frag} {H : Hp} {ρ : List Addr} {k : Key} : ∀ {kvs : List (Key × D)} {us : List (Key × V)}, KvR K H ρ kvs us → (us.any fun kv => decide (kv.1 = k)) = kvs.any fun kv => decide (kv.1 = k)
  | [], _, r => by
    have r : _ = [] := r
    rw [r]
    rfl
  | (k', d) :: kvs, _, ⟨v, vr, e, r1, r2⟩ => by
    rw [e, List.any_cons, List.any_cons, KvR.any r2]
theorem KvR.length {K : PySem.W.Frag} {H : Hp} {ρ : List Addr} {κ : Type} : ∀ {kvs : List (κ × D)} {us : List (κ × V)}, KvR K H ρ kvs us → kvs.length = us.length
  | [], _, r => by
    have r : _ = [] := r
    rw [r]
    rfl
  | _ :: kvs, _, ⟨v, vr, e, r1, r2⟩ => by rw [e, List.length_cons, List.length_cons, KvR.length r2]
theorem KvR.snoc {K : PySem.W.Frag} {H : Hp} {ρ : List Addr} {k : Key} {d : D} {v : V} (r : RelD K H ρ d v) : ∀ {kvs : List (Key × D)} {us : List (Key × V)}, KvR K H ρ kvs us → KvR K H ρ (kvs ++ [(k, d)]) (us ++ [(k, v)])
  | [], _, q => by
    have q : _ = [] := q
    rw [q]
    exact ⟨v, [], rfl, r, rfl⟩
  | (k', d') :: kvs, _, ⟨v', vr, e, r1, r2⟩ => by
    rw [e]
    exact ⟨v', _, rfl, r1, KvR.snoc r r2⟩
theorem KvR.upd {K : PySem.W.Frag} {H : Hp} {ρ : List Addr} {k : Key} {d : D} {v : V} (r : RelD K H ρ d v) : ∀ {kvs : List (Key × D)} {us : List (Key × V)}, KvR K H ρ kvs us →
    KvR K H ρ (kvs.map (fun kv => if kv.1 = k then (kv.1, d) else kv)) (us.map (fun kv => if kv.1 = k then (kv.1, v) else kv))
  | [], _, q => by
    have q : _ = [] := q
    rw [q]
    rfl
  | (k', d') :: kvs, _, ⟨v', vr, e, r1, r2⟩ => by
    rw [e, List.map_cons, List.map_cons]
    by_cases hk : k' = k
    · subst hk
      rw [if_pos rfl, if_pos rfl]
      exact ⟨v, _, rfl, r, KvR.upd r r2⟩
    · rw [if_neg hk, if_neg hk]
      exact ⟨v', _, rfl, r1, KvR.upd r r2⟩
theorem KvR.put {K : PySem.W.Frag} {H : Hp} {ρ : List Addr} {k : Key} {d : D} {v : V} {kvs : List (Key × D)} {us : List (Key × V)} (r : RelD K H ρ d v) (q : KvR K H ρ kvs us) : KvR K H ρ (dPut kvs k d) (putK us k v) := by
  unfold dPut putK
  rw [q.any]
  split
  · exact KvR.upd r q
  · exact KvR.snoc r q
/-- d[k] -/
def dDg : Op2 := fun x y S Q => match x with
  | .obj n => (match S[n]?, keyD y with
    | some (.dct kvs), some k => (match dLook kvs k with
      | some d => Q d S
      | none => False)
    | _, _ => False)
  | _ => False
theorem r_dg {o i : Expr} {pos : Pos} {wa wb : WE} {k : Nat} (hr : Room k X.A) (ha : RE X T o wa) (hb : RE X T i wb) (hs : NoSl i := by intro _ _; rfl) : RE X T (.Subscript o i pos) (wOp dDg wa wb) := PE.imp (pe_dget (hu_of hr) ha hb hs) fun τ H Q h => by
  obtain ⟨ρ, σ, S, Qd, s, sl, w, c⟩ := h
  refine ⟨ρ, σ, S, _, s, sl, w, fun H1 ρ1 S1 dx x k1 p1 s1 r1 w1 => ?_⟩
  refine ⟨ρ1, σ, S1, _, s1, sl.mono k1 p1, w1, fun H2 ρ2 S2 dy y k2 p2 s2 r2 w2 => ?_⟩
  cases dx with
  | obj n =>
    obtain ⟨a, ha, rfl⟩ := RelD.mono k2 p2 _ r1
    simp only [dDg] at w2
    split at w2
    · rename_i kvs k e1 e2
      obtain ⟨b, hb, us, q, rs⟩ := s2.ob n _ e1
      rw [ha] at hb; cases hb
      split at w2
      · rename_i d e3
        obtain ⟨v, h1, h2⟩ := rs.look.1 d e3
        refine ⟨a, v, rfl, ?_, (c.mono (k1.trans k2) (p1.trans p2)).self s2 h2 w2⟩
        rw [keyD_ok r2 e2, ← h1]
        exact DGet.k q
      · exact w2.elim
    · exact w2.elim
  | _ => exact w2.elim
end
end Px
/-! Px3: statements, loops, list comprehensions, defs. -/
namespace Px
open PySem PySem.Spec PyProof.Rows L2

abbrev WG := D → Sl → Sto → (Sl → Sto → Prop) → Prop
abbrev WGs := List D → Sl → Sto → (Sl → Sto → Prop) → Prop
def wPass : WS := fun E σ S => E.nx σ S
def wSeq (t u : WS) : WS := fun E σ S => t { E with nx := u E } σ S
def wRet (w : WE) : WS := fun E σ S => w σ S E.rt
def wRetN : WS := fun E _ S => E.rt .non S
def wDrop (w : WE) : WS := fun E σ S => w σ S fun _ S1 => E.nx σ S1
def wIfS (t : WT) (u v : WS) : WS := fun E σ S => t σ S fun b S1 => if b = true then u E σ S1 else v E σ S1
def wBreak : WS := fun E σ S => E.bk σ S
def wCont : WS := fun E σ S => E.ct σ S
def wAsg (w : WE) (g : WG) : WS := fun E σ S => w σ S fun x S1 => g x σ S1 E.nx
def wAug (i : Nat) (w : WE) (f : Op2) : WS := fun E σ S => match σ[i]? with
  | some (some x) => w σ S fun y S1 => f x y S1 fun z S2 => E.nx (σ.set i (some z)) S2
  | _ => False
def wWhile (t : WT) (b : WS) : WS := fun E σ S => ∃ W : Nat → Sl → Sto → Prop, (∃ m, W m σ S) ∧ ∀ m σ S, W m σ S →
  t σ S fun k S1 => if k = true then b { E with nx := fun σ' S' => ∃ m', m' < m ∧ W m' σ' S', ct := fun σ' S' => ∃ m', m' < m ∧ W m' σ' S', bk := E.nx } σ S1 else E.nx σ S1
def gN (i : Nat) : WG := fun d σ S Q => Q (σ.set i (some d)) S
def gT (gs : WGs) : WG := fun d σ S Q => match d with
  | .tup xs => gs xs σ S Q
  | _ => False
def gs0 : WGs := fun ds σ S Q => match ds with
  | [] => Q σ S
  | _ :: _ => False
def gsC (g : WG) (gs : WGs) : WGs := fun ds σ S Q => match ds with
  | [] => False
  | d :: r => g d σ S fun σ1 S1 => gs r σ1 S1 Q
/-- what a for walks: the items, and what must stay true of the store (a list that is walked is left as it is) -/
abbrev WI := Sl → Sto → (List D → (Sto → Prop) → Sto → Prop) → Prop
def forL (chk : Sto → Prop) (g : WG) (b : WS) (E : WEnds) : List D → Sl → Sto → Prop
  | [], σ, S => chk S ∧ E.nx σ S
  | x :: r, σ, S => chk S ∧ g x σ S fun σ1 S1 => b { E with nx := forL chk g b E r, ct := forL chk g b E r, bk := E.nx } σ1 S1
def wFor (i : WI) (g : WG) (b : WS) : WS := fun E σ S => i σ S fun xs chk S1 => forL chk g b E xs σ S1
def lcL (chk : Sto → Prop) (n : Nat) (g : WG) (t : WT) (e : WE) (vs : List Nat) (σ : Sl) (Q : VKd) : List D → Sto → Prop
  | [], S => chk S ∧ Q (.obj n) S
  | x :: r, S => chk S ∧ g x (wipeD σ vs) S fun σ2 S2 => t σ2 S2 fun b S3 => if b = true then
      e σ2 S3 fun y S4 => match S4[n]? with
        | some (.lst acc) => acc.length < sizeLine ∧ lcL chk n g t e vs σ Q r (S4.set n (.lst (acc ++ [y])))
        | _ => False
    else lcL chk n g t e vs σ Q r S3
def wLc (i : WI) (g : WG) (t : WT) (e : WE) (vs : List Nat) : WE := fun σ S Q => i σ S fun xs chk S1 => lcL chk S1.length g t e vs σ Q xs (S1 ++ [.lst []])
def wYes : WT := fun _ S Q => Q true S

/-! ### lifting -/
def lG (G : Gx) (w : WG) : TG := fun v τ H Q => ∃ ρ σ S d Qd, StR G H ρ S ∧ SlR G.K H ρ σ τ ∧ RelD G.K H ρ d v ∧ w d σ S Qd ∧ ContS G H ρ Qd Q
def lGs (G : Gx) (w : WGs) : TGs := fun vs τ H Q => ∃ ρ σ S ds Qd, StR G H ρ S ∧ SlR G.K H ρ σ τ ∧ RelDs G.K H ρ ds vs ∧ w ds σ S Qd ∧ ContS G H ρ Qd Q
/-- .. where the slots at vs alone change -/
def ContSv (G : Gx) (H : Hp) (ρ : List Addr) (vs : List Nat) (τ : L2.St) (Qd : Sl → Sto → Prop) (Q : L2.St → Hp → Prop) : Prop :=
  ∀ H' ρ' S' σ' τ', Kp H H' → ρ <+: ρ' → StR G H' ρ' S' → SlR G.K H' ρ' σ' τ' → L2.wipe τ' vs = L2.wipe τ vs → Qd σ' S' → Q τ' H'
def lGv (G : Gx) (vs : List Nat) (w : WG) : TG := fun v τ H Q => ∃ ρ σ S d Qd, StR G H ρ S ∧ SlR G.K H ρ σ τ ∧ RelD G.K H ρ d v ∧ w d σ S Qd ∧ ContSv G H ρ vs τ Qd Q
def lGsv (G : Gx) (vs : List Nat) (w : WGs) : TGs := fun us τ H Q => ∃ ρ σ S ds Qd, StR G H ρ S ∧ SlR G.K H ρ σ τ ∧ RelDs G.K H ρ ds us ∧ w ds σ S Qd ∧ ContSv G H ρ vs τ Qd Q
theorem PG.imp {X : Cx} {e : Expr} {t t' : TG} (h : PG X e t) (k : ∀ v σ H Q, t' v σ H Q → t v σ H Q) : PG X e t' := ⟨fun pins s σ H v u Q I r hq => h.run pins s σ H v u Q I r (k _ _ _ _ hq)⟩
theorem PGs.imp {X : Cx} {e : List Expr} {t t' : TGs} (h : PGs X e t) (k : ∀ v σ H Q, t' v σ H Q → t v σ H Q) : PGs X e t' := ⟨fun pins s σ H v u Q I r hq => h.run pins s σ H v u Q I r (k _ _ _ _ hq)⟩
theorem PI.imp {X : Cx} {tg e : Expr} {t t' : TI} (h : PI X tg e t) (k : ∀ σ H Q, t' σ H Q → t σ H Q) : PI X tg e t' := ⟨fun pins s σ H R I hq => h.run pins s σ H R I (k _ _ _ hq)⟩
section
variable {G : Gx} {H : Hp} {τ : L2.St} {D' : Ends}
theorem ContS.self {ρ : List Addr} {S : Sto} {σ : Sl} {Qd : Sl → Sto → Prop} {Q : L2.St → Hp → Prop} (c : ContS G H ρ Qd Q) (s : StR G H ρ S) (r : SlR G.K H ρ σ τ) (q : Qd σ S) : Q τ H := c H ρ S σ τ (Kp.refl H) (List.prefix_refl _) s r q
theorem s_pass (h : lS G wPass D' τ H) : tNext D' τ H := by
  obtain ⟨ρ, σ, S, E, s, sl, w, c⟩ := h
  exact c.nx.self s sl w
theorem s_break (h : lS G wBreak D' τ H) : tBreak D' τ H := by
  obtain ⟨ρ, σ, S, E, s, sl, w, c⟩ := h
  exact c.bk.self s sl w
theorem s_cont (h : lS G wCont D' τ H) : tCont D' τ H := by
  obtain ⟨ρ, σ, S, E, s, sl, w, c⟩ := h
  exact c.ct.self s sl w
theorem s_seq {t u : WS} (h : lS G (wSeq t u) D' τ H) : tSeq (lS G t) (lS G u) D' τ H := by
  obtain ⟨ρ, σ, S, E, s, sl, w, c⟩ := h
  exact ⟨ρ, σ, S, _, s, sl, w, ⟨fun H1 ρ1 S1 σ1 τ1 k1 p1 s1 sl1 w1 => ⟨ρ1, σ1, S1, E, s1, sl1, w1, c.mono k1 p1⟩, c.rt, c.bk, c.ct⟩⟩
theorem s_ret {e : WE} (h : lS G (wRet e) D' τ H) : tRet (lE G e) D' τ H := by
  obtain ⟨ρ, σ, S, E, s, sl, w, c⟩ := h
  exact ⟨ρ, σ, S, _, s, sl, w, c.rt⟩
theorem s_retN (h : lS G wRetN D' τ H) : tRetN D' τ H := by
  obtain ⟨ρ, σ, S, E, s, sl, w, c⟩ := h
  exact c.rt.self s rel_non w
theorem s_drop {e : WE} (h : lS G (wDrop e) D' τ H) : tDrop (lE G e) D' τ H := by
  obtain ⟨ρ, σ, S, E, s, sl, w, c⟩ := h
  exact ⟨ρ, σ, S, _, s, sl, w, fun H1 ρ1 S1 d v k1 p1 s1 r1 w1 => c.nx H1 ρ1 S1 σ τ k1 p1 s1 (sl.mono k1 p1) w1⟩
theorem s_if {t : WT} {u v : WS} (h : lS G (wIfS t u v) D' τ H) : tIfS (lT G t) (lS G u) (lS G v) D' τ H := by
  obtain ⟨ρ, σ, S, E, s, sl, w, c⟩ := h
  refine ⟨ρ, σ, S, _, s, sl, w, fun H1 ρ1 S1 b k1 p1 s1 w1 => ?_⟩
  cases b with
  | true => exact iteT ⟨ρ1, σ, S1, E, s1, sl.mono k1 p1, w1, c.mono k1 p1⟩
  | false => exact iteF ⟨ρ1, σ, S1, E, s1, sl.mono k1 p1, w1, c.mono k1 p1⟩
theorem s_asg {e : WE} {g : WG} (h : lS G (wAsg e g) D' τ H) : tAsg (lE G e) (lG G g) D' τ H := by
  obtain ⟨ρ, σ, S, E, s, sl, w, c⟩ := h
  exact ⟨ρ, σ, S, _, s, sl, w, fun H1 ρ1 S1 d v k1 p1 s1 r1 w1 => ⟨ρ1, σ, S1, d, _, s1, sl.mono k1 p1, r1, w1, c.nx.mono k1 p1⟩⟩
theorem s_aug {i : Nat} {e : WE} {f : Op2} (h : lS G (wAug i e f) D' τ H) : tAug i (lE G e) (fun x y H Q => rL G f x y H Q) D' τ H := by
  obtain ⟨ρ, σ, S, E, s, sl, w, c⟩ := h
  unfold wAug at w
  split at w
  · rename_i x hx
    obtain ⟨v, e1, r⟩ := sl.2 i x hx
    refine ⟨v, e1, ρ, σ, S, _, s, sl, w, fun H1 ρ1 S1 dy y k1 p1 s1 r1 w1 => ?_⟩
    refine ⟨ρ1, S1, x, dy, _, s1, RelD.mono k1 p1 _ r, r1, w1, fun H2 ρ2 S2 dz z k2 p2 s2 r2 w2 => ?_⟩
    exact c.nx _ _ _ _ _ (k1.trans k2) (p1.trans p2) s2 ((sl.mono (k1.trans k2) (p1.trans p2)).set i r2) w2
  · exact w.elim
theorem s_while {t : WT} {b : WS} (h : lS G (wWhile t b) D' τ H) : tWhile (lT G t) (lS G b) D' τ H := by
  obtain ⟨ρ, σ, S, E, s, sl, ⟨W, ⟨m0, w0⟩, turn⟩, c⟩ := h
  refine ⟨fun m τ1 H1 => ∃ ρ1 σ1 S1, Kp H H1 ∧ ρ <+: ρ1 ∧ StR G H1 ρ1 S1 ∧ SlR G.K H1 ρ1 σ1 τ1 ∧ W m σ1 S1, ⟨m0, ρ, σ, S, Kp.refl H, List.prefix_refl _, s, sl, w0⟩, ?_⟩
  rintro m τ1 H1 ⟨ρ1, σ1, S1, k1, p1, s1, sl1, w1⟩
  refine ⟨ρ1, σ1, S1, _, s1, sl1, turn m σ1 S1 w1, fun H2 ρ2 S2 k k2 p2 s2 w2 => ?_⟩
  cases k with
  | true =>
    refine iteT ⟨fun τ3 H3 => ∃ m', m' < m ∧ ∃ ρ3 σ3 S3, Kp H H3 ∧ ρ <+: ρ3 ∧ StR G H3 ρ3 S3 ∧ SlR G.K H3 ρ3 σ3 τ3 ∧ W m' σ3 S3, fun τ3 H3 z => z, ?_⟩
    have go : ContS G H2 ρ2 (fun σ' S' => ∃ m', m' < m ∧ W m' σ' S') (fun τ3 H3 => ∃ m', m' < m ∧ ∃ ρ3 σ3 S3, Kp H H3 ∧ ρ <+: ρ3 ∧ StR G H3 ρ3 S3 ∧ SlR G.K H3 ρ3 σ3 τ3 ∧ W m' σ3 S3) :=
      fun H3 ρ3 S3 σ3 τ3 k3 p3 s3 sl3 ⟨m', hm, w3⟩ => ⟨m', hm, ρ3, σ3, S3, (k1.trans k2).trans k3, (p1.trans p2).trans p3, s3, sl3, w3⟩
    have c2 := c.mono (k1.trans k2) (p1.trans p2)
    exact ⟨ρ2, σ1, S2, _, s2, sl1.mono k2 p2, w2, ⟨go, c2.rt, c2.nx, go⟩⟩
  | false => exact iteF (c.nx H2 ρ2 S2 σ1 τ1 (k1.trans k2) (p1.trans p2) s2 (sl1.mono k2 p2) w2)
theorem s_gN {i : Nat} {v : V} {Q : L2.St → Hp → Prop} (h : lG G (gN i) v τ H Q) : gName i v τ H Q := by
  obtain ⟨ρ, σ, S, d, Qd, s, sl, r, w, c⟩ := h
  exact c.self s (sl.set i r) w
theorem wipe_set {i : Nat} {x : Option V} : ∀ {vs : List Nat} {τ : L2.St}, i ∈ vs → L2.wipe (τ.set i x) vs = L2.wipe τ vs
  | v :: vs, τ, h => by
    unfold L2.wipe
    by_cases hv : i ∈ vs
    · rw [wipe_set hv]
    · have e : i = v := (List.mem_cons.mp h).resolve_right hv
      subst e
      have out : ∀ {vs : List Nat} {τ : L2.St}, i ∉ vs → L2.wipe (τ.set i x) vs = (L2.wipe τ vs).set i x := fun {vs} => by
        induction vs with
        | nil => intro τ _; rfl
        | cons u us ih =>
          intro τ hn
          rw [List.mem_cons, not_or] at hn
          unfold L2.wipe
          rw [ih hn.2, List.set_comm _ _ hn.1]
      rw [out hv, List.set_set]
theorem wipe_wipe : ∀ {vs : List Nat} {τ : L2.St}, L2.wipe (L2.wipe τ vs) vs = L2.wipe τ vs := fun {vs τ} => by
  have one : ∀ {us : List Nat} {τ : L2.St}, (∀ v ∈ us, v ∈ vs) → L2.wipe (L2.wipe τ us) vs = L2.wipe τ vs := fun {us} => by
    induction us with
    | nil => intro τ _; rfl
    | cons u us ih =>
      intro τ h
      show L2.wipe ((L2.wipe τ us).set u none) vs = _
      rw [wipe_set (h u List.mem_cons_self)]
      exact ih fun v hv => h v (List.mem_cons_of_mem _ hv)
  exact one fun _ h => h
theorem s_gNv {i : Nat} {vs : List Nat} {v : V} {Q : L2.St → Hp → Prop} (hi : i ∈ vs) (h : lGv G vs (gN i) v τ H Q) : gName i v τ H Q := by
  obtain ⟨ρ, σ, S, d, Qd, s, sl, r, w, c⟩ := h
  exact c H ρ S _ _ (Kp.refl _) (List.prefix_refl _) s (sl.set i r) (wipe_set hi) w
theorem s_gs0 {vs : List V} {Q : L2.St → Hp → Prop} (h : lGs G gs0 vs τ H Q) : gNil vs τ H Q := by
  obtain ⟨ρ, σ, S, ds, Qd, s, sl, r, w, c⟩ := h
  cases ds with
  | nil => exact ⟨r, c.self s sl w⟩
  | cons _ _ => exact w.elim
theorem s_gs0v {us : List Nat} {vs : List V} {Q : L2.St → Hp → Prop} (h : lGsv G us gs0 vs τ H Q) : gNil vs τ H Q := by
  obtain ⟨ρ, σ, S, ds, Qd, s, sl, r, w, c⟩ := h
  cases ds with
  | nil => exact ⟨r, c H ρ S σ τ (Kp.refl _) (List.prefix_refl _) s sl rfl w⟩
  | cons _ _ => exact w.elim
theorem s_gsC {g : WG} {gs : WGs} {vs : List V} {Q : L2.St → Hp → Prop} (h : lGs G (gsC g gs) vs τ H Q) : gCons (lG G g) (lGs G gs) vs τ H Q := by
  obtain ⟨ρ, σ, S, ds, Qd, s, sl, r, w, c⟩ := h
  cases ds with
  | nil => exact w.elim
  | cons d ds =>
    obtain ⟨v, vr, e, r1, r2⟩ := r
    exact ⟨v, vr, e, ρ, σ, S, d, _, s, sl, r1, w, fun H1 ρ1 S1 σ1 τ1 k1 p1 s1 sl1 w1 => ⟨ρ1, σ1, S1, ds, Qd, s1, sl1, RelDs.mono k1 p1 _ r2, w1, c.mono k1 p1⟩⟩
theorem s_gsCv {us : List Nat} {g : WG} {gs : WGs} {vs : List V} {Q : L2.St → Hp → Prop} (h : lGsv G us (gsC g gs) vs τ H Q) : gCons (lGv G us g) (lGsv G us gs) vs τ H Q := by
  obtain ⟨ρ, σ, S, ds, Qd, s, sl, r, w, c⟩ := h
  cases ds with
  | nil => exact w.elim
  | cons d ds =>
    obtain ⟨v, vr, e, r1, r2⟩ := r
    refine ⟨v, vr, e, ρ, σ, S, d, _, s, sl, r1, w, fun H1 ρ1 S1 σ1 τ1 k1 p1 s1 sl1 e1 w1 => ⟨ρ1, σ1, S1, ds, Qd, s1, sl1, RelDs.mono k1 p1 _ r2, w1, ?_⟩⟩
    exact fun H2 ρ2 S2 σ2 τ2 k2 p2 s2 sl2 e2 w2 => c H2 ρ2 S2 σ2 τ2 (k1.trans k2) (p1.trans p2) s2 sl2 (e2.trans e1) w2
theorem s_gT {gs : WGs} {v : V} {n : Nat} {Q : L2.St → Hp → Prop} (hn : ∀ ds σ S Q, gs ds σ S Q → ds.length = n) (h : lG G (gT gs) v τ H Q) : gTup G.K n (lGs G gs) v τ H Q := by
  obtain ⟨ρ, σ, S, d, Qd, s, sl, r, w, c⟩ := h
  cases d with
  | tup ds =>
    obtain ⟨a, vs, e, q, rs⟩ := r
    exact ⟨a, vs, e, q, by rw [← rs.length]; exact hn _ _ _ _ w, ρ, σ, S, ds, Qd, s, sl, rs, w, c⟩
  | _ => exact w.elim
theorem s_gTv {us : List Nat} {gs : WGs} {v : V} {n : Nat} {Q : L2.St → Hp → Prop} (hn : ∀ ds σ S Q, gs ds σ S Q → ds.length = n) (h : lGv G us (gT gs) v τ H Q) : gTup G.K n (lGsv G us gs) v τ H Q := by
  obtain ⟨ρ, σ, S, d, Qd, s, sl, r, w, c⟩ := h
  cases d with
  | tup ds =>
    obtain ⟨a, vs, e, q, rs⟩ := r
    exact ⟨a, vs, e, q, by rw [← rs.length]; exact hn _ _ _ _ w, ρ, σ, S, ds, Qd, s, sl, rs, w, c⟩
  | _ => exact w.elim

/-! ### what a loop walks -/
/-- J hands out the items xs, as long as chk holds of the store -/
def Deliv (G : Gx) (H0 : Hp) (ρ0 : List Addr) (J : It) (xs : List D) (chk : Sto → Prop) : Prop :=
  ∀ (i : Nat) H ρ S, Kp H0 H → ρ0 <+: ρ → StR G H ρ S → chk S →
    (∀ d, xs[i]? = some d → J.go i H ∧ ∀ x H', J.yld i H x H' → ∃ ρ', Kp H H' ∧ ρ <+: ρ' ∧ StR G H' ρ' S ∧ RelD G.K H' ρ' d x) ∧ (xs.length ≤ i → J.stop i H)
def lI (G : Gx) (w : WI) : TI := fun τ H R => ∃ ρ σ S Rd, StR G H ρ S ∧ SlR G.K H ρ σ τ ∧ w σ S Rd ∧
  ∀ H' ρ' S' xs chk J, Kp H H' → ρ <+: ρ' → StR G H' ρ' S' → Deliv G H' ρ' J xs chk → Rd xs chk S' → R J H'
theorem s_for {i : WI} {g : WG} {b : WS} (h : lS G (wFor i g b) D' τ H) : tFor (lI G i) (lG G g) (lS G b) D' τ H := by
  obtain ⟨ρ, σ, S, E, s, sl, w, c⟩ := h
  refine ⟨ρ, σ, S, _, s, sl, w, fun H1 ρ1 S1 xs chk J k1 p1 s1 dl w1 => ?_⟩
  refine ⟨fun i m τ2 H2 => m = xs.length - i ∧ i ≤ xs.length ∧ ∃ ρ2 σ2 S2, Kp H1 H2 ∧ ρ1 <+: ρ2 ∧ StR G H2 ρ2 S2 ∧ SlR G.K H2 ρ2 σ2 τ2 ∧ forL chk g b E (xs.drop i) σ2 S2,
    ⟨xs.length, by simp, Nat.zero_le _, ρ1, σ, S1, Kp.refl _, List.prefix_refl _, s1, sl.mono k1 p1, w1⟩, ?_⟩
  rintro i m τ2 H2 ⟨rfl, hi, ρ2, σ2, S2, k2, p2, s2, sl2, w2⟩
  by_cases hlt : i < xs.length
  · rw [List.drop_eq_getElem_cons hlt] at w2
    obtain ⟨hc, w2⟩ := w2
    obtain ⟨dg, _⟩ := dl i H2 ρ2 S2 k2 p2 s2 hc
    obtain ⟨hg, hy⟩ := dg xs[i] (List.getElem?_eq_getElem hlt)
    refine .inr ⟨hg, fun τ3 H3 => ∃ ρ3 σ3 S3, Kp H1 H3 ∧ ρ1 <+: ρ3 ∧ StR G H3 ρ3 S3 ∧ SlR G.K H3 ρ3 σ3 τ3 ∧ forL chk g b E (xs.drop (i + 1)) σ3 S3,
      fun τ3 H3 z => ⟨xs.length - (i + 1), by omega, rfl, hlt, z⟩, fun x H3 y => ?_⟩
    obtain ⟨ρ3, k3, p3, s3, r3⟩ := hy x H3 y
    refine ⟨ρ3, σ2, S2, xs[i], _, s3, sl2.mono k3 p3, r3, w2, fun H4 ρ4 S4 σ4 τ4 k4 p4 s4 sl4 w4 => ?_⟩
    have kk := (k2.trans k3).trans k4
    have pp := (p2.trans p3).trans p4
    have c4 := c.mono (k1.trans kk) (p1.trans pp)
    have go : ContS G H4 ρ4 (forL chk g b E (xs.drop (i + 1))) (fun τ3 H3 => ∃ ρ3 σ3 S3, Kp H1 H3 ∧ ρ1 <+: ρ3 ∧ StR G H3 ρ3 S3 ∧ SlR G.K H3 ρ3 σ3 τ3 ∧ forL chk g b E (xs.drop (i + 1)) σ3 S3) :=
      fun H5 ρ5 S5 σ5 τ5 k5 p5 s5 sl5 w5 => ⟨ρ5, σ5, S5, kk.trans k5, pp.trans p5, s5, sl5, w5⟩
    exact ⟨ρ4, σ4, S4, _, s4, sl4, w4, ⟨go, c4.rt, c4.nx, go⟩⟩
  · have e : i = xs.length := by omega
    subst e
    rw [List.drop_length] at w2
    exact .inl ⟨(dl _ H2 ρ2 S2 k2 p2 s2 w2.1).2 (Nat.le_refl _), c.nx H2 ρ2 S2 σ2 τ2 (k1.trans k2) (p1.trans p2) s2 sl2 w2.2⟩
theorem l_lc {i : WI} {g : WG} {t : WT} {e : WE} {vs : List Nat} {Q : VK} (h : lE G (wLc i g t e vs) τ H Q) : tLc (lI G i) (lGv G vs g) (lT G t) (lE G e) vs τ H Q := by
  obtain ⟨ρ, σ, S, Qd, s, sl, w, c⟩ := h
  refine ⟨ρ, σ, S, _, s, sl, w, fun H1 ρ1 S1 xs chk J k1 p1 s1 dl w1 D hD => ?_⟩
  have kD : Kp H1 (upd H1 D (.lst [])) := Kp.new hD
  have pD : ρ1 <+: ρ1 ++ [D] := List.prefix_append _ _
  have sD : StR G (upd H1 D (.lst [])) (ρ1 ++ [D]) (S1 ++ [.lst []]) := s1.newObj hD ⟨[], upd_same, RelDs.nil⟩
  have aD : (ρ1 ++ [D])[S1.length]? = some D := by rw [← s1.len, List.getElem?_append_right (Nat.le_refl _), Nat.sub_self]; rfl
  refine ⟨fun i m H2 => m = xs.length - i ∧ i ≤ xs.length ∧ ∃ ρ2 S2, Kp H1 H2 ∧ (ρ1 ++ [D]) <+: ρ2 ∧ StR G H2 ρ2 S2 ∧ lcL chk S1.length g t e vs σ Qd (xs.drop i) S2,
    ⟨xs.length, by simp, Nat.zero_le _, ρ1 ++ [D], S1 ++ [O.lst []], kD, List.prefix_refl _, sD, w1⟩, ?_⟩
  rintro i m H2 ⟨rfl, hi, ρ2, S2, k2, p2, s2, w2⟩
  have sl2 := sl.mono (k1.trans k2) (p1.trans (pD.trans p2))
  by_cases hlt : i < xs.length
  · rw [List.drop_eq_getElem_cons hlt] at w2
    obtain ⟨hc, w2⟩ := w2
    obtain ⟨dg, _⟩ := dl i H2 ρ2 S2 k2 (pD.trans p2) s2 hc
    obtain ⟨hg, hy⟩ := dg xs[i] (List.getElem?_eq_getElem hlt)
    refine .inr ⟨hg, fun H3 => ∃ ρ3 S3, Kp H1 H3 ∧ (ρ1 ++ [D]) <+: ρ3 ∧ StR G H3 ρ3 S3 ∧ lcL chk S1.length g t e vs σ Qd (xs.drop (i + 1)) S3,
      fun H3 z => ⟨xs.length - (i + 1), by omega, rfl, hlt, z⟩, fun x H3 y => ?_⟩
    obtain ⟨ρ3, k3, p3, s3, r3⟩ := hy x H3 y
    refine ⟨ρ3, _, S2, xs[i], _, s3, (sl2.mono k3 p3).wipe vs, r3, w2, fun H4 ρ4 S4 σ4 τ4 k4 p4 s4 sl4 e4 w4 => ⟨e4.trans wipe_wipe, ?_⟩⟩
    refine ⟨ρ4, σ4, S4, _, s4, sl4, w4, fun H5 ρ5 S5 b k5 p5 s5 w5 => ?_⟩
    have k15 := ((k2.trans k3).trans k4).trans k5
    have p15 := ((p2.trans p3).trans p4).trans p5
    cases b with
    | false => exact iteF ⟨ρ5, S5, k15, p15, s5, w5⟩
    | true =>
      refine iteT ⟨ρ5, σ4, S5, _, s5, sl4.mono k5 p5, w5, fun H6 ρ6 S6 dy v k6 p6 s6 r6 w6 => ?_⟩
      have a6 : ρ6[S1.length]? = some D := pre_get (p15.trans p6) aD
      cases h6 : S6[S1.length]? with
      | none => rw [h6] at w6; exact w6.elim
      | some o =>
        rw [h6] at w6
        cases o with
        | lst acc =>
          obtain ⟨hz, w6⟩ := w6
          obtain ⟨us, g6, rs⟩ := s6.lst h6 a6
          have k7 : Kp H6 (upd H6 D (.lst (us ++ [v]))) := Kp.mut g6 trivial
          exact ⟨us, g6, by rw [← rs.length]; exact hz, ρ6, _, (k15.trans k6).trans k7, p15.trans p6,
            s6.setObj (o := .lst (acc ++ [dy])) a6 g6 trivial ⟨_, upd_same, RelDs.mono k7 (List.prefix_refl _) _ (rs.append (.cons r6 .nil))⟩, w6⟩
        | _ => exact w6.elim
  · have e0 : i = xs.length := by omega
    subst e0
    rw [List.drop_length] at w2
    refine .inl ⟨(dl _ H2 ρ2 S2 k2 (pD.trans p2) s2 w2.1).2 (Nat.le_refl _), ?_⟩
    exact c H2 ρ2 S2 _ _ (k1.trans k2) (p1.trans (pD.trans p2)) s2 (rel_obj (pre_get p2 aD)) w2.2
end
end Px
/-! Px4: contexts, statements, iteration, calls, defs, by rules over data. -/
namespace Px
open PySem PySem.Spec PyProof.Rows L2

/-! ### contexts -/
def scChk (SC : Scope) (fn : Str → Bool) (N : List Str) (vs ls : List Nat) (gs : List Str) : Bool :=
  decide N.Nodup &&
  vs.all (fun i => match N[i]? with
    | some x => (match SC.names.lookup x with
      | some .local => true
      | some .cell => true
      | some .free => true
      | _ => false) && !(x == ("__debug__" : Str)) && !(x == ("__classdict__" : Str))
    | none => true) &&
  ls.all (fun i => match N[i]? with
    | some x => (match SC.names.lookup x with
      | some .local => true
      | some .cell => fn x
      | _ => false)
    | none => true) &&
  gs.all (fun x => (match SC.names.lookup x with
      | some .globalImplicit => true
      | _ => false) && !(x == ("__debug__" : Str)) && !decide (x = ("__name__" : Str)))
/-- where a body or a comprehension's block stands: its scope, the names by slot, those that are read, those that are stored, the global ones -/
structure Sc (X : Cx) (SC : Scope) (fn : Str → Bool) (N : List Str) (vs ls : List Nat) (gs : List Str) : Prop where
  n : X.N = N
  sc : X.env.scope = SC
  hfn : X.fn = fn
  calm : X.calm = true
  chk : scChk SC fn N vs ls gs = true
section
variable {X : Cx} {SC : Scope} {fn : Str → Bool} {N : List Str} {vs ls : List Nat} {gs : List Str} {i : Nat} {x : Str}
theorem Sc.nd (E : Sc X SC fn N vs ls gs) : X.N.Nodup := by
  have h := E.chk
  simp only [scChk, Bool.and_eq_true, decide_eq_true_eq] at h
  rw [E.n]
  exact h.1.1.1
theorem Sc.vis (E : Sc X SC fn N vs ls gs) (hi : i ∈ vs) (hx : N[i]? = some x) : Vis X.env.scope x ∧ (x == ("__debug__" : Str)) = false ∧ (x == ("__classdict__" : Str)) = false := by
  have h := E.chk
  simp only [scChk, Bool.and_eq_true, decide_eq_true_eq] at h
  have q := List.all_eq_true.mp h.1.1.2 i hi
  simp only [hx, Bool.and_eq_true, Bool.not_eq_true'] at q
  obtain ⟨⟨q1, q2⟩, q3⟩ := q
  refine ⟨?_, q2, q3⟩
  unfold Vis
  rw [E.sc]
  split at q1 <;> first | exact .inl (by assumption) | exact .inr (.inl (by assumption)) | exact .inr (.inr (by assumption)) | cases q1
theorem Sc.loc (E : Sc X SC fn N vs ls gs) (hi : i ∈ ls) (hx : N[i]? = some x) : L2.Loc X.env.scope x ∧ (X.fn x = true ∨ X.env.scope.names.lookup x = some .local) := by
  have h := E.chk
  simp only [scChk, Bool.and_eq_true, decide_eq_true_eq] at h
  have q := List.all_eq_true.mp h.1.2 i hi
  simp only [hx] at q
  unfold L2.Loc
  rw [E.sc, E.hfn]
  split at q
  · exact ⟨.inl (by assumption), .inr (by assumption)⟩
  · exact ⟨.inr (by assumption), .inl q⟩
  · cases q
theorem Sc.gl (E : Sc X SC fn N vs ls gs) (hx : x ∈ gs) : Gl X x ∧ (x == ("__debug__" : Str)) = false ∧ x ≠ ("__name__" : Str) := by
  have h := E.chk
  simp only [scChk, Bool.and_eq_true, decide_eq_true_eq] at h
  have q := List.all_eq_true.mp h.2 x hx
  simp only [Bool.and_eq_true, Bool.not_eq_true', decide_eq_false_iff_not] at q
  obtain ⟨⟨q1, q2⟩, q3⟩ := q
  refine ⟨?_, q2, q3⟩
  show X.env.scope.names.lookup x = _
  rw [E.sc]
  split at q1
  · assumption
  · cases q1
/-- a comprehension's block -/
theorem Sc.blk {scope : Scope} {vs' ls' : List Nat} {gs' : List Str} (E : Sc X SC fn N vs ls gs) (h : scChk (relS scope SC) (fun x => scope.names.lookup x == some .cell) N vs' ls' gs' = true)
    (s : Shared) (H : Hp) (C : Addr) (cl : List (Str × Addr)) (fp : List Addr) : Sc (X.blk s H scope (compEnvC scope cl C X.env) fp) (relS scope SC) (fun x => scope.names.lookup x == some .cell) N vs' ls' gs' :=
  ⟨E.n, by show relS scope X.env.scope = _; rw [E.sc], rfl, E.calm, h⟩
end

section
variable {X : Cx} {T : List Addr} {SC : Scope} {fn : Str → Bool} {N : List Str} {vs ls : List Nat} {gs : List Str} {a b c : Expr} {pos p : Pos}
theorem r_v (E : Sc X SC fn N vs ls gs) (i : Nat) {x : Str} (hx : N[i]? = some x := by rfl) (hi : i ∈ vs := by decide) : RE X T (.Name x p) (wVar i) :=
  let h := E.vis hi hx
  r_var i (by rw [E.n]; exact hx) h.1 h.2.1 h.2.2

/-! ### statements -/
theorem q_nil : RSs X T [] wPass := PSs.imp pss_nil fun _ _ _ => s_pass
theorem q_cons {st : Stmt} {rest : List Stmt} {t u : WS} (h1 : RS X T st t) (h2 : RSs X T rest u) : RSs X T (st :: rest) (wSeq t u) := PSs.imp (pss_cons h1 h2) fun _ _ _ => s_seq
theorem q_one {st : Stmt} {t : WS} (h1 : RS X T st t) : RSs X T [st] t := pss_one h1
theorem q_pass : RS X T (.Pass pos) wPass := PS.imp ps_pass fun _ _ _ => s_pass
theorem q_break : RS X T (.Break pos) wBreak := PS.imp ps_break fun _ _ _ => s_break
theorem q_cont : RS X T (.Continue pos) wCont := PS.imp ps_continue fun _ _ _ => s_cont
theorem q_doc {x j pos'} : RS X T (.Expr (.Constant (.str x) j pos) pos') wPass := PS.imp ps_doc fun _ _ _ => s_pass
theorem q_ret {e : Expr} {w : WE} (h : RE X T e w) : RS X T (.Return (some e) pos) (wRet w) := PS.imp (ps_ret h) fun _ _ _ => s_ret
theorem q_retN : RS X T (.Return none pos) wRetN := PS.imp ps_retN fun _ _ _ => s_retN
theorem q_expr {e : Expr} {w : WE} (h : RE X T e w) (hs : swapsWith e none pos.line X.env = pure false := by rfl) : RS X T (.Expr e pos) (wDrop w) := PS.imp (ps_expr h hs) fun _ _ _ => s_drop
theorem q_if {c : Expr} {s1 s2 : List Stmt} {t : WT} {u v : WS} (hc : RT X T c t) (h1 : RSs X T s1 u) (h2 : RSs X T s2 v) : RS X T (.If c s1 s2 pos) (wIfS t u v) := PS.imp (ps_if hc h1 h2) fun _ _ _ => s_if
/-- name = e -/
theorem q_set (E : Sc X SC fn N vs ls gs) (i : Nat) {x : Str} {e : Expr} {w : WE} {pos' : Pos} (he : RE X T e w) (hx : N[i]? = some x := by rfl) (hi : i ∈ ls := by decide) (hs : swapsWith e (some (.Name x pos')) pos.line X.env = pure false := by rfl) : RS X T (.Assign [.Name x pos'] e pos) (wAsg w (gN i)) :=
  let h := E.loc hi hx
  PS.imp (ps_set E.nd (by rw [E.n]; exact hx) h.1 he hs h.2) fun D τ H q => by
    obtain ⟨ρ, σ, S, Qd, s, sl, w1, c⟩ := q
    exact ⟨ρ, σ, S, _, s, sl, w1, fun H1 ρ1 S1 d v k1 p1 s1 r1 w2 => c.nx H1 ρ1 S1 _ _ k1 p1 s1 ((sl.mono k1 p1).set i r1) w2⟩
abbrev RG (X : Cx) (T : List Addr) (e : Expr) (w : WG) : Prop := PG X e (lG (gx X T) w)
abbrev RGs (X : Cx) (T : List Addr) (e : List Expr) (w : WGs) : Prop := PGs X e (lGs (gx X T) w)
abbrev RGv (X : Cx) (T : List Addr) (us : List Nat) (e : Expr) (w : WG) : Prop := PG X e (lGv (gx X T) us w)
abbrev RGsv (X : Cx) (T : List Addr) (us : List Nat) (e : List Expr) (w : WGs) : Prop := PGs X e (lGsv (gx X T) us w)
theorem g_n (E : Sc X SC fn N vs ls gs) (i : Nat) {x : Str} (hx : N[i]? = some x := by rfl) (hi : i ∈ ls := by decide) : RG X T (.Name x p) (gN i) :=
  let h := E.loc hi hx
  PG.imp (pg_name E.nd (by rw [E.n]; exact hx) h.1 h.2) fun _ _ _ _ => s_gN
theorem gv_n (E : Sc X SC fn N vs ls gs) (i : Nat) {us : List Nat} {x : Str} (hx : N[i]? = some x := by rfl) (hi : i ∈ ls := by decide) (hu : i ∈ us := by decide) : RGv X T us (.Name x p) (gN i) :=
  let h := E.loc hi hx
  PG.imp (pg_name E.nd (by rw [E.n]; exact hx) h.1 h.2) fun _ _ _ _ => s_gNv hu
theorem g_0 : RGs X T [] gs0 := PGs.imp pgs_nil fun _ _ _ _ => s_gs0
theorem gv_0 {us : List Nat} : RGsv X T us [] gs0 := PGs.imp pgs_nil fun _ _ _ _ => s_gs0v
theorem g_c {e : Expr} {es : List Expr} {g : WG} {r : WGs} (h1 : RG X T e g) (h2 : RGs X T es r) (hs : (assignEach (e :: es) X.env).map (·.2) = assign e X.env :: (assignEach es X.env).map (·.2) := by rfl) : RGs X T (e :: es) (gsC g r) := PGs.imp (pgs_cons h1 h2 hs) fun _ _ _ _ => s_gsC
theorem gv_c {us : List Nat} {e : Expr} {es : List Expr} {g : WG} {r : WGs} (h1 : RGv X T us e g) (h2 : RGsv X T us es r) (hs : (assignEach (e :: es) X.env).map (·.2) = assign e X.env :: (assignEach es X.env).map (·.2) := by rfl) : RGsv X T us (e :: es) (gsC g r) := PGs.imp (pgs_cons h1 h2 hs) fun _ _ _ _ => s_gsCv
theorem gs0_len : ∀ ds σ S Q, gs0 ds σ S Q → ds.length = 0 := fun ds σ S Q h => by
  cases ds with
  | nil => rfl
  | cons _ _ => exact h.elim
def GsLen (g : WGs) (n : Nat) : Prop := ∀ ds σ S Q, g ds σ S Q → ds.length = n
theorem GsLen.nil : GsLen gs0 0 := gs0_len
theorem GsLen.cons {g : WG} {r : WGs} {n : Nat} (hg : ∀ d σ S (Q Q' : Sl → Sto → Prop), (∀ σ S, Q σ S → Q' σ S) → g d σ S Q → g d σ S Q') (hx : ∀ d σ S, g d σ S (fun _ _ => False) → False) (h : GsLen r n) : GsLen (gsC g r) (n + 1) := fun ds σ S Q w => by
  cases ds with
  | nil => exact w.elim
  | cons d ds =>
    by_cases e : ds.length = n
    · simp [e]
    · exact (hx d σ S (hg d σ S _ _ (fun σ1 S1 z => e (h _ _ _ _ z)) w)).elim
structure GOk (g : WG) : Prop where
  mono : ∀ d σ S (Q Q' : Sl → Sto → Prop), (∀ σ S, Q σ S → Q' σ S) → g d σ S Q → g d σ S Q'
  strict : ∀ d σ S, g d σ S (fun _ _ => False) → False
structure GsOk (g : WGs) (n : Nat) : Prop where
  mono : ∀ d σ S (Q Q' : Sl → Sto → Prop), (∀ σ S, Q σ S → Q' σ S) → g d σ S Q → g d σ S Q'
  strict : ∀ d σ S, g d σ S (fun _ _ => False) → False
  len : GsLen g n
theorem GOk.n {i : Nat} : GOk (gN i) := ⟨fun _ _ _ _ _ k h => k _ _ h, fun _ _ _ h => h⟩
theorem GsOk.nil : GsOk gs0 0 := ⟨fun d _ _ _ _ k h => by
    cases d with
    | nil => exact k _ _ h
    | cons _ _ => exact h, fun d _ _ h => by
    cases d with
    | nil => exact h
    | cons _ _ => exact h, GsLen.nil⟩
theorem GsOk.cons {g : WG} {r : WGs} {n : Nat} (h1 : GOk g) (h2 : GsOk r n) : GsOk (gsC g r) (n + 1) := ⟨fun d σ S Q Q' k h => by
    cases d with
    | nil => exact h
    | cons _ _ => exact h1.mono _ _ _ _ _ (fun σ1 S1 z => h2.mono _ _ _ _ _ k z) h, fun d σ S h => by
    cases d with
    | nil => exact h
    | cons _ _ => exact h1.strict _ _ _ (h1.mono _ _ _ _ _ (fun σ1 S1 z => h2.strict _ _ _ z) h), GsLen.cons h1.mono h1.strict h2.len⟩
theorem GOk.t {r : WGs} {n : Nat} (h : GsOk r n) : GOk (gT r) := ⟨fun d σ S Q Q' k w => by
    cases d with
    | tup xs => exact h.mono _ _ _ _ _ k w
    | _ => exact w, fun d σ S w => by
    cases d with
    | tup xs => exact h.strict _ _ _ w
    | _ => exact w⟩
theorem g_t (E : Sc X SC fn N vs ls gs) {es : List Expr} {k : Nat} {r : WGs} {n : Nat} (h : RGs X T es r) (ok : GsOk r n) (hn : (assignEach es X.env).length = n := by rfl) (hst : (assignEach es X.env).findIdx? (·.1) = none := by rfl) : RG X T (.Tuple es k pos) (gT r) :=
  PG.imp (pg_tup E.calm h hn hst) fun _ _ _ _ => s_gT ok.len
theorem gv_t (E : Sc X SC fn N vs ls gs) {us : List Nat} {es : List Expr} {k : Nat} {r : WGs} {n : Nat} (h : RGsv X T us es r) (ok : GsOk r n) (hn : (assignEach es X.env).length = n := by rfl) (hst : (assignEach es X.env).findIdx? (·.1) = none := by rfl) : RGv X T us (.Tuple es k pos) (gT r) :=
  PG.imp (pg_tup E.calm h hn hst) fun _ _ _ _ => s_gTv ok.len
/-- target = e, any target -/
theorem q_asg {tg e : Expr} {w : WE} {g : WG} (he : RE X T e w) (hg : RG X T tg g) (hs : swapsWithSole [tg] e pos.line X.env = pure false := by rfl) (hw : swappedStores [tg] e X.env = pure none := by rfl)
    (h1 : (assignEach [tg] X.env).map (·.2) = [assign tg X.env] := by rfl) : RS X T (.Assign [tg] e pos) (wAsg w g) := PS.imp (ps_asg he hg hs hw h1) fun _ _ _ => s_asg
theorem PIp.imp {op : Operator} {t t' : TIp} (h : PIp X op t) (k : ∀ x y H Q, t' x y H Q → t x y H Q) : PIp X op t' := fun pins s σ H x y v u Q I r1 r2 q => h pins s σ H x y v u Q I r1 r2 (k _ _ _ _ q)
theorem ip_of {op : Operator} {r : R2} (h : OpR X (inplaceOp op) r) : PIp X op r := fun pins s σ H x y v u Q I r1 r2 q => h pins s σ H x y v u Q I r1 r2 q
/-- name op= e -/
theorem q_aug (E : Sc X SC fn N vs ls gs) (i : Nat) {x : Str} {e : Expr} {w : WE} {op : Operator} {f : Op2} {pos' : Pos} (ho : OpD X T (inplaceOp op) f) (he : RE X T e w) (hx : N[i]? = some x := by rfl) (hi : i ∈ ls := by decide) : RS X T (.AugAssign (.Name x pos') op e pos) (wAug i w f) :=
  let h := E.loc hi hx
  PS.imp (ps_aug E.nd (by rw [E.n]; exact hx) h.1 he (ip_of ho) h.2) fun _ _ _ => s_aug
/-- += : ints, texts; a list grows -/
def dIadd : Op2 := fun x y S Q => match x, y with
  | .int i, .int j => Q (.int (i + j)) S
  | .str i, .str j => i.length + j.length ≤ sizeLine ∧ Q (.str (i ++ j)) S
  | .obj m, .obj n => match S[m]?, S[n]? with
    | some (.lst xs), some (.lst ys) => xs.length + ys.length ≤ sizeLine ∧ Q (.obj m) (S.set m (.lst (xs ++ ys)))
    | _, _ => False
  | _, _ => False
theorem i_add : OpD X T (inplaceOp .Add) dIadd := by
  refine opD ((iop_add.or iop_add_str).or iop_ext) fun H ρ S dx dy x y Qd Q s r1 r2 w c => ?_
  unfold dIadd at w
  split at w
  · exact .inl (.inl ⟨_, _, r1, r2, c.self s rel_int w⟩)
  · exact .inl (.inr ⟨_, _, r1, r2, by exact w.1, c.self s rel_str w.2⟩)
  · rename_i m n
    split at w
    · rename_i xs ys e1 e2
      obtain ⟨a, h1, rfl⟩ := r1
      obtain ⟨b, h2, rfl⟩ := r2
      obtain ⟨us, g1, rs1⟩ := s.lst e1 h1
      obtain ⟨vs, g2, rs2⟩ := s.lst e2 h2
      refine .inr ⟨a, b, us, vs, rfl, rfl, g1, g2, by rw [← rs1.length, ← rs2.length]; exact w.1, ?_⟩
      have k1 : Kp H (upd H a (.lst (us ++ vs))) := Kp.mut g1 trivial
      exact c _ ρ _ _ _ k1 (List.prefix_refl _) (s.setObj (o := .lst (xs ++ ys)) h1 g1 trivial ⟨_, upd_same, RelDs.mono k1 (List.prefix_refl _) _ (rs1.append rs2)⟩) (rel_obj h1) w.2
    · exact w.elim
  · exact w.elim
theorem i_sub : OpD X T (inplaceOp .Sub) (dI (fun _ _ => True) fun i j => .int (i - j)) := Px.opI0 iop_sub fun _ _ _ _ => rfl
theorem i_fdiv : OpD X T (inplaceOp .FloorDiv) (dI CDiv fun i j => .int (i / j)) := Px.opI iop_fdiv fun _ _ _ _ => rfl
theorem i_mul : OpD X T (inplaceOp .Mult) (dI CMul fun i j => .int (i * j)) := Px.opI iop_mul fun _ _ _ _ => rfl

/-! ### o[i] = e -/
/-- a list's item stored -/
def gIx (wo wi : WE) : WG := fun d σ S Q => wo σ S fun o S1 => wi σ S1 fun i S2 => match o, i with
  | .obj n, .int k => (match S2[n]? with
    | some (.lst xs) => (match ixN xs.length k with
      | some j => Q σ (S2.set n (.lst (xs.set j d)))
      | none => False)
    | _ => False)
  | _, _ => False
theorem g_ix {o i : Expr} {wo wi : WE} (ho : RE X T o wo) (hi : RE X T i wi)
    (ha : ∀ v, assign (.Subscript o i pos) X.env v = (do
      let ov ← holding [v] (eval o X.env)
      let iv ← holding [v, ov] (eval i X.env)
      standAt pos
      holding [v, ov, iv] (setItem ov iv v)
      release [v, ov, iv] []) := by intro _; rfl) : RG X T (.Subscript o i pos) (gIx wo wi) := PG.imp (pg_sub ho hi set_list ha) fun v τ H Q h => by
  obtain ⟨ρ, σ, S, d, Qd, s, sl, r, w, c⟩ := h
  refine ⟨ρ, σ, S, _, s, sl, w, fun H1 ρ1 S1 dx x k1 p1 s1 r1 w1 => ?_⟩
  refine ⟨ρ1, σ, S1, _, s1, sl.mono k1 p1, w1, fun H2 ρ2 S2 dy y k2 p2 s2 r2 w2 => ?_⟩
  cases dx with
  | obj n =>
    cases dy with
    | int k =>
      obtain ⟨a, ha, e⟩ := RelD.mono k2 p2 _ r1
      dsimp only at w2
      split at w2
      · rename_i xs e1
        obtain ⟨us, g1, rs⟩ := s2.lst e1 ha
        split at w2
        · rename_i j ej
          refine ⟨a, us, k, j, e, r2, g1, by rw [← rs.length]; exact ej, ?_⟩
          have k3 : Kp H2 (upd H2 a (.lst (us.set j v))) := Kp.mut g1 trivial
          have k12 := k1.trans k2
          have p12 := p1.trans p2
          exact c _ ρ2 _ σ τ (k12.trans k3) p12 (s2.setObj (o := .lst (xs.set j d)) ha g1 trivial ⟨_, upd_same, RelDs.mono k3 (List.prefix_refl _) _ (rs.set j (RelD.mono k12 p12 _ r))⟩) (sl.mono (k12.trans k3) p12) w2
        · exact w2.elim
      · exact w2.elim
    | _ => exact w2.elim
  | _ => exact w2.elim
/-- d[k] = e -/
def wDp (wo wi wv : WE) : WS := fun E σ S => wv σ S fun v S1 => wo σ S1 fun o S2 => wi σ S2 fun i S3 => match o, keyD i with
  | .obj n, some k => (match S3[n]? with
    | some (.dct kvs) => kvs.length < sizeLine ∧ E.nx σ (S3.set n (.dct (dPut kvs k v)))
    | _ => False)
  | _, _ => False
theorem q_dp {o i e : Expr} {wo wi wv : WE} {pos' : Pos} {k : Nat} (hr : Room k X.A) (ho : RE X T o wo) (hi : RE X T i wi) (hv : RE X T e wv) (hs : swapsWith e (some (.Subscript o i pos')) pos.line X.env = pure false := by rfl) : RS X T (.Assign [.Subscript o i pos'] e pos) (wDp wo wi wv) :=
  PS.imp (ps_dput (hu_of hr) ho hi hv hs) fun D τ H h => by
  obtain ⟨ρ, σ, S, E, s, sl, w, c⟩ := h
  refine ⟨ρ, σ, S, _, s, sl, w, fun H1 ρ1 S1 dv v k1 p1 s1 r1 w1 => ?_⟩
  refine ⟨ρ1, σ, S1, _, s1, sl.mono k1 p1, w1, fun H2 ρ2 S2 dx x k2 p2 s2 r2 w2 => ?_⟩
  refine ⟨ρ2, σ, S2, _, s2, sl.mono (k1.trans k2) (p1.trans p2), w2, fun H3 ρ3 S3 dy y k3 p3 s3 r3 w3 => ?_⟩
  cases dx with
  | obj n =>
    obtain ⟨a, ha, e⟩ := RelD.mono k3 p3 _ r2
    split at w3
    · rename_i n' ky e1 e2
      cases e1
      split at w3
      · rename_i kvs e3
        obtain ⟨b, hb, us, g1, rs⟩ := s3.ob n _ e3
        rw [ha] at hb; cases hb
        have hv' := RelD.mono (k2.trans k3) (p2.trans p3) _ r1
        refine ⟨a, _, e, .inl ⟨us, _, g1, keyD_ok r3 e2, by rw [← rs.length]; exact w3.1, rfl⟩, ?_⟩
        have k4 : Kp H3 (upd H3 a (.dK (putK us ky v))) := Kp.mut g1 trivial
        have kk := (k1.trans k2).trans k3
        have pp := (p1.trans p2).trans p3
        exact c.nx _ ρ3 _ σ τ (kk.trans k4) pp (s3.setObj (o := .dct (dPut kvs _ dv)) ha g1 trivial ⟨_, upd_same, (rs.put hv').mono k4 (List.prefix_refl _)⟩) (sl.mono (kk.trans k4) pp) w3.2
      · exact w3.elim
    · exact w3.elim
  | _ => exact w3.elim
/-- {"a": e, "b": f}, the keys written texts -/
def wDc : List (Str × WE) → WE := fun kws σ S Q => go S.length kws σ (S ++ [.dct []]) [] Q
where
  go (n : Nat) : List (Str × WE) → Sl → Sto → List (Key × D) → VKd → Prop
    | [], _, S, acc, Q => (match S[n]? with
      | some (.dct []) => Q (.obj n) (S.set n (.dct (acc.foldl (fun m kv => dPut m kv.1 kv.2) [])))
      | _ => False)
    | (k, w) :: r, σ, S, acc, Q => w σ S fun v S1 => go n r σ S1 (acc ++ [(.inr k, v)]) Q

/-! ### what is walked -/
abbrev RI (X : Cx) (T : List Addr) (tg e : Expr) (w : WI) : Prop := PI X tg e (lI (gx X T) w)
/-- a list, a tuple -/
def wIt (wa : WE) : WI := fun σ S R => wa σ S fun x S1 => match x with
  | .obj n => (match S1[n]? with
    | some (.lst xs) => R xs (fun S' => S'[n]? = some (.lst xs)) S1
    | _ => False)
  | .sll xs => R xs (fun _ => True) S1
  | _ => False
def wItT (wa : WE) : WI := fun σ S R => wa σ S fun x S1 => match x with
  | .tup xs => R xs (fun _ => True) S1
  | _ => False
theorem RelDs.some {K : PySem.W.Frag} {H : Hp} {ρ : List Addr} {ds : List D} {vs : List V} {i : Nat} {d : D} (r : RelDs K H ρ ds vs) (h : ds[i]? = some d) : ∃ v, vs[i]? = some v ∧ RelD K H ρ d v := r.get h
theorem i_l {tg l : Expr} {wa : WE} (h : RE X T l wa) : RI X T tg l (wIt wa) := PI.imp (pi_list h) fun τ H R q => by
  obtain ⟨ρ, σ, S, Rd, s, sl, w, c⟩ := q
  refine ⟨ρ, σ, S, _, s, sl, w, fun H1 ρ1 S1 dx x k1 p1 s1 r1 w1 => ?_⟩
  cases dx with
  | obj n =>
    obtain ⟨a, ha, e⟩ := r1
    dsimp only at w1
    split at w1
    · rename_i xs e1
      obtain ⟨us, g1, rs⟩ := s1.lst e1 ha
      refine ⟨a, e, ⟨us, SqL.of g1⟩, c H1 ρ1 S1 xs _ _ k1 p1 s1 (fun i H2 ρ2 S2 k2 p2 s2 hc => ?_) w1⟩
      obtain ⟨us2, g2, rs2⟩ := s2.lst hc (pre_get p2 ha)
      refine ⟨fun d hd => ?_, fun hl => ⟨us2, SqL.of g2, by rw [← rs2.length]; exact hl⟩⟩
      obtain ⟨v, hv, rv⟩ := rs2.get hd
      refine ⟨⟨us2, v, SqL.of g2, hv⟩, fun x H3 y => ?_⟩
      obtain ⟨rfl, y⟩ := y
      have e3 := y us2 (SqL.of g2)
      rw [hv] at e3
      cases e3
      exact ⟨ρ2, Kp.refl _, List.prefix_refl _, s2, rv⟩
    · exact w1.elim
  | sll xs =>
    obtain ⟨a, us, e, g1, rs⟩ := r1
    refine ⟨a, e, ⟨us, g1.sq⟩, c H1 ρ1 S1 xs _ _ k1 p1 s1 (fun i H2 ρ2 S2 k2 p2 s2 hc => ?_) w1⟩
    have g2 := (k2.slK g1).sq
    refine ⟨fun d hd => ?_, fun hl => ⟨us, g2, by rw [← rs.length]; exact hl⟩⟩
    obtain ⟨v, hv, rv⟩ := rs.get hd
    refine ⟨⟨us, v, g2, hv⟩, fun x H3 y => ?_⟩
    obtain ⟨rfl, y⟩ := y
    have e3 := y us g2
    rw [hv] at e3
    cases e3
    exact ⟨ρ2, Kp.refl _, List.prefix_refl _, s2, RelD.mono k2 p2 _ rv⟩
  | _ => exact w1.elim
theorem i_t {tg l : Expr} {wa : WE} (h : RE X T l wa) : RI X T tg l (wItT wa) := PI.imp (pi_tup h) fun τ H R q => by
  obtain ⟨ρ, σ, S, Rd, s, sl, w, c⟩ := q
  refine ⟨ρ, σ, S, _, s, sl, w, fun H1 ρ1 S1 dx x k1 p1 s1 r1 w1 => ?_⟩
  cases dx with
  | tup xs =>
    obtain ⟨a, us, e, g1, rs⟩ := r1
    refine ⟨a, e, ⟨us, g1⟩, c H1 ρ1 S1 xs _ _ k1 p1 s1 (fun i H2 ρ2 S2 k2 p2 s2 hc => ?_) w1⟩
    have g2 := k2.sqT g1
    refine ⟨fun d hd => ?_, fun hl => ⟨us, g2, by rw [← rs.length]; exact hl⟩⟩
    obtain ⟨v, hv, rv⟩ := rs.get hd
    refine ⟨⟨us, v, g2, hv⟩, fun x H3 y => ?_⟩
    obtain ⟨rfl, y⟩ := y
    have e3 := y us g2
    rw [hv] at e3
    cases e3
    exact ⟨ρ2, Kp.refl _, List.prefix_refl _, s2, RelD.mono k2 p2 _ rv⟩
  | _ => exact w1.elim
/-- range(a, b, c): the ints -/
def rng (lo : Int) (n : Nat) (c : Int) : List D := (List.range n).map fun i => .int (lo + (i : Nat) * c)
def wR1 (wa : WE) : WI := fun σ S R => wa σ S fun x S1 => match x with
  | .int n => (-(2 ^ 62) ≤ n ∧ n < 2 ^ 62) ∧ R (rng 0 n.toNat 1) (fun _ => True) S1
  | _ => False
def wR2 (wa wb : WE) : WI := fun σ S R => wa σ S fun x S1 => wb σ S1 fun y S2 => match x, y with
  | .int i, .int j => (-(2 ^ 62) ≤ i ∧ i < 2 ^ 62 ∧ -(2 ^ 62) ≤ j ∧ j < 2 ^ 62) ∧ R (rng i (j - i).toNat 1) (fun _ => True) S2
  | _, _ => False
def wR3 (wa wb wc : WE) : WI := fun σ S R => wa σ S fun x S1 => wb σ S1 fun y S2 => wc σ S2 fun z S3 => match x, y, z with
  | .int i, .int j, .int k => ∃ n, RgC i j k n ∧ R (rng i n k) (fun _ => True) S3
  | _, _, _ => False
theorem rng_get {lo c : Int} {n i : Nat} {d : D} (h : (rng lo n c)[i]? = some d) : i < n ∧ d = .int (lo + (i : Nat) * c) := by
  unfold rng at h
  rw [List.getElem?_map] at h
  cases e : (List.range n)[i]? with
  | none => rw [e] at h; cases h
  | some j =>
    rw [e] at h
    have e' := List.getElem?_range (n := n) (i := i) (by have := (List.getElem?_eq_some_iff.mp e).1; rwa [List.length_range] at this)
    rw [e'] at e
    cases e
    cases h
    exact ⟨by have := (List.getElem?_eq_some_iff.mp e').1; rwa [List.length_range] at this, rfl⟩
theorem rng_len {lo c : Int} {n : Nat} : (rng lo n c).length = n := by simp [rng]
theorem del_r {G : Gx} {H : Hp} {ρ : List Addr} {lo : Int} {n : Nat} : Deliv G H ρ (Itr lo n) (rng lo n 1) (fun _ => True) := fun i H2 ρ2 S2 k2 p2 s2 _ => by
  refine ⟨fun d hd => ?_, fun hl => by rw [rng_len] at hl; exact hl⟩
  obtain ⟨hi, rfl⟩ := rng_get hd
  refine ⟨hi, fun x H3 y => ?_⟩
  obtain ⟨rfl, rfl⟩ := y
  exact ⟨ρ2, Kp.refl _, List.prefix_refl _, s2, by rw [Int.mul_one]; exact rel_int⟩
theorem del_c {G : Gx} {H : Hp} {ρ : List Addr} {lo c : Int} {n : Nat} : Deliv G H ρ (Itc lo c n) (rng lo n c) (fun _ => True) := fun i H2 ρ2 S2 k2 p2 s2 _ => by
  refine ⟨fun d hd => ?_, fun hl => by rw [rng_len] at hl; exact hl⟩
  obtain ⟨hi, rfl⟩ := rng_get hd
  refine ⟨hi, fun x H3 y => ?_⟩
  obtain ⟨rfl, rfl⟩ := y
  exact ⟨ρ2, Kp.refl _, List.prefix_refl _, s2, rel_int⟩
theorem i_r1 {tg e : Expr} {wa : WE} (hg : Gl X "range") (hm : X.mg "range" = none) (h : RE X T e wa) (hs : starEach [e] X.env = [(false, eval e X.env)] := by rfl) : RI X T tg (.Call (.Name "range" p) [e] [] pos) (wR1 wa) :=
  PI.imp (pi_range1 hg hm (pa_cons h pa_nil hs) hs) fun τ H R q => by
  obtain ⟨ρ, σ, S, Rd, s, sl, w, c⟩ := q
  refine ⟨ρ, σ, S, _, s, sl, w, fun H1 ρ1 S1 dx x k1 p1 s1 r1 w1 => ?_⟩
  cases dx with
  | int n =>
    have r1 : x = .int n := r1
    subst r1
    exact ⟨n, rfl, w1.1.1, w1.1.2, c H1 ρ1 S1 _ _ _ k1 p1 s1 del_r w1.2⟩
  | _ => exact w1.elim
theorem i_r2 {tg e f : Expr} {wa wb : WE} (hg : Gl X "range") (hm : X.mg "range" = none) (h : RE X T e wa) (h2 : RE X T f wb) (hs : starEach [e, f] X.env = [(false, eval e X.env), (false, eval f X.env)] := by rfl) (hs2 : starEach [f] X.env = [(false, eval f X.env)] := by rfl) : RI X T tg (.Call (.Name "range" p) [e, f] [] pos) (wR2 wa wb) :=
  PI.imp (pi_range2 hg hm (pa_cons h (pa_cons h2 pa_nil hs2) (by rw [hs, hs2])) hs hs2) fun τ H R q => by
  obtain ⟨ρ, σ, S, Rd, s, sl, w, c⟩ := q
  refine ⟨ρ, σ, S, _, s, sl, w, fun H1 ρ1 S1 dx x k1 p1 s1 r1 w1 => ?_⟩
  refine ⟨ρ1, σ, S1, _, s1, sl.mono k1 p1, w1, fun H2 ρ2 S2 dy y k2 p2 s2 r2 w2 => ?_⟩
  cases dx with
  | int i =>
    cases dy with
    | int j =>
      have r1 : x = .int i := r1
      have r2 : y = .int j := r2
      subst r1 r2
      exact ⟨i, j, rfl, w2.1, c H2 ρ2 S2 _ _ _ (k1.trans k2) (p1.trans p2) s2 del_r w2.2⟩
    | _ => exact w2.elim
  | _ => exact w2.elim
theorem i_r3 {tg e f g : Expr} {wa wb wc : WE} (hg : Gl X "range") (hm : X.mg "range" = none) (h : RE X T e wa) (h2 : RE X T f wb) (h3 : RE X T g wc)
    (hs1 : starEach [e, f, g] X.env = (false, eval e X.env) :: starEach [f, g] X.env := by rfl) (hs2 : starEach [f, g] X.env = (false, eval f X.env) :: starEach [g] X.env := by rfl) (hs3 : starEach [g] X.env = (false, eval g X.env) :: starEach [] X.env := by rfl)
    (hs : starEach [e, f, g] X.env = (false, eval e X.env) :: starEach [f, g] X.env := by rfl) (hpl : (backTo pos (starEach [f, g] X.env)).any (·.1) = false := by rfl) : RI X T tg (.Call (.Name "range" p) [e, f, g] [] pos) (wR3 wa wb wc) :=
  PI.imp (pi_range3 hg hm (pa_cons h (pa_cons h2 (pa_cons h3 pa_nil hs3) hs2) hs1) hs hpl) fun τ H R q => by
  obtain ⟨ρ, σ, S, Rd, s, sl, w, c⟩ := q
  refine ⟨ρ, σ, S, _, s, sl, w, fun H1 ρ1 S1 dx x k1 p1 s1 r1 w1 => ?_⟩
  refine ⟨ρ1, σ, S1, _, s1, sl.mono k1 p1, w1, fun H2 ρ2 S2 dy y k2 p2 s2 r2 w2 => ?_⟩
  refine ⟨ρ2, σ, S2, _, s2, sl.mono (k1.trans k2) (p1.trans p2), w2, fun H3 ρ3 S3 dz z k3 p3 s3 r3 w3 => ?_⟩
  cases dx with
  | int i =>
    cases dy with
    | int j =>
      cases dz with
      | int k =>
        have r1 : x = .int i := r1
        have r2 : y = .int j := r2
        have r3 : z = .int k := r3
        subst r1 r2 r3
        obtain ⟨n, hn, w3⟩ := w3
        exact ⟨i, j, k, n, rfl, hn, c H3 ρ3 S3 _ _ _ ((k1.trans k2).trans k3) ((p1.trans p2).trans p3) s3 del_c w3⟩
      | _ => exact w3.elim
    | _ => exact w3.elim
  | _ => exact w3.elim
theorem q_for (E : Sc X SC fn N vs ls gs) {tg iter : Expr} {body : List Stmt} {i : WI} {g : WG} {b : WS} (hp : PassesOwn (model X.prog X.w) X.A X.env X.xe) (hi : RI X T tg iter i) (hg : RG X T tg g) (hb : RSs X T body b)
    (hs : ∀ x, foldedSetIterable iter X.env x = pure x := by intro _; rfl) : RS X T (.For tg iter body [] pos) (wFor i g b) := PS.imp (ps_for hp E.calm hi hg hb hs) fun _ _ _ => s_for
theorem q_while {c : Expr} {body : List Stmt} {t : WT} {b : WS} (hp : PassesOwn (model X.prog X.w) X.A X.env X.xe) (hc : RT X T c t) (hb : RSs X T body b) : RS X T (.While c body [] pos) (wWhile t b) := PS.imp (ps_while hp hc hb) fun _ _ _ => s_while
end
end Px
/-! Px5: comprehensions, calls, defs, further walks, methods of lists. -/
namespace Px
open PySem PySem.Spec PyProof.Rows L2

section
variable {X : Cx} {T : List Addr} {SC : Scope} {fn : Str → Bool} {N : List Str} {vs ls : List Nat} {gs : List Str} {a b c : Expr} {pos p : Pos}
/-! ### comprehensions -/
abbrev RTs (X : Cx) (T : List Addr) (ifs : List Expr) (w : WT) : Prop := PTs X ifs (lT (gx X T) w)
theorem PTs.imp {ifs : List Expr} {t t' : TT} (h : PTs X ifs t) (k : ∀ σ H Q, t' σ H Q → t σ H Q) : PTs X ifs t' := ⟨fun pins s σ H Q I hq => h.run pins s σ H Q I (k _ _ _ hq)⟩
theorem ts_0 : RTs X T [] wYes := PTs.imp pts_nil fun τ H Q q => by
  obtain ⟨ρ, σ, S, Rd, s, sl, w, c⟩ := q
  exact c H ρ S true (Kp.refl _) (List.prefix_refl _) s w
theorem ts_1 {c : Expr} {t : WT} (h : RT X T c t) : RTs X T [c] t := pts_one h
theorem r_lc (E : Sc X SC fn N vs ls gs) {elt tg iter : Expr} {ifs : List Expr} {scope : Scope} (own : List (Str × Nat)) {i : WI} {g : WG} {t : WT} {e : WE} (hi : RI X T tg iter i) (ok : blkC N SC scope own = true)
    (hg : ∀ (s : Shared) (H : Hp) (C : Addr) (cl : List (Str × Addr)) (fp : List Addr), RGv (X.blk s H scope (compEnvC scope cl C X.env) fp) T (own.map (·.2)) tg g) (ht : ∀ (s : Shared) (H : Hp) (C : Addr) (cl : List (Str × Addr)) (fp : List Addr), RTs (X.blk s H scope (compEnvC scope cl C X.env) fp) T ifs t)
    (he : ∀ (s : Shared) (H : Hp) (C : Addr) (cl : List (Str × Addr)) (fp : List Addr), RE (X.blk s H scope (compEnvC scope cl C X.env) fp) T elt e) (hs : ∀ x, foldedSetIterable iter X.env x = pure x := by intro _; rfl) :
    RE X T (.ListComp elt [⟨tg, iter, ifs, 0⟩] scope pos) (wLc i g t e (own.map (·.2))) :=
  PE.imp (pe_lc E.calm E.nd hi (by rw [E.n, E.sc]; exact blkOk_by ok) hg ht he hs) fun _ _ _ => l_lc
/-- y = [..], y a local -/
theorem q_lc (E : Sc X SC fn N vs ls gs) (j : Nat) {y : Str} {py spos : Pos} {elt tg iter : Expr} {ifs : List Expr} {scope : Scope} (own : List (Str × Nat)) {i : WI} {g : WG} {t : WT} {e : WE} (hy : N[j]? = some y) (hyl : SC.names.lookup y = some .local)
    (hsw : swapsWith (.ListComp elt [⟨tg, iter, ifs, 0⟩] scope pos) (some (.Name y py)) spos.line X.env = pure true) (hi : RI X T tg iter i) (ok : blkC N SC scope own = true)
    (hg : ∀ (s : Shared) (H : Hp) (C : Addr) (cl : List (Str × Addr)) (fp : List Addr), RGv (X.blk s H scope (compEnvC scope cl C X.env) fp) T (own.map (·.2)) tg g) (ht : ∀ (s : Shared) (H : Hp) (C : Addr) (cl : List (Str × Addr)) (fp : List Addr), RTs (X.blk s H scope (compEnvC scope cl C X.env) fp) T ifs t)
    (he : ∀ (s : Shared) (H : Hp) (C : Addr) (cl : List (Str × Addr)) (fp : List Addr), RE (X.blk s H scope (compEnvC scope cl C X.env) fp) T elt e) (hs : ∀ x, foldedSetIterable iter X.env x = pure x := by intro _; rfl) :
    RS X T (.Assign [.Name y py] (.ListComp elt [⟨tg, iter, ifs, 0⟩] scope pos) spos) (wAsg (wLc i g t e (own.map (·.2))) (gN j)) :=
  PS.imp (ps_setLc E.calm E.nd (by rw [E.n]; exact hy) (by rw [E.sc]; exact hyl) hsw hi (by rw [E.n, E.sc]; exact blkOk_by ok) hg ht he hs) fun D τ H q => by
    obtain ⟨ρ, σ, S, Qd, s, sl, w1, c⟩ := q
    exact l_lc ⟨ρ, σ, S, _, s, sl, w1, fun H1 ρ1 S1 d v k1 p1 s1 r1 w2 => c.nx H1 ρ1 S1 _ _ k1 p1 s1 ((sl.mono k1 p1).set j r1) w2⟩
theorem sw_lc (E : Sc X SC fn N vs ls gs) {elt : Expr} {gens : List Comprehension} {scope : Scope} {py : Pos} {y : Str} {l : Nat} (hk : SC.kind = .function) (hy : SC.names.lookup y = some .local) (hl : (py.line == pos.line) = true)
    (ha : (scope.names.any fun (n, k) => n == y && (k == .local || k == .cell)) = false) : swapsWith (.ListComp elt gens scope pos) (some (.Name y py)) l X.env = pure true :=
  sw_true (by rw [E.sc]; exact hk) (by rw [E.sc]; exact hy) hl ha

/-! ### calls -/
/-- the def x is known to do sp -/
structure Cal (P : Program) (w : World) (K : PySem.W.Frag) (mg : Str → Option Value) (base : Heap) (T : List Addr) (k : Nat) (x : Str) (sp : Spec) : Prop where
  ex : ∃ (f : Addr) (fd : FuncData) (ps : List Str), FnOk P w K mg base (L2.CX P w) k f fd ps (lSp ⟨K, T⟩ ps.length sp) ∧ mg x = some (.ref f) ∧ PySem.W.keepIn K (.ref f) = true ∧ Binds K fd ps [] ∧ ∀ ds S Q E, sp ds S Q E → ds.length = ps.length
theorem r_call {k j : Nat} {x : Str} {sp : Spec} {e : Expr} {es : List Expr} {wa : WA} (cal : Cal X.prog X.w X.K X.mg X.base T k x sp) (hr : Room j X.A) (hk : k ≤ j) (E : Sc X SC fn N vs ls gs) (ha : RA X T (e :: es) wa) (hx : x ∈ gs := by decide)
    (he : starEach (e :: es) X.env = (false, eval e X.env) :: starEach es X.env := by rfl) (hpl : (backTo pos (starEach es X.env)).any (·.1) = false := by rfl) : RE X T (.Call (.Name x p) (e :: es) [] pos) (wCall sp wa) := by
  obtain ⟨f, fd, ps, F, hm, hkp, hb, hl⟩ := cal.ex
  obtain ⟨g1, g2, g3⟩ := E.gl hx
  exact PE.imp (pe_call F (hr.mono hk) g1 hm hkp hb .nil passL ha g2 he hpl) fun _ _ _ => l_call hl

/-! ### what may be forgotten of the store at a def's end -/
mutual
/-- no object from n on is spoken of -/
def blw (n : Nat) : D → Bool
  | .obj m => decide (m < n)
  | .tup xs => blws n xs
  | .sll xs => blws n xs
  | _ => true
def blws (n : Nat) : List D → Bool
  | [] => true
  | d :: ds => blw n d && blws n ds
end
mutual
theorem RelD.blw {K : PySem.W.Frag} {H : Hp} {ρ : List Addr} : ∀ (d : D) {v : V}, RelD K H ρ d v → Px.blw ρ.length d = true
  | .non, _, _ => rfl
  | .bl _, _, _ => rfl
  | .int _, _, _ => rfl
  | .str _, _, _ => rfl
  | .ty _, _, _ => rfl
  | .adr _, _, _ => rfl
  | .obj _, _, ⟨a, h, e⟩ => decide_eq_true (List.getElem?_eq_some_iff.mp h).1
  | .tup ds, _, ⟨a, us, e, s, r⟩ => RelDs.blws ds r
  | .sll ds, _, ⟨a, us, e, s, r⟩ => RelDs.blws ds r
theorem RelDs.blws {K : PySem.W.Frag} {H : Hp} {ρ : List Addr} : ∀ (ds : List D) {us : List V}, RelDs K H ρ ds us → Px.blws ρ.length ds = true
  | [], _, _ => rfl
  | d :: ds, _, ⟨v, vr, e, r, rs⟩ => by
    show (Px.blw ρ.length d && Px.blws ρ.length ds) = true
    rw [RelD.blw d r, RelDs.blws ds rs]; rfl
end
mutual
theorem RelD.cut {K : PySem.W.Frag} {H : Hp} {ρ ρ' : List Addr} {n : Nat} (hp : ∀ m < n, ρ'[m]? = ρ[m]?) : ∀ (d : D) {v : V}, Px.blw n d = true → RelD K H ρ d v → RelD K H ρ' d v
  | .non, _, _, h => h
  | .bl _, _, _, h => h
  | .int _, _, _, h => h
  | .str _, _, _, h => h
  | .ty _, _, _, h => h
  | .adr _, _, _, h => h
  | .obj m, _, b, ⟨a, h, e⟩ => ⟨a, by rw [hp m (of_decide_eq_true b)]; exact h, e⟩
  | .tup ds, _, b, ⟨a, us, e, s, r⟩ => ⟨a, us, e, s, RelDs.cut hp ds b r⟩
  | .sll ds, _, b, ⟨a, us, e, s, r⟩ => ⟨a, us, e, s, RelDs.cut hp ds b r⟩
theorem RelDs.cut {K : PySem.W.Frag} {H : Hp} {ρ ρ' : List Addr} {n : Nat} (hp : ∀ m < n, ρ'[m]? = ρ[m]?) : ∀ (ds : List D) {us : List V}, Px.blws n ds = true → RelDs K H ρ ds us → RelDs K H ρ' ds us
  | [], _, _, h => h
  | d :: ds, _, b, ⟨v, vr, e, r, rs⟩ => by
    have b' : Px.blw n d = true ∧ Px.blws n ds = true := by
      have : (Px.blw n d && Px.blws n ds) = true := b
      simpa using this
    exact ⟨v, vr, e, RelD.cut hp d b'.1 r, RelDs.cut hp ds b'.2 rs⟩
end
def blwO (n : Nat) : O → Bool
  | .lst xs => blws n xs
  | .dct kvs => kvs.all fun kv => blw n kv.2
  | .ins _ fs => fs.all fun kv => blw n kv.2
  | .any _ => true
theorem KvR.blw {K : PySem.W.Frag} {H : Hp} {ρ : List Addr} {κ : Type} : ∀ {ds : List (κ × D)} {us : List (κ × V)}, KvR K H ρ ds us → (ds.all fun kv => Px.blw ρ.length kv.2) = true
  | [], _, _ => rfl
  | (k, d) :: ds, _, ⟨v, vr, e, r, rs⟩ => by rw [List.all_cons, RelD.blw d r, KvR.blw rs]; rfl
theorem KvR.cut {K : PySem.W.Frag} {H : Hp} {ρ ρ' : List Addr} {n : Nat} (hp : ∀ m < n, ρ'[m]? = ρ[m]?) {κ : Type} : ∀ {ds : List (κ × D)} {us : List (κ × V)}, (ds.all fun kv => Px.blw n kv.2) = true → KvR K H ρ ds us → KvR K H ρ' ds us
  | [], _, _, h => h
  | (k, d) :: ds, _, b, ⟨v, vr, e, r, rs⟩ => by
    rw [List.all_cons, Bool.and_eq_true] at b
    exact ⟨v, vr, e, RelD.cut hp d b.1 r, KvR.cut hp b.2 rs⟩
theorem RelO.blw {K : PySem.W.Frag} {H : Hp} {ρ : List Addr} {o : O} {a : Addr} (h : RelO K H ρ o a) : blwO ρ.length o = true := by
  cases o with
  | lst _ => obtain ⟨us, _, r⟩ := h; exact RelDs.blws _ r
  | dct _ => obtain ⟨us, _, r⟩ := h; exact r.blw
  | ins _ _ => obtain ⟨_, us, _, r⟩ := h; exact r.blw
  | any _ => rfl
theorem RelO.cut {K : PySem.W.Frag} {H : Hp} {ρ ρ' : List Addr} {n : Nat} {o : O} {a : Addr} (hp : ∀ m < n, ρ'[m]? = ρ[m]?) (b : blwO n o = true) (h : RelO K H ρ o a) : RelO K H ρ' o a := by
  cases o with
  | lst _ => obtain ⟨us, e, r⟩ := h; exact ⟨us, e, RelDs.cut hp _ b r⟩
  | dct _ => obtain ⟨us, e, r⟩ := h; exact ⟨us, e, r.cut hp b⟩
  | ins _ _ => obtain ⟨dx, us, e, r⟩ := h; exact ⟨dx, us, e, r.cut hp b⟩
  | any _ => exact h
/-- no object of the store speaks of one that is not there -/
def wfS (S : Sto) : Prop := ∀ o ∈ S, blwO S.length o = true
theorem StR.wf {G : Gx} {H : Hp} {ρ : List Addr} {S : Sto} (s : StR G H ρ S) : wfS S := fun o ho => by
  obtain ⟨i, hi, e⟩ := List.getElem_of_mem ho
  obtain ⟨a, _, r⟩ := s.ob i o (by rw [List.getElem?_eq_getElem hi, e])
  rw [← s.len]
  exact r.blw
/-- (d, S) may be taken for (d', S'), the objects below n as they stand -/
def Shr (n : Nat) (d : D) (S : Sto) (d' : D) (S' : Sto) : Prop := ∀ G H ρ v, StR G H ρ S → RelD G.K H ρ d v → ∃ ρ', (∀ m < n, ρ'[m]? = ρ[m]?) ∧ StR G H ρ' S' ∧ RelD G.K H ρ' d' v
theorem Shr.refl (n : Nat) (d : D) (S : Sto) : Shr n d S d S := fun _ _ ρ _ s r => ⟨ρ, fun _ _ => rfl, s, r⟩
theorem Shr.cut {n : Nat} {d : D} {S J : Sto} (hn : S.length = n) (hS : ∀ o ∈ S, blwO n o = true) (hd : blw n d = true) : Shr n d (S ++ J) d S := fun G H ρ v s r => by
  have hp : ∀ m < n, (ρ.take n)[m]? = ρ[m]? := fun m hm => List.getElem?_take_of_lt hm
  refine ⟨ρ.take n, hp, ?_, RelD.cut hp d hd r⟩
  have q := s.cut n fun m o e a e1 r1 => by
    have ho : o ∈ S := by
      have := List.mem_of_getElem? e
      rw [← hn, List.take_left] at this
      exact this
    exact r1.cut hp (hS o ho)
  rw [← hn, List.take_left] at q
  rw [← hn]
  exact q
/-- .. and one list more -/
theorem Shr.lst {n m : Nat} {xs : List D} {S J : Sto} (hn : S.length = n) (hS : ∀ o ∈ S, blwO n o = true) (hm : n ≤ m) (hJ : (S ++ J)[m]? = some (.lst xs)) (hx : blws n xs = true) : Shr n (.obj m) (S ++ J) (.obj n) (S ++ [.lst xs]) := fun G H ρ v s r => by
  obtain ⟨a, ha, rfl⟩ := r
  have hp : ∀ k < n, (ρ.take n ++ [a])[k]? = ρ[k]? := fun k hk => by
    have hl : k < (ρ.take n).length := by
      rw [List.length_take, s.len, List.length_append]
      omega
    rw [List.getElem?_append_left hl, List.getElem?_take_of_lt hk]
  have hlen : (ρ.take n).length = n := by
    rw [List.length_take, s.len, List.length_append]
    omega
  obtain ⟨us, g, rs⟩ := s.lst hJ ha
  refine ⟨ρ.take n ++ [a], hp, ?_, rel_obj (by rw [List.getElem?_append_right (Nat.le_of_eq hlen), hlen, Nat.sub_self]; rfl)⟩
  refine ⟨by rw [List.length_append, List.length_append, hlen, hn]; rfl, ?_, fun k o e => ?_, s.tab⟩
  · rw [List.nodup_append]
    refine ⟨s.nd.sublist (List.take_sublist _ _), List.nodup_cons.mpr ⟨by simp, List.nodup_nil⟩, fun x hx y hy => ?_⟩
    rw [List.mem_singleton.mp hy]
    rintro rfl
    obtain ⟨i, hi, e⟩ := List.getElem_of_mem hx
    have hi2 : i < n := by rwa [hlen] at hi
    rw [List.getElem_take] at e
    have e2 : ρ[i]? = some x := by
      have hi3 : i < ρ.length := by rw [s.len, List.length_append]; omega
      rw [List.getElem?_eq_getElem hi3, e]
    have := nodup_at s.nd e2 ha
    omega
  · by_cases hk : k < n
    · rw [List.getElem?_append_left (by rw [hn]; exact hk)] at e
      obtain ⟨b, e1, r1⟩ := s.ob k o (by rw [List.getElem?_append_left (by rw [hn]; exact hk)]; exact e)
      exact ⟨b, by rw [hp k hk]; exact e1, r1.cut hp (hS o (List.mem_of_getElem? e))⟩
    · have hk2 : k = n := by
        have := (List.getElem?_eq_some_iff.mp e).1
        rw [List.length_append, hn] at this
        simp at this
        omega
      subst hk2
      rw [List.getElem?_append_right (Nat.le_of_eq hn), hn, Nat.sub_self] at e
      have e : (O.lst xs) = o := by simpa using e
      subst e
      exact ⟨a, by rw [List.getElem?_append_right (Nat.le_of_eq hlen), hlen, Nat.sub_self]; rfl, us, g, RelDs.cut hp _ hx rs⟩

/-! ### defs -/
def startD (N : List Str) (ds : List D) : Sl := ds.map some ++ List.replicate (N.length - ds.length) none
theorem start_rel {K : PySem.W.Frag} {H : Hp} {ρ : List Addr} {ds : List D} {us : List V} (r : RelDs K H ρ ds us) : SlR K H ρ (startD N ds) (L2.start N us) := by
  refine ⟨by simp [startD, L2.start, r.length], fun i d h => ?_⟩
  unfold startD at h
  by_cases hi : i < ds.length
  · rw [List.getElem?_append_left (by simpa using hi), List.getElem?_map] at h
    cases e : ds[i]? with
    | none => rw [e] at h; cases h
    | some d' =>
      rw [e] at h
      cases h
      obtain ⟨v, h1, h2⟩ := r.get e
      refine ⟨v, ?_, h2⟩
      unfold L2.start
      rw [List.getElem?_append_left (by rw [List.length_map, ← r.length]; exact hi), List.getElem?_map, h1]
      rfl
  · rw [List.getElem?_append_right (by simpa using Nat.le_of_not_lt hi), List.getElem?_replicate] at h
    split at h <;> cases h
/-- what a body's end must give: the value, the store, as far as they are to be kept -/
def RetQ (n : Nat) (Q : VKd) : VKd := fun d S => ∃ d' S', Shr n d S d' S' ∧ Q d' S'
def bodyE (n : Nat) (Q : VKd) : WEnds := { nx := fun _ S => RetQ n Q .non S, rt := RetQ n Q }
theorem fn_spec {P : Program} {w : World} {K : PySem.W.Frag} {mg : Str → Option Value} {base : Heap} {x qual : Str} {params : Arguments} {body : List Stmt} {scope : Scope} {f : Addr} {fd : FuncData} {ps : List Str} {k : Nat} {sp : Spec} {wb : WS}
    (F : FunD K x qual params body scope [] [] f fd) (S : FnScope N ps scope) (chk : scChk scope (fun _ => true) N vs ls gs = true) (hlen : ∀ ds S Q E, sp ds S Q E → ds.length = ps.length)
    (hb : ∀ X : Cx, X.prog = P → X.w = w → X.K = K → X.mg = mg → X.base = base → Room k X.A → X.xe = (fun _ _ => False) → Sc X scope (fun _ => true) N vs ls gs → RSs X T body wb)
    (hsp : ∀ ds S Q E, wfS S → blws S.length ds = true → sp ds S Q E → wb (bodyE S.length Q) (startD N ds) S) :
    FnOk P w K mg base (L2.CX P w) (k + 1) f fd ps (lSp ⟨K, T⟩ ps.length sp) := by
  refine F.ok S (fun us H Q E h => ?_) fun cdv A outer s H us Q E hr h => ?_
  · obtain ⟨ρ, S, ds, Qd, Ed, s, r, hl, w1, c, _⟩ := h
    rw [← r.length]
    exact hl
  · obtain ⟨ρ, St, ds, Qd, Ed, s1, r, hl, w1, c, _⟩ := h
    refine ⟨_, PSs.nox (hb _ rfl rfl rfl rfl rfl hr rfl ⟨rfl, rfl, rfl, rfl, chk⟩), ?_⟩
    have fin : Cont ⟨K, T⟩ H ρ (RetQ St.length Qd) Q := fun H' ρ' S' d v k1 p1 s2 r2 ⟨d', S'', sh, q⟩ => by
      obtain ⟨ρ'', hp, s3, r3⟩ := sh _ H' ρ' v s2 r2
      have pre : ρ <+: ρ'' := by
        have hlen : ρ.length ≤ ρ''.length := by
          by_cases h0 : ρ.length = 0
          · omega
          · have hlt : ρ.length - 1 < St.length := by rw [← s1.len]; omega
            have e := hp (ρ.length - 1) hlt
            have e2 : ρ[ρ.length - 1]? = some (ρ[ρ.length - 1]'(by omega)) := List.getElem?_eq_getElem (by omega)
            have e3 := (List.getElem?_eq_some_iff.mp (e.trans (pre_get p1 e2))).1
            omega
        refine List.prefix_iff_eq_take.mpr (List.ext_getElem? fun m => ?_)
        by_cases hm : m < ρ.length
        · rw [List.getElem?_take_of_lt hm, hp m (by rw [← s1.len]; exact hm)]
          obtain ⟨t, rfl⟩ := p1
          rw [List.getElem?_append_left hm]
        · rw [List.getElem?_eq_none (by omega), List.getElem?_eq_none (by rw [List.length_take]; omega)]
      exact c H' ρ'' S'' d' v k1 pre s3 r3 q
    refine ⟨ρ, startD N ds, St, bodyE St.length Qd, s1, start_rel r, hsp ds St Qd Ed s1.wf (by rw [← s1.len]; exact RelDs.blws ds r) w1, ⟨fun H' ρ' S' σ τ k1 p1 s2 sl w2 => ?_, fin, fun H' ρ' S' σ τ k1 p1 s2 sl w2 => w2.elim, fun H' ρ' S' σ τ k1 p1 s2 sl w2 => w2.elim⟩⟩
    exact fin H' ρ' S' .non .non k1 p1 s2 rfl w2
end

/-! ### methods of lists -/
section
variable {X : Cx} {T : List Addr} {o e : Expr} {es : List Expr} {apos cpos : Pos}
/-- xs.append(e) -/
def wApp (wo we : WE) : WE := fun σ S Q => wo σ S fun o S1 => (∃ n xs, o = .obj n ∧ S1[n]? = some (.lst xs)) ∧ we σ S1 fun d S2 => match o with
  | .obj n => (match S2[n]? with
    | some (.lst xs) => xs.length < sizeLine ∧ Q .non (S2.set n (.lst (xs ++ [d])))
    | _ => False)
  | _ => False
theorem r_app {wo we : WE} (ho : RE X T o wo) (he : RE X T e we)
    (hbase : attributeBase o "append" X.env (eval o X.env) = eval o X.env := by rfl)
    (hfew : ((backTo cpos (starEach [e] X.env)).all (fun x => !x.1) && (backToKw cpos (keywordEach [] X.env)).all (fun x => x.1.isSome)
      && decide (([e] : List Expr).length + ([] : List Keyword).length + (if ([] : List Keyword).isEmpty then 0 else 1) < 30)) = true := by rfl)
    (hline : (apos.endLine == cpos.line) = true := by rfl) (hs : starEach [e] X.env = (false, eval e X.env) :: starEach [] X.env := by rfl) (hplain : (backTo cpos (starEach [] X.env)).any (·.1) = false := by rfl) :
    RE X T (.Call (.Attribute o "append" apos) [e] [] cpos) (wApp wo we) :=
  PE.imp (pe_bm PySem.F.plainAttrs_list PySem.F.slot_list_append PySem.F.type_list_append mt_append ho (pa_cons he pa_nil hs) hbase hfew hline hs hplain) fun τ H Q h => by
  obtain ⟨ρ, σ, S, Qd, s, sl, w, c⟩ := h
  refine ⟨ρ, σ, S, _, s, sl, w, fun H1 ρ1 S1 dx x k1 p1 s1 r1 w1 => ?_⟩
  obtain ⟨⟨n, xs, rfl, e1⟩, w1⟩ := w1
  obtain ⟨a, ha, rfl⟩ := r1
  obtain ⟨us, g1, rs⟩ := s1.lst e1 ha
  refine ⟨.inl ⟨rfl, us, SqL.of g1⟩, ρ1, σ, S1, _, s1, sl.mono k1 p1, w1, fun H2 ρ2 S2 d v k2 p2 s2 r2 w2 => ?_⟩
  dsimp only at w2
  split at w2
  · rename_i ys e2
    have ha2 := pre_get p2 ha
    obtain ⟨us2, g2, rs2⟩ := s2.lst e2 ha2
    have k3 : Kp H2 (upd H2 a (.lst (us2 ++ [v]))) := Kp.mut g2 trivial
    refine ⟨a, us2, v, rfl, rfl, g2, by rw [← rs2.length]; exact w2.1, ?_⟩
    exact c _ ρ2 _ _ _ ((k1.trans k2).trans k3) (p1.trans p2) (s2.setObj (o := .lst (ys ++ [d])) ha2 g2 trivial ⟨_, upd_same, RelDs.mono k3 (List.prefix_refl _) _ (rs2.append (.cons r2 .nil))⟩) rel_non w2.2
  · exact w2.elim
end
end Px
/-! Px6: all(..), any(..) of a generator expression whose element may call own defs. -/
namespace Px
open PySem PySem.Spec PyProof.Rows L2

def genC (N : List Str) (sc scope : Scope) (own : List (Str × Nat)) : Bool :=
  blkC N sc scope own && !scope.isCoroutine && (scope.names.all fun y => !decide (y.2 = .cell)) && decide (scope.names.lookup (".0" : Str) = some .local)
structure GenOk (N : List Str) (sc scope : Scope) (own : List (Str × Nat)) : Prop where
  blk : BlkOk N sc scope own
  co : scope.isCoroutine = false
  nocell : ∀ y ∈ scope.names, y.2 ≠ .cell
  dot : scope.names.lookup (".0" : Str) = some NameKind.local
theorem genOk_by {N : List Str} {sc scope : Scope} {own : List (Str × Nat)} (h : genC N sc scope own = true) : GenOk N sc scope own := by
  unfold genC at h
  simp only [Bool.and_eq_true, Bool.not_eq_true', List.all_eq_true, decide_eq_true_eq, decide_eq_false_iff_not] at h
  obtain ⟨⟨⟨h1, h2⟩, h3⟩, h4⟩ := h
  exact ⟨blkOk_by h1, h2, h3, h4⟩
/-- the context of the generator's frame -/
abbrev gnx (X : Cx) (s : Shared) (H : Hp) (ce : Env) (fp : List Addr) : Cx := { X with A := X.A.in1.in1.deeper ce, s_0 := s, H_0 := H, env := ce, outer := X.stack, stack := ce :: X.stack, ex := fp, fn := fun _ => false, pn := [], xe := fun _ _ => False }
abbrev genE (X : Cx) (scope : Scope) (s : Shared) (code : Value) : Env := genEnv scope (cloFrom X.env.cells scope.names []) s.heap.objs.size code builtinsNs X.env
section
variable {X : Cx} {pins : List (Addr × Obj)} {σ : L2.St} {H : Hp} {s : Shared}
theorem gen_start {scope : Scope} {own : List (Str × Nat)} {fp : List Addr} {code : Value} {h' : Heap} {g' : Array GenState} {t' : Nat} {m : Str → Option Value} (I : Inv X pins σ H s) (ok : GenOk X.N X.env.scope scope own) (hN : X.N.Nodup)
    (hfp : ∀ b ∈ fp, FpOk X pins H b ∧ b < s.heap.objs.size) (kp : ∀ b o, s.heap.get? b = some o → h'.get? b = some o) (hns : h'.Ns s.heap.objs.size m) (hg : AllBare g') :
    Inv (gnx X s H (genE X scope s code) fp) [] (L2.wipe σ (own.map (·.2))) H { s with heap := h', gens := g', toks := t' } := by
  have hfree : ∀ y ∈ scope.names, y.2 = .free → ∃ c, X.env.cells.lookup y.1 = some c := fun y hy e => by
    rcases ok.blk.free y hy e with k | k
    · exact I.ok.has _ (.inl k)
    · exact I.ok.has _ (.inr k)
  have cm : ∀ {y c}, (cloFrom X.env.cells scope.names []).lookup y = some c → X.env.cells.lookup y = some c ∧ c < s.heap.objs.size := fun {y c} e => by
    have hc := NdefX.clo_cm hfree e
    obtain ⟨w, z⟩ := I.cell _ _ hc
    exact ⟨hc, z.lt⟩
  have okG : (gnx X s H (genE X scope s code) fp).Ok := by
    refine ⟨I.ok.mod, ok.blk.kind, I.ok.glob, rfl, Nat.le_refl _, fun y z c e1 e2 => ?_, fun y hy => ?_, fun y c z e => (by cases z), fun h => I.ok.hd h, Around.frames_deeper I.ok.frames, .inr ⟨rfl, rfl⟩, fun b hb => ⟨?_, fun y c e z => ?_⟩, I.bs, Nat.le_trans I.ok.bsz I.sz, fun b o e hb => ?_, fun b hb z => ?_, I.stack, I.stkFree⟩
    · exact I.ok.inj y z c (cm e1).1 (cm e2).1
    · have hy : scope.names.lookup y = some .cell ∨ scope.names.lookup y = some .free := hy
      rcases hy with hy | hy
      · exact absurd rfl (ok.nocell _ (PySem.mem_of_lookup hy))
      · obtain ⟨c, hc⟩ := hfree _ (PySem.mem_of_lookup hy) rfl
        exact ⟨c, NdefX.clo_has hfree (PySem.mem_of_lookup hy) hc⟩
    · exact Nat.ne_of_lt (hfp b hb).2
    · exact (hfp b hb).1.2.2.2.2.1 y c (cm e).1 z
    · rcases (hfp b hb).1.2.2.2.1 with z | z
      · exact I.ok.noex b o e z
      · exact absurd (Nat.lt_of_lt_of_le (Heap.lt_size e) (Nat.le_trans I.ok.bsz z)) (Nat.lt_irrefl _)
    · rcases List.mem_cons.mp (I.stkSub b z) with z | z
      · exact (hfp b hb).1.2.1 z
      · exact (hfp b hb).1.2.2.1 z
  refine ⟨okG, rfl, hg, Un.kept kp, ⟨m, hns, fun i y av e1 e2 e3 => ?_⟩, fun y c e => ?_, I.hok.fresh (Nat.le_refl _), fun y c e => I.freeC y c (cm e).1, fun p hp => absurd (show p ∈ ([] : List (Addr × Obj)) ++ [] from hp) (by simp), I.hok.kept kp, by rw [L2.wipe_length]; exact I.len⟩
  · obtain ⟨e2, hne⟩ := wipe_some e2
    have e1 : X.N[i]? = some y := e1
    have hk : scope.names.lookup y = some .free := by
      have e3 : scope.names.lookup y = some .local ∨ scope.names.lookup y = some .cell ∨ scope.names.lookup y = some .free := e3
      rcases e3 with e3 | e3 | e3
      · exfalso
        rcases ok.blk.own _ (PySem.mem_of_lookup e3) (.inl rfl) with z | z
        · obtain ⟨p, hp, ep⟩ := List.mem_map.mp z
          have e4 := ok.blk.ix p hp
          have e5 : p.1 = y := ep
          rw [e5] at e4
          exact hne (List.mem_map.mpr ⟨p, hp, nodup_ix hN e4 e1⟩)
        · exact z (List.mem_of_getElem? e1)
      · exact absurd rfl (ok.nocell _ (PySem.mem_of_lookup e3))
      · exact e3
    have hfr : (y, NameKind.free) ∈ scope.names := PySem.mem_of_lookup hk
    obtain ⟨m0, hn0, hl⟩ := I.loc
    have hvis : Vis X.env.scope y := (ok.blk.free _ hfr rfl).elim (fun k => .inr (.inl k)) (fun k => .inr (.inr k))
    obtain ⟨w, r, q⟩ := hl i y av e1 e2 hvis
    refine ⟨w, r, .inr ⟨.inr hk, ?_⟩⟩
    rcases q with ⟨k, _⟩ | ⟨_, c', e', z⟩
    · have k : X.env.scope.names.lookup y = some .local := k
      rcases ok.blk.free _ hfr rfl with k' | k' <;> rw [show X.env.scope.names.lookup y = _ from k'] at k <;> cases k
    · obtain ⟨o, ho, hd⟩ := z
      exact ⟨c', NdefX.clo_has hfree hfr e', o, kp _ _ ho, hd⟩
  · obtain ⟨v, z⟩ := I.cell y c (cm e).1
    obtain ⟨o, ho, hd⟩ := z
    exact ⟨v, o, kp _ _ ho, hd⟩

/-- back in the def's context -/
theorem gen_back {s3 s' : Shared} {H3 H' : Hp} {ce : Env} {fp : List Addr} {pins' : List (Addr × Obj)} {σ' : L2.St} (I : Inv X pins σ H3 s3) (hfp : ∀ b ∈ fp, FpOk X pins H3 b) (J : Inv (gnx X s3 H3 ce fp) pins' σ' H' s') : Inv X pins σ H' s' :=
  I.call' (ch := fp) J.os J.base J.hok J.bare fun b hb => ⟨(hfp b hb).2.2.2.1, (hfp b hb).2.1, (hfp b hb).2.2.2.2.1, (hfp b hb).2.2.2.2.2⟩
theorem Inv.eqs {pins : List (Addr × Obj)} {σ : L2.St} {H : Hp} {s s' : Shared} (I : Inv X pins σ H s) (ho : s'.os = s.os) (k : ∀ b o, s.heap.get? b = some o → s'.heap.get? b = some o) (hg : AllBare s'.gens) : Inv X pins σ H s' :=
  I.call' (ch := []) ho (Un.kept k) (I.hok.kept k) hg fun b z => by simp at z

/-- all(.. for ..), any(.. for ..): al says which -/
def tGA (al : Bool) (P : Addr) (wi : TI) (g : TG) (tt : TT) (te : TE) (vs : List Nat) : TE := fun σ H Q => wi σ H fun J H1 => GxR.TabG H1 P ∧ ∀ H2, GxR.Tabbed P H1 H2 →
  ∃ W : Nat → Nat → Hp → Prop, (∃ m, W 0 m H2) ∧ ∀ i m H, W i m H →
    (J.stop i H ∧ Q (.bl al) H) ∨ (J.go i H ∧ ∃ Nx : Hp → Prop, (∀ H', Nx H' → ∃ m', m' < m ∧ W (i + 1) m' H') ∧ ∀ x H', J.yld i H x H' → g x (L2.wipe σ vs) H' fun σ2 H2 => L2.wipe σ2 vs = L2.wipe σ vs ∧ tt σ2 H2 fun b H3 =>
      if b = true then te σ2 H3 fun y H4 => ∃ k, y = .bl k ∧ (if k = al then Nx H4 else Q (.bl (!al)) H4) else Nx H3)

/-- the generator sleeps; all is kept -/
structure Kpt (s s' : Shared) : Prop where
  os : s'.os = s.os
  bare : AllBare s'.gens
  heap : ∀ b o, s.heap.get? b = some o → s'.heap.get? b = some o
  gsz : s.gens.size ≤ s'.gens.size
def gaR (X : Cx) (s3 : Shared) (H3 : Hp) (ce : Env) (fp : List Addr) (pn : List (Addr × Obj)) (σw : L2.St) (gn : Nat) (Qe : Hp → Prop) : Shared → Prop := fun s => gn < s.gens.size ∧ ∃ H', Inv (gnx X s3 H3 ce fp) pn σw H' s ∧ Qe H'
def gaY (X : Cx) (s3 : Shared) (H3 : Hp) (ce : Env) (fp : List Addr) (pn : List (Addr × Obj)) (σw : L2.St) (gn : Nat) (al : Bool) (Qn : Hp → Prop) : Protocol := fun _ _ v s kap =>
  ∃ k H', v = .bool k ∧ gn < s.gens.size ∧ Inv (gnx X s3 H3 ce fp) pn σw H' s ∧ (if k = al then ∀ s', Kpt s s' → kap (.send .none) s' else Qn H')

theorem seg_ga {s3 : Shared} {H3 : Hp} {ce : Env} {fp : List Addr} {pn : List (Addr × Obj)} {σw : L2.St} {gn : Nat} {al : Bool} {Qe Qn : Hp → Prop} {elt tg iter : Expr} {ifs : List Expr} {scope : Scope} {pos : Pos} {it : Addr} {vs : List Nat}
    {g : TG} {tt : TT} {te : TE} {J : It} {tn : Nat → Heap → Prop} {W : Nat → Nat → Hp → Prop} (hc : X.calm = true) (hco : ce.scope.isCoroutine = false) (T : Turn X.prog X.w X.K tg J fp it tn) (hpn : ∀ p ∈ pn, p.1 ∉ fp)
    (pg : PG (gnx X s3 H3 ce fp) tg g) (pt : PTs (gnx X s3 H3 ce fp) ifs tt) (pe : PE (gnx X s3 H3 ce fp) elt te) (hw : L2.wipe σw vs = σw)
    (turn : ∀ i m H, W i m H → (J.stop i H ∧ Qe H) ∨ (J.go i H ∧ ∃ Nx : Hp → Prop, (∀ H', Nx H' → ∃ m', m' < m ∧ W (i + 1) m' H') ∧ ∀ x H', J.yld i H x H' → g x σw H' fun σ2 H2 => L2.wipe σ2 vs = σw ∧ tt σ2 H2 fun b H3 =>
      if b = true then te σ2 H3 fun y H4 => ∃ k, y = .bl k ∧ (if k = al then Nx H4 else Qn H4) else Nx H3)) :
    ∀ (m n : Nat) (s₀ s : Shared) (i : Nat) (H : Hp), m < n → W i m H → Inv (gnx X s3 H3 ce fp) pn σw H s → tn i s.heap → (∀ b ∈ fp, H b = none) → gn < s.gens.size →
      Seg (model X.prog X.w) X.A.in1.in1 (fun n s₀ r s₁ => r = .ok .next ∧ gaR X s3 H3 ce fp pn σw gn Qe s₁) (gaY X s3 H3 ce fp pn σw gn al Qn) n s₀
        (.compLoop (.GeneratorExp elt [⟨tg, iter, ifs, 0⟩] scope pos) 0 (.ref it) .none ce) ((model X.prog X.w).den (.compLoop (.GeneratorExp elt [⟨tg, iter, ifs, 0⟩] scope pos) 0 (.ref it) .none ce)) [] s := by
  have stat : ∀ {pins' : List (Addr × Obj)} {σ' : L2.St} {H' : Hp} {s' : Shared}, (∀ p ∈ pins', p.1 ∉ fp) → Inv (gnx X s3 H3 ce fp) pins' σ' H' s' → (∀ b ∈ fp, H' b = none) → ∀ b ∈ fp, FpOk (gnx X s3 H3 ce fp) pins' H' b := fun {pins' σ' H' s'} hp I' hn b hb =>
    ⟨hn b hb, (I'.ok.exf b hb).1, I'.ok.exfs b hb, .inl hb, fun x c e => (I'.ok.exf b hb).2 x c e, fun p hq z => hp p ((List.mem_append.mp hq).elim (fun y => absurd (show p ∈ ([] : List (Addr × Obj)) from y) (by simp)) id) (by rw [z]; exact hb)⟩
  intro m
  induction m using Nat.strongRecOn with
  | ind m ih =>
    intro n s₀ s i H hmn w I st nfp hgn
    show Seg _ X.A.in1.in1 _ _ _ s₀ _ ((compTurn (.GeneratorExp elt [⟨tg, iter, ifs, 0⟩] scope pos) 0 (.ref it) .none ce).onRaise (leaving ce)) [] s
    rw [compTurn_gen, Sem.onRaise_eq_wrap]
    refine seg_bind_wrap (wpAny_standAt ?_)
    rcases turn i m H w with ⟨stop, qq⟩ | ⟨go, Nx, hNx, step⟩
    · have td := T.done (gnx X s3 H3 ce fp) rfl rfl rfl hc i pn s _ H (fun _ _ => False) I (stat hpn I nfp) st stop
      refine seg_bind_wrap (GenW.wpAny_gsz (n := gn + 1) hgn (thnF td fun r s1 ⟨hr, I1⟩ hz => ?_))
      subst hr
      exact seg_end (.ok .next) ⟨rfl, hz, H, I1, qq⟩
    · have ti := T.item (gnx X s3 H3 ce fp) rfl rfl rfl hc i pn s _ H (fun _ _ => False) I (stat hpn I nfp) st go
      refine seg_bind_wrap (GenW.wpAny_gsz (n := gn + 1) hgn (thnF ti fun r s1 ⟨u, hr, h1⟩ hz1 => ?_))
      subst hr
      refine seg_bind_wrap (GenW.wpAny_gsz (n := gn + 1) hz1 (thnF h1 fun _ s2 ⟨x, H2, I2, r2, y2, st2, n2⟩ hz2 => ?_))
      have I2' := I2.pinned (stat hpn I2 n2) (T.obj _ _ st2)
      refine seg_bind_wrap (GenW.wpAny_gsz (n := gn + 1) hz2 (thnF (pg.run _ s2 _ H2 x u _ I2' r2 (step x H2 y2)) fun _ s4 ⟨σ4, H4, I4, hw4, q4⟩ hz4 => ?_))
      refine seg_bind_wrap (GenW.wpAny_gsz (n := gn + 1) hz4 (thnF (pt.run _ s4 σ4 H4 _ I4 q4) fun b s5 ⟨H5, I5, q5⟩ hz5 => ?_))
      have fin : ∀ {s' : Shared} {H' : Hp}, Inv (gnx X s3 H3 ce fp) (pn ++ pinsAt fp s2.heap) σ4 H' s' → Inv (gnx X s3 H3 ce fp) pn σw H' s' ∧ tn (i + 1) s'.heap ∧ ∀ b ∈ fp, H' b = none := fun {s' H'} I' => by
        have pin' : ∀ b ∈ fp, ∀ o, s2.heap.get? b = some o → s'.heap.get? b = some o ∧ H' b = none := fun b hb o e =>
          let z := I'.pin (b, o) (List.mem_append_right _ (List.mem_append_right _ (mem_pinsAt hb e)))
          ⟨z.1, z.2.1⟩
        have hl : σw.length = σ4.length := by rw [← hw4, L2.wipe_length]
        refine ⟨(I'.unpinned).weak hl (fun j v e => ?_), T.keep _ _ _ st2 fun b hb o e => (pin' b hb o e).1, fun b hb => ?_⟩
        · rw [← hw4] at e
          exact (wipe_some e).1
        · obtain ⟨o, e, _⟩ := T.obj _ _ st2 b hb
          exact (pin' b hb o e).2
      cases b with
      | false =>
        simp only [Bool.false_eq_true, if_false] at q5 ⊢
        obtain ⟨m', hm, w'⟩ := hNx H5 q5
        obtain ⟨I6, st6, n6⟩ := fin I5
        exact seg_again rfl (ih m' hm n s₀ s5 (i + 1) H5 (by omega) w' I6 st6 n6 hz5)
      | true =>
        simp only [if_true] at q5 ⊢
        have hy : ∀ v, yieldOut ce v = yieldValue v := fun v => by simp only [yieldOut, hco, Bool.false_eq_true, if_false]
        simp only [hy]
        rw [Sem.bind_eq_wrap', Sem.bind_eq_wrap', Sem.wrap_wrap, Sem.wrap_wrap]
        refine seg_wrap (GenW.wpAny_gsz (n := gn + 1) hz5 (thnF (pe.run _ s5 σ4 H5 _ I5 q5) fun z s6 ⟨yv, H6, I6, r6, k, ey, q6⟩ hz6 => ?_))
        subst ey
        obtain rfl : z = Value.bool k := r6
        obtain ⟨I7, st7, n7⟩ := fin I6
        by_cases hk : k = al
        · rw [if_pos hk] at q6
          obtain ⟨m', hm, w'⟩ := hNx H6 q6
          obtain ⟨n', rfl⟩ : ∃ n', n = n' + 1 := ⟨n - 1, by omega⟩
          refine seg_at (seg_yield rfl rfl rfl ⟨k, H6, rfl, hz6, I7, ?_⟩)
          rw [if_pos hk]
          intro s' kp
          refine seg_again rfl (ih m' hm n' s' s' (i + 1) H6 (by omega) w' (Inv.eqs I7 kp.os kp.heap kp.bare) (T.keep _ _ _ st7 fun b _ o e => kp.heap b o e) n7 (Nat.lt_of_lt_of_le hz6 kp.gsz))
        · rw [if_neg hk] at q6
          obtain ⟨n', rfl⟩ : ∃ n', n = n' + 1 := ⟨n - 1, by omega⟩
          refine seg_at (seg_yield rfl rfl rfl ⟨k, H6, rfl, hz6, I7, ?_⟩)
          rw [if_neg hk]
          exact q6
theorem seg_gaS {s3 : Shared} {H3 : Hp} {ce : Env} {fp : List Addr} {pn : List (Addr × Obj)} {σw : L2.St} {gn : Nat} {al : Bool} {Qe Qn : Hp → Prop} {elt tg iter : Expr} {ifs : List Expr} {scope : Scope} {pos : Pos} {it : Addr} {vs : List Nat}
    {g : TG} {tt : TT} {te : TE} {J : It} {tn : Nat → Heap → Prop} {W : Nat → Nat → Hp → Prop} (hc : X.calm = true) (hco : ce.scope.isCoroutine = false) (T : Turn X.prog X.w X.K tg J fp it tn) (hpn : ∀ p ∈ pn, p.1 ∉ fp)
    (pg : PG (gnx X s3 H3 ce fp) tg g) (pt : PTs (gnx X s3 H3 ce fp) ifs tt) (pe : PE (gnx X s3 H3 ce fp) elt te) (hw : L2.wipe σw vs = σw)
    (turn : ∀ i m H, W i m H → (J.stop i H ∧ Qe H) ∨ (J.go i H ∧ ∃ Nx : Hp → Prop, (∀ H', Nx H' → ∃ m', m' < m ∧ W (i + 1) m' H') ∧ ∀ x H', J.yld i H x H' → g x σw H' fun σ2 H2 => L2.wipe σ2 vs = σw ∧ tt σ2 H2 fun b H3 =>
      if b = true then te σ2 H3 fun y H4 => ∃ k, y = .bl k ∧ (if k = al then Nx H4 else Qn H4) else Nx H3))
    (m n : Nat) (s₀ s : Shared) (H : Hp) (hmn : m < n) (w : W 0 m H) (I : Inv (gnx X s3 H3 ce fp) pn σw H s) (st : tn 0 s.heap) (nfp : ∀ b ∈ fp, H b = none) (hgn : gn < s.gens.size) :
      Seg (model X.prog X.w) X.A.in1.in1 (fun n s₀ r s₁ => r = .ok .next ∧ gaR X s3 H3 ce fp pn σw gn Qe s₁) (gaY X s3 H3 ce fp pn σw gn al Qn) n s₀
        (.compStart (.GeneratorExp elt [⟨tg, iter, ifs, 0⟩] scope pos) 0 (.ref it) .none ce) ((model X.prog X.w).den (.compStart (.GeneratorExp elt [⟨tg, iter, ifs, 0⟩] scope pos) 0 (.ref it) .none ce)) [] s := by
  have loop := seg_ga (iter := iter) (scope := scope) (pos := pos) (it := it) hc hco T hpn pg pt pe hw turn m n s₀ s 0 H hmn w I st nfp hgn
  show Seg _ X.A.in1.in1 _ _ _ s₀ _ ((compStart (.GeneratorExp elt [⟨tg, iter, ifs, 0⟩] scope pos) 0 (.ref it) .none ce).onRaise (leaving ce)) [] s
  unfold compStart
  rw [Sem.onRaise_eq_wrap]
  show Seg _ X.A.in1.in1 _ _ _ s₀ _ ((ask >>= _).wrap _ _ _ _) [] s
  refine seg_bind_wrap (wpAny_askSetting ?_)
  split
  · exact seg_again rfl loop
  · first
      | exact seg_bind_wrap (wpAny_rule (seg_bind_wrap (wpAny_standAt (seg_bind_wrap (T.self _ 0 s _ _ st (seg_again rfl loop))))))
      | (refine seg_bind_wrap (wpAny_rule ?_); show Seg _ X.A.in1.in1 _ _ _ s₀ _ ((standAt iter.pos >>= _).wrap _ _ _ _) [] s; exact seg_bind_wrap (wpAny_standAt (seg_bind_wrap (T.self _ 0 s _ _ st (seg_again rfl loop)))))

/-- the generator that sleeps or has not begun, in X's eyes -/
def GaSt (X : Cx) (s3 : Shared) (H3 : Hp) (ce : Env) (fp : List Addr) (σw : L2.St) (a : Addr) (go : Obj) (gn : Nat) (al : Bool) (Qe Qn : Hp → Prop) (n : Nat) (s : Shared) : Prop :=
  ∃ gs, s.gens[gn]? = some gs ∧ (∃ H', Inv (gnx X s3 H3 ce fp) [(a, go)] σw H' s) ∧ ∀ s', Kpt s s' →
    gs.Goes (model X.prog X.w) X.A.in1.in1 (fun n s₀ r s₁ => r = .ok .next ∧ gaR X s3 H3 ce fp [(a, go)] σw gn Qe s₁) (gaY X s3 H3 ce fp [(a, go)] σw gn al Qn) n (.send .none) s'
theorem bare_set {gens : Array GenState} {g : Nat} {x : GenState} (h : AllBare gens) (hx : x.bare = true) : AllBare (gens.setIfInBounds g x) := by
  intro y hy
  rcases Array.mem_or_eq_of_mem_setIfInBounds hy with z | z
  · exact h y z
  · rw [z]; exact hx
theorem ga_next {s3 : Shared} {H3 : Hp} {ce : Env} {fp : List Addr} {σw : L2.St} {a : Addr} {go : Obj} {gn : Nat} {al : Bool} {Qe Qn : Hp → Prop} {n : Nat} {s : Shared} {Q : Option Value → Shared → Prop} {E : Value → Shared → Prop} {k : Nat} (hr : Room k X.A)
    (hgo : ∀ h : Heap, h.get? a = some go → h.IsGen a gn) (hS : GaSt X s3 H3 ce fp σw a go gn al Qe Qn n s)
    (hend : ∀ s' H', Inv (gnx X s3 H3 ce fp) [(a, go)] σw H' s' → Qe H' → Q none s')
    (hno : ∀ s' H', Inv (gnx X s3 H3 ce fp) [(a, go)] σw H' s' → Qn H' → Q (some (.bool (!al))) s')
    (hgo2 : ∀ s' m, n = m + 1 → GaSt X s3 H3 ce fp σw a go gn al Qe Qn m s' → Q (some (.bool al)) s') :
    wpAny (model X.prog X.w) X.A.in1 (pyNext (.ref a)) Q E s := by
  obtain ⟨gs, hgs, ⟨H', I⟩, goes⟩ := hS
  have hI : s.heap.IsGen a gn := hgo _ (I.pin (a, go) (List.mem_append_right _ List.mem_cons_self)).1
  have kpt0 : Kpt s (s.setGen gn .running) := ⟨rfl, bare_set I.bare rfl, fun _ _ e => e, by rw [GenW.setGen_size]; exact Nat.le_refl _⟩
  refine wpAny_pyNext_genexpQ (A := X.A.in1) (P := fun _ _ s₁ => gaR X s3 H3 ce fp [(a, go)] σw gn Qe s₁) (hr.hd) I.nolimit (by have := hr.dp; show X.A.depth < _; omega) hI hgs (goes _ kpt0) (fun v s₁ gs' hb hv => ?_) (fun s₁ hp h' hk => ?_)
  · obtain ⟨b, H1, rfl, hgn, I1, q⟩ := hv
    have I2 : Inv (gnx X s3 H3 ce fp) [(a, go)] σw H1 (s₁.setGen gn gs') := Inv.eqs I1 rfl (fun _ _ e => e) (bare_set I1.bare hb)
    by_cases hk : b = al
    · rw [if_pos hk] at q
      subst hk
      cases n with
      | zero => exact (q _ ⟨rfl, I1.bare, fun _ _ e => e, Nat.le_refl _⟩).elim
      | succ m =>
        refine hgo2 _ m rfl ⟨gs', by simp [Shared.setGen, hgn], ⟨H1, I2⟩, fun s' kp => q s' ⟨kp.os, kp.bare, kp.heap, Nat.le_trans (by rw [GenW.setGen_size]; exact Nat.le_refl _) kp.gsz⟩⟩
    · rw [if_neg hk] at q
      have e : b = !al := by cases b <;> cases al <;> simp_all
      rw [e]
      exact hno _ H1 I2 q
  · obtain ⟨hgn, H1, I1, q⟩ := hp
    exact hend _ H1 (Inv.eqs I1 rfl hk (bare_set I1.bare rfl)) q

theorem all_ga {s3 : Shared} {H3 : Hp} {ce : Env} {fp : List Addr} {σw : L2.St} {a : Addr} {go : Obj} {gn : Nat} {Qe Qn : Hp → Prop} {k : Nat} {R : Result → Shared → Prop} (hr : Room k X.A)
    (hgo : ∀ h : Heap, h.get? a = some go → h.IsGen a gn)
    (hend : ∀ s' H', Inv (gnx X s3 H3 ce fp) [(a, go)] σw H' s' → Qe H' → R (.ok (.ret (.bool true))) s')
    (hno : ∀ s' H', Inv (gnx X s3 H3 ce fp) [(a, go)] σw H' s' → Qn H' → R (.ok (.ret (.bool false))) s') : ∀ (n : Nat) (s : Shared), GaSt X s3 H3 ce fp σw a go gn true Qe Qn n s →
    codeAny (model X.prog X.w) X.A (.builtin "all.loop" ⟨[.ref a], []⟩) R s := by
  intro n
  induction n with
  | zero =>
    intro s hS
    refine codeAny_builtin F.entry_all_loop ?_
    rw [Around.under_plainId F.plain_all_loop _]
    show wpAny _ X.A.in1 (pyNext (.ref a) >>= _) _ _ s
    refine wpAny_bind (ga_next hr hgo hS (fun s' H' I q => ?_) (fun s' H' I q => ?_) (fun s' m e _ => by cases e))
    · exact wpAny_bind (wpAny_rule (wpAny_pure (hend s' H' I q)))
    · refine wpAny_bind (wpAny_holding (wpAny_truthy_bool ?_))
      refine wpAny_bind (wpAny_letGo ?_)
      simp only [Bool.not_true, Bool.false_eq_true, if_false]
      exact wpAny_bind (wpAny_rule (wpAny_pure (hno s' H' I q)))
  | succ n ih =>
    intro s hS
    refine codeAny_builtin F.entry_all_loop ?_
    rw [Around.under_plainId F.plain_all_loop _]
    show wpAny _ X.A.in1 (pyNext (.ref a) >>= _) _ _ s
    refine wpAny_bind (ga_next hr hgo hS (fun s' H' I q => ?_) (fun s' H' I q => ?_) (fun s' m e hS' => ?_))
    · exact wpAny_bind (wpAny_rule (wpAny_pure (hend s' H' I q)))
    · refine wpAny_bind (wpAny_holding (wpAny_truthy_bool ?_))
      refine wpAny_bind (wpAny_letGo ?_)
      simp only [Bool.not_true, Bool.false_eq_true, if_false]
      exact wpAny_bind (wpAny_rule (wpAny_pure (hno s' H' I q)))
    · cases e
      refine wpAny_bind (wpAny_holding (wpAny_truthy_bool ?_))
      refine wpAny_bind (wpAny_letGo ?_)
      simp only [if_true]
      exact wpAny_pure ⟨plainId_quiet F.plain_all_loop _, ih _ hS'⟩
theorem any_ga {s3 : Shared} {H3 : Hp} {ce : Env} {fp : List Addr} {σw : L2.St} {a : Addr} {go : Obj} {gn : Nat} {Qe Qn : Hp → Prop} {k : Nat} {R : Result → Shared → Prop} (hr : Room k X.A)
    (hgo : ∀ h : Heap, h.get? a = some go → h.IsGen a gn)
    (hend : ∀ s' H', Inv (gnx X s3 H3 ce fp) [(a, go)] σw H' s' → Qe H' → R (.ok (.ret (.bool false))) s')
    (hno : ∀ s' H', Inv (gnx X s3 H3 ce fp) [(a, go)] σw H' s' → Qn H' → R (.ok (.ret (.bool true))) s') : ∀ (n : Nat) (s : Shared), GaSt X s3 H3 ce fp σw a go gn false Qe Qn n s →
    codeAny (model X.prog X.w) X.A (.builtin "any.loop" ⟨[.ref a], []⟩) R s := by
  intro n
  induction n with
  | zero =>
    intro s hS
    refine codeAny_builtin F.entry_any_loop ?_
    rw [Around.under_plainId F.plain_any_loop _]
    show wpAny _ X.A.in1 (pyNext (.ref a) >>= _) _ _ s
    refine wpAny_bind (ga_next hr hgo hS (fun s' H' I q => ?_) (fun s' H' I q => ?_) (fun s' m e _ => by cases e))
    · exact wpAny_bind (wpAny_rule (wpAny_pure (hend s' H' I q)))
    · refine wpAny_bind (wpAny_holding (wpAny_truthy_bool ?_))
      refine wpAny_bind (wpAny_letGo ?_)
      simp only [Bool.not_false, if_true]
      exact wpAny_bind (wpAny_rule (wpAny_pure (hno s' H' I q)))
  | succ n ih =>
    intro s hS
    refine codeAny_builtin F.entry_any_loop ?_
    rw [Around.under_plainId F.plain_any_loop _]
    show wpAny _ X.A.in1 (pyNext (.ref a) >>= _) _ _ s
    refine wpAny_bind (ga_next hr hgo hS (fun s' H' I q => ?_) (fun s' H' I q => ?_) (fun s' m e hS' => ?_))
    · exact wpAny_bind (wpAny_rule (wpAny_pure (hend s' H' I q)))
    · refine wpAny_bind (wpAny_holding (wpAny_truthy_bool ?_))
      refine wpAny_bind (wpAny_letGo ?_)
      simp only [Bool.not_false, if_true]
      exact wpAny_bind (wpAny_rule (wpAny_pure (hno s' H' I q)))
    · cases e
      refine wpAny_bind (wpAny_holding (wpAny_truthy_bool ?_))
      refine wpAny_bind (wpAny_letGo ?_)
      simp only [Bool.false_eq_true, if_false]
      exact wpAny_pure ⟨plainId_quiet F.plain_any_loop _, ih _ hS'⟩

/-- the generator is made; the consumer may begin -/
def GaReady (X : Cx) (pins : List (Addr × Obj)) (σ : L2.St) (al : Bool) (Q : VK) (a : Addr) (s5 : Shared) : Prop :=
  ∃ s3 H3 ce fp σw go gn Qe Qn n, GaSt X s3 H3 ce fp σw a go gn al Qe Qn n s5 ∧ (∀ h : Heap, h.get? a = some go → h.IsGen a gn) ∧
    (∀ pins' σ' H' s', Inv (gnx X s3 H3 ce fp) pins' σ' H' s' → Inv X pins σ H' s') ∧ (∀ H, Qe H → Q (.bl al) H) ∧ (∀ H, Qn H → Q (.bl (!al)) H) ∧ s5.heap.IsGen a gn
theorem gen_made {c P : Addr} {elt tg iter : Expr} {ifs : List Expr} {gpos : Pos} {scope : Scope} {own : List (Str × Nat)} {wi : TI} {g : TG} {tt : TT} {te : TE} {k : Nat} {al : Bool} {Q : VK} {Q' : Value → Shared → Prop}
    (hr : Room k X.A) (hc : X.calm = true) (hN : X.N.Nodup) (TB : GxR.TabB X.base X.mg c P) (hcode : X.env.code = .ref c) (ok : GenOk X.N X.env.scope scope own) (hi : PI X tg iter wi)
    (hg : ∀ (s : Shared) (H : Hp) (code : Value) (fp : List Addr), PG (gnx X s H (genE X scope s code) fp) tg g) (ht : ∀ (s : Shared) (H : Hp) (code : Value) (fp : List Addr), PTs (gnx X s H (genE X scope s code) fp) ifs tt)
    (he : ∀ (s : Shared) (H : Hp) (code : Value) (fp : List Addr), PE (gnx X s H (genE X scope s code) fp) elt te) (hs : ∀ v, genFold iter X.env v = pure v) (I : Inv X pins σ H s) (h : tGA al P wi g tt te (own.map (·.2)) σ H Q)
    (hQ : ∀ a s5, GaReady X pins σ al Q a s5 → Q' (.ref a) s5) :
    wpAny (model X.prog X.w) X.A (eval (.GeneratorExp elt [⟨tg, iter, ifs, 0⟩] scope gpos) X.env) Q' X.xe s := by
  have hfree : ∀ y ∈ scope.names, y.2 = .free → ∃ c, X.env.cells.lookup y.1 = some c := fun y hy e => by
    rcases ok.blk.free y hy e with k | k
    · exact I.ok.has _ (.inl k)
    · exact I.ok.has _ (.inr k)
  refine wpAny_GeneratorExp_make ok.co (closure_ok hfree) ok.nocell ok.dot ok.blk.kind (by have := hr.dp; omega) ?_ hs
  refine thn (hi.run pins s σ H _ I h) fun xv s1 h1 => thn h1 fun itv s2 h2 => ?_
  obtain ⟨it, fp, tn, J, H2, e, I2, T, st2, f2, ⟨ps, hP, htr⟩, q⟩ := h2
  subst e
  have hPs : s2.heap.get? P = some { cls := .none, data := .fields ps } := I2.hok P _ hP
  have cd : PySem.W.CodeHd s2.heap c P := TB.code.keeps fun b u e => I2.bk b u e
  have nfp : ∀ b ∈ fp, b ≠ P := fun b hb z => by
    have := (f2 b hb).1
    rw [z, hP] at this
    cases this
  have cont : ∀ (code : Value) (h3 : Heap) (tk : Nat) (more : Array Value), Heap.ExtBut P s2.heap h3 → h3.get? P = some { cls := .none, data := .fields (ps ++ more) } → TriplesOk (ps ++ more).toList →
      wpAny (model X.prog X.w) X.A (builtinsFor X.env.globals X.env.builtins) (fun bi s₄ =>
        ∀ h', h'.Ns s₄.heap.objs.size (fun y => if y = ".0" then some (Value.ref it) else none) → Heap.SameBut s₄.heap.objs.size (s₄.heap.push { cls := .type "frame", data := .dict #[] }) h' →
          Q' (.ref h'.objs.size) { s₄ with
            gens := s₄.gens.push (.fresh (.compStart (.GeneratorExp elt [⟨tg, iter, ifs, 0⟩] scope gpos) 0 (.ref it) .none (genEnv scope (cloFrom X.env.cells scope.names []) s₄.heap.objs.size code bi X.env))),
            toks := s₄.toks + 1 + 1 + 1,
            heap := h'.push { cls := .type "generator", data := .fields #[.int s₄.gens.size 0, .str "<genexpr>" (s₄.toks + 1), .str (X.env.qual ++ "<genexpr>") (s₄.toks + 1 + 1)] } }) X.xe { s2 with heap := h3, toks := tk } := by
    intro code h3 tk more hx hP3 ht3
    obtain ⟨bm, ob, e1, e2, e3, e4, e5, e6, e7, e8⟩ := TB.bm
    have keep3 : ∀ b u, b ≠ P → s2.heap.get? b = some u → h3.get? b = some u := fun b u hb e => hx b u hb e
    refine wpAny_builtinsFor (m := X.mg) (by rw [I2.ok.glob]; exact (I2.mod.glob.keeps I2.bk).extBut hx TB.gP) e1 e2 (keep3 _ _ e4 (I2.bk _ _ e5)) e6 e7 e8 ?_
    have I3 := GxR.inv_tab (more := more) (h' := h3) (g' := s2.gens) (d' := s2.drawn) (t' := tk) I2 hP keep3 hP3 I2.bare
    have htab : GxR.Tabbed P H2 (upd H2 P (.tbl (ps ++ more))) := ⟨⟨_, upd_same, ht3⟩, fun b hb => upd_ne hb⟩
    obtain ⟨W, ⟨m0, w0⟩, turn⟩ := q _ htab
    generalize hs4 : ({ s2 with heap := h3, toks := tk } : Shared) = s4
    have I4 : Inv X pins σ (upd H2 P (.tbl (ps ++ more))) s4 := by rw [← hs4]; exact I3
    generalize hH3 : upd H2 P (.tbl (ps ++ more)) = H3 at I4 w0
    have hh3 : s4.heap = h3 := by rw [← hs4]
    intro h' hns hsb
    have hz5 : h'.objs.size = s4.heap.objs.size + 1 := by rw [hsb.1, Heap.size_push]
    have kp' : ∀ b o, s4.heap.get? b = some o → h'.get? b = some o := fun b o e => hsb.extBut b o (Nat.ne_of_lt (Heap.lt_size e)) (Heap.get?_push_of_some _ e)
    have ff : ∀ b ∈ fp, FpOk X pins H3 b ∧ b < s4.heap.objs.size := fun b hb => by
      obtain ⟨o, e, _⟩ := T.obj _ _ st2 b hb
      refine ⟨⟨by rw [← hH3, upd_ne (nfp b hb)]; exact (f2 b hb).1, (f2 b hb).2⟩, ?_⟩
      rw [hh3]
      exact Heap.lt_size (keep3 b o (nfp b hb) e)
    generalize hgo : ({ cls := .type "generator", data := .fields #[.int s4.gens.size 0, .str "<genexpr>" (s4.toks + 1), .str (X.env.qual ++ "<genexpr>") (s4.toks + 1 + 1)] } : Obj) = go
    have hgen : ∀ h : Heap, h.get? h'.objs.size = some go → h.IsGen h'.objs.size s4.gens.size := fun h e => by
      subst hgo
      exact ⟨_, _, _, e, rfl, rfl, rfl⟩
    have hpu : (h'.push go).get? h'.objs.size = some go := by
      subst hgo
      exact Heap.get?_push_size _ rfl
    have kp5 : ∀ b o, s4.heap.get? b = some o → (h'.push go).get? b = some o := fun b o e => Heap.get?_push_of_some _ (kp' b o e)
    have bare5 : AllBare (s4.gens.push (.fresh (.compStart (.GeneratorExp elt [⟨tg, iter, ifs, 0⟩] scope gpos) 0 (.ref it) .none (genE X scope s4 code)))) := AllBare.push I4.bare rfl
    have I5 := gen_start (fp := fp) (code := code) (t' := s4.toks + 1 + 1 + 1) I4 ok hN ff kp5 (hns.push go) bare5
    have ha : s4.heap.objs.size < h'.objs.size := by rw [hz5]; exact Nat.lt_succ_self _
    have I6 : Inv (gnx X s4 H3 (genE X scope s4 code) fp) [(h'.objs.size, go)] (L2.wipe σ (own.map (·.2))) H3 { s4 with heap := h'.push go, gens := s4.gens.push (.fresh (.compStart (.GeneratorExp elt [⟨tg, iter, ifs, 0⟩] scope gpos) 0 (.ref it) .none (genE X scope s4 code))), toks := s4.toks + 1 + 1 + 1 } := by
      refine I5.pins_of fun p hp => ?_
      rw [List.mem_singleton.mp hp]
      refine ⟨hpu, I4.hok.fresh (Nat.le_of_lt ha), Nat.ne_of_gt ha, fun z => ?_, fun v q => ?_⟩
      · rcases List.mem_cons.mp (I4.stkSub _ z) with z | z
        · have := I4.lt
          rw [← z] at this
          exact absurd (Nat.lt_trans this ha) (Nat.lt_irrefl _)
        · exact I4.nofs (Nat.le_of_lt ha) z
      · have q : go.data = .cell v := q
        rw [← hgo] at q
        cases q
    have st5 : ∀ h : Heap, (∀ b o, (h'.push go).get? b = some o → h.get? b = some o) → tn 0 h := fun h kk => T.keep _ _ _ st2 fun b hb o e => kk b o (kp5 b o (by rw [hh3]; exact keep3 b o (nfp b hb) e))
    have hpn : ∀ p ∈ [(h'.objs.size, go)], p.1 ∉ fp := fun p hp z => by
      rw [List.mem_singleton.mp hp] at z
      exact absurd (Nat.lt_trans (ff _ z).2 ha) (Nat.lt_irrefl _)
    refine hQ _ _ ⟨s4, H3, genE X scope s4 code, fp, L2.wipe σ (own.map (·.2)), go, s4.gens.size, Q (.bl al), Q (.bl (!al)), m0 + 1, ⟨_, Array.getElem?_push_size .., ⟨H3, I6⟩, fun s' kp => ⟨rfl, ?_⟩⟩, hgen,
      fun pins' σ' H' s' J' => gen_back I4 (fun b hb => (ff b hb).1) J', fun _ z => z, fun _ z => z, hgen _ hpu⟩
    refine seg_gaS (vs := own.map (·.2)) (J := J) (tn := tn) (W := W) hc ok.co T hpn (hg _ _ _ _) (ht _ _ _ _) (he _ _ _ _) wipe_wipe (fun i m H w => ?_) m0 (m0 + 1) s' s' H3 (Nat.lt_succ_self _) w0 (Inv.eqs I6 kp.os kp.heap kp.bare) (st5 _ kp.heap) (fun b hb => (ff b hb).1.1) ?_
    · rcases turn i m H w with z | ⟨z1, Nx, z2, z3⟩
      · exact .inl z
      · exact .inr ⟨z1, Nx, z2, fun x H' y => z3 x H' y⟩
    · have := kp.gsz
      have e : (s4.gens.push (GenState.fresh (Code.compStart (.GeneratorExp elt [⟨tg, iter, ifs, 0⟩] scope gpos) 0 (.ref it) .none (genE X scope s4 code)))).size ≤ s'.gens.size := this
      rw [Array.size_push] at e
      exact e
  refine ⟨I2.nolimit, ?_⟩
  cases hf : codeAmong gpos ps.toList with
  | none =>
    refine wpAny_genexprCodeX hcode (cd.code hPs htr) (cd.tab hPs) hf fun c' h' tk hx hge hlt hco' _ htab' _ => ?_
    obtain ⟨o1, vs, f1, tf, fl, tg', inF, tx, tt', op, _, _, _, _, _, _, _, _, _, htr2, _⟩ := hco'
    exact cont _ h' tk _ hx htab'.2 htr2
  | some cv =>
    refine wpAny_genexprCode_hit hcode (cd.code hPs htr) hf ?_
    exact cont cv s2.heap s2.toks #[] (Heap.ExtBut.refl _ _) (by simpa using hPs) (by simpa using htr)
theorem pe_ga {c P : Addr} {elt tg iter : Expr} {ifs : List Expr} {p pos gpos : Pos} {scope : Scope} {own : List (Str × Nat)} {wi : TI} {g : TG} {tt : TT} {te : TE} {k : Nat} (al : Bool) {nm : Str} (hnm : nm = (if al then "all" else "any"))
    (hr : Room k X.A) (hc : X.calm = true) (hN : X.N.Nodup) (hgl : Gl X nm) (hm : X.mg nm = none) (TB : GxR.TabB X.base X.mg c P) (hcode : X.env.code = .ref c) (ok : GenOk X.N X.env.scope scope own) (hi : PI X tg iter wi)
    (hg : ∀ (s : Shared) (H : Hp) (code : Value) (fp : List Addr), PG (gnx X s H (genE X scope s code) fp) tg g) (ht : ∀ (s : Shared) (H : Hp) (code : Value) (fp : List Addr), PTs (gnx X s H (genE X scope s code) fp) ifs tt)
    (he : ∀ (s : Shared) (H : Hp) (code : Value) (fp : List Addr), PE (gnx X s H (genE X scope s code) fp) elt te) (hs : ∀ v, genFold iter X.env v = pure v)
    (hse : starEach [.GeneratorExp elt [⟨tg, iter, ifs, 0⟩] scope gpos] X.env = (false, eval (.GeneratorExp elt [⟨tg, iter, ifs, 0⟩] scope gpos) X.env) :: starEach [] X.env := by rfl) :
    PE X (.Call (.Name nm p) [.GeneratorExp elt [⟨tg, iter, ifs, 0⟩] scope gpos] [] pos) (tGA al P wi g tt te (own.map (·.2))) := by
  refine ⟨fun pins s σ H Q I h => ?_⟩
  have key : ∀ (id : String), bootBuiltins nm = some (.builtin id) → nm ≠ "__name__" → (nm == ("__debug__" : Str)) = false →
      (∀ a s5, GaReady X pins σ al Q a s5 → wpAny (model X.prog X.w) X.A (call (.builtin id) [.ref a]) (EP X pins σ Q) X.xe s5) →
      wpAny (model X.prog X.w) X.A (eval (.Call (.Name nm p) [.GeneratorExp elt [⟨tg, iter, ifs, 0⟩] scope gpos] [] pos) X.env) (EP X pins σ Q) X.xe s := fun id hb n1 n2 hcall => by
    refine wpAny_Call_Name_kw (ld_blt I hgl hm hb ?_ n1 n2)
    refine PyProof.Rows.callWith_builtin1 ?_ hse (by rfl)
    rw [hse]
    show wpAny _ _ (spliced ((false, eval (.GeneratorExp elt [⟨tg, iter, ifs, 0⟩] scope gpos) X.env) :: backTo pos (starEach [] X.env))) _ _ s
    refine Calls.spliced_cons (gen_made hr hc hN TB hcode ok hi hg ht he hs I h fun a s5 hR => ?_)
    exact Calls.spliced_nil (hcall a s5 hR)
  cases al with
  | true =>
    have e : nm = "all" := hnm
    subst e
    refine key "all" (by decide +kernel) (by decide +kernel) (by decide +kernel) fun a s5 hR => ?_
    obtain ⟨s3, H3, ce, fp, σw, go, gn, Qe, Qn, n, hst, hgo, back, q1, q2, isg⟩ := hR
    refine call_function_tree F.kind_all F.plain_all F.entry_all (F.args_all1 _) ?_
    unfold Builtin.«all»
    refine wpAny_bind (m := oneArg "all" _) (wpAny_pure ?_)
    refine wpAny_bind (wpAny_pyIter_gen isg ?_)
    exact wpAny_pure ⟨plainId_quiet F.plain_all_loop _, all_ga hr hgo (fun s' H' I' q => ⟨.bl true, H', back _ _ _ _ I', rfl, q1 _ q⟩) (fun s' H' I' q => ⟨.bl false, H', back _ _ _ _ I', rfl, q2 _ q⟩) n s5 hst⟩
  | false =>
    have e : nm = "any" := hnm
    subst e
    refine key "any" (by decide +kernel) (by decide +kernel) (by decide +kernel) fun a s5 hR => ?_
    obtain ⟨s3, H3, ce, fp, σw, go, gn, Qe, Qn, n, hst, hgo, back, q1, q2, isg⟩ := hR
    refine call_function_tree F.kind_any F.plain_any F.entry_any (F.args_any1 _) ?_
    unfold Builtin.«any»
    refine wpAny_bind (m := oneArg "any" _) (wpAny_pure ?_)
    refine wpAny_bind (wpAny_pyIter_gen isg ?_)
    exact wpAny_pure ⟨plainId_quiet F.plain_any_loop _, any_ga hr hgo (fun s' H' I' q => ⟨.bl false, H', back _ _ _ _ I', rfl, q1 _ q⟩) (fun s' H' I' q => ⟨.bl true, H', back _ _ _ _ I', rfl, q2 _ q⟩) n s5 hst⟩
end
end Px
/-! Px7: sets of ints and of tuples of ints: made, counted, sorted. -/
namespace Px
open PySem PySem.Spec PyProof.Rows L2

/-- a set object, new and empty -/
abbrev emS (w : World) : Obj := { cls := .type "set", dict := none, data := .set #[] 0 (.fresh 0 0 (!w.params.followText "set-order")) }
section
variable {P : Program} {w : World} {A : Around} {E : Value → Shared → Prop} {s : Shared}
theorem set_of_seq {l : Addr} {its : Array Value} {Q : Value → Shared → Prop} (hh : A.handled = none) (hl : s.heap.IsList l its ∨ s.heap.IsTuple l its) (Dn : Heap → Prop)
    (loop : ∀ (A3 : Around) (I : Addr) (fp : List Addr) (St : Nat → Shared → Prop) (s1 : Shared), A3.units ≤ A.units + 4 → WalksS P w A3.in1 I fp [I] (fun a b => b = a) its.size (fun i v => its[i]? = some v) St → s.heap.objs.size ∉ fp → St 0 s1 → s.heap.objs.size < I →
      (∀ b o, s.heap.get? b = some o → s1.heap.get? b = some o) → s1.heap.get? s.heap.objs.size = some (emS w) →
      ∀ R : Result → Shared → Prop, (∀ s', Moved (s.heap.objs.size :: [I]) (fun a b => b = a) s1 s' → Dn s'.heap → R (.ok (.ret .none)) s') → codeAny (model P w) A3 (.builtin "set.update.loop" ⟨[.ref s.heap.objs.size, .ref I], []⟩) R s1)
    (h : ∀ h' tk, Dn h' → (∀ b o, s.heap.get? b = some o → h'.get? b = some o) → Q (.ref s.heap.objs.size) { s with heap := h', toks := tk }) :
    wpAny (model P w) A (call (.type "set") [.ref l]) Q E s := by
  obtain ⟨cM, tM, mro⟩ := PySem.F.called_set.mro
  have fMade := PySem.F.called_set.made
  have fSub := PySem.F.called_set.sub
  refine wpAny_call (codeAny_of_tree ?_)
  show wpAny (model P w) _ (callAny (.type "set") _) _ _ s
  refine wpAny_pure ⟨Code.quiet_builtin _ (by decide +kernel), ?_⟩
  refine codeAny_builtin PySem.F.entry_type_call ?_
  rw [Around.under_plain (PySem.weight_type_call_type "set" [.ref l] []) rfl]
  have fNot := PySem.F.called_set.notType
  have fCan := PySem.F.called_set.canCreate
  have fCall := PySem.F.typeCall_set_1 (.ref l)
  repeat (any_goals (first | assumption | wp_step))
  generalize hem : (emS w) = em
  refine codeAny_mono (code_set_led1 (.ref l) (E := E) (Q₁ := fun ob t => ob = .ref s.heap.objs.size ∧ t = { s with heap := s.heap.push (emS w) }) ⟨rfl, rfl⟩) fun r1 t1 hr1 => ?_
  match r1, hr1 with
  | .error e, hr1 => exact hr1
  | .ok .next, hr1 => exact hr1.elim
  | .ok .brk, hr1 => exact hr1.elim
  | .ok .cont, hr1 => exact hr1.elim
  | .ok (.ret ob), hr1 =>
    obtain ⟨rfl, rfl⟩ := hr1
    have gS : (s.heap.push (emS w)).get? s.heap.objs.size = some (emS w) := Heap.get?_push_size _ rfl
    have tyS : Shared.TypeIs { s with heap := s.heap.push (emS w) } (.ref s.heap.objs.size) "set" := ⟨_, gS, rfl⟩
    have fLook := PySem.F.called_set.init.lookup
    have fBind := PySem.F.called_set.init.bind (.ref s.heap.objs.size)
    repeat (any_goals (first | assumption | wp_step))
    have szS : (s.heap.push (emS w)).objs.size = s.heap.objs.size + 1 := Heap.size_push ..
    refine codeAny_mono (codeAny_call_builtin (R := wants (fun r t2 => r = .none ∧ ∃ h' tk, t2 = { s with heap := h', toks := tk } ∧ Dn h' ∧ ∀ b o, s.heap.get? b = some o → h'.get? b = some o) E)
      PySem.F.called_set.init.plain PySem.F.entry_set_init (PySem.check_set_init_1 tyS ?_)) fun r2 t2 hr2 => ?_
    · have fin : ∀ (A3 : Around) (I : Addr) (fp : List Addr) (St : Nat → Shared → Prop) (s1 : Shared), A3.units ≤ A.units + 4 → WalksS P w A3.in1 I fp [I] (fun a b => b = a) its.size (fun i v => its[i]? = some v) St → s.heap.objs.size ∉ fp → St 0 s1 → s.heap.objs.size < I →
          (∀ b o, s.heap.get? b = some o → s1.heap.get? b = some o) → s1.heap.get? s.heap.objs.size = some (emS w) → s1.gens = s.gens → s1.drawn = s.drawn → s1.os = s.os →
          ∀ R : Result → Shared → Prop, (∀ h' tk, Dn h' → (∀ b o, s.heap.get? b = some o → h'.get? b = some o) → R (.ok (.ret .none)) { s with heap := h', toks := tk }) → codeAny (model P w) A3 (.builtin "set.update.loop" ⟨[.ref s.heap.objs.size, .ref I], []⟩) R s1 := fun A3 I fp St s1 hu W n0 st hI kp g0 e1 e2 e3 R hR => by
        refine loop A3 I fp St s1 hu W n0 st hI kp g0 R fun s' mv dn => ?_
        obtain ⟨h', g', d', k', o'⟩ := s'
        have q1 : g' = s.gens := (show g' = s1.gens from mv.gens).trans e1
        have q2 : d' = s.drawn := (show d' = s1.drawn from mv.drawn).trans e2
        have q3 : o' = s.os := (show o' = s1.os from mv.os).trans e3
        subst q1 q2 q3
        refine hR h' k' dn fun b o e => mv.heap b o (fun hb => ?_) (kp b o e)
        have hlt := Heap.lt_size e
        rcases List.mem_cons.mp hb with z | z
        · rw [z] at hlt; exact absurd hlt (Nat.lt_irrefl _)
        · rw [List.mem_singleton.mp z] at hlt; exact absurd (Nat.lt_trans hlt hI) (Nat.lt_irrefl _)
      have hA3 : A.in1.in1.in1.handled = none := by simp [hh]
      rcases hl with hl | hl
      · obtain ⟨⟨c1, d1, x1, sl1⟩, get1, ec, n1, ed⟩ := hl
        simp only at ec ed
        subst ec ed
        have get2 : (s.heap.push (emS w)).get? l = some { cls := .type "list", dict := d1, data := .seq its n1, slots := sl1 } := Heap.get?_push_of_some _ get1
        have fA := PySem.F.sub_list_set
        have fB := PySem.F.sub_list_frozenset
        have fC : (Value.type "list" == Value.type "dict") = false := by decide
        have isl : (s.heap.push (emS w)).IsList l its := ⟨_, get2, rfl, n1, rfl⟩
        unfold Builtin.«set.__init__» noKeywords Builtin.Frozenset.updateFrom
        generalize hPI : pyIter = PI
        wp_walk
        subst hPI
        refine wpAny_pyIter_list isl (wpAny_bind (wpAny_runValue ?_))
        have ltl : l < s.heap.objs.size := Heap.lt_size get1
        have neI : l ≠ (s.heap.push (emS w)).objs.size := by rw [szS]; exact Nat.ne_of_lt (Nat.lt_succ_of_lt ltl)
        refine fin _ _ _ _ _ (by first | exact Nat.le_refl _ | (show _ + 1 + 1 + 1 ≤ _; omega) | (simp [Around.in1, Around.under]; done)) ((Walks.list hA3 _ l neI its).toS) ?_ ?_ (by rw [szS]; exact Nat.lt_succ_self _) ?_ ?_ ?_ ?_ ?_ _ fun h' tk dn kp => ?_
        · rw [szS]
          intro hm
          rcases List.mem_cons.mp hm with z | z
          · exact Nat.ne_of_lt (Nat.lt_succ_self _) z
          · exact Nat.ne_of_gt ltl (List.mem_singleton.mp z)
        · exact ⟨⟨_, Heap.get?_push_size _ rfl, rfl, rfl⟩, isl.push _⟩
        · exact fun b o e => Heap.get?_push_of_some _ (Heap.get?_push_of_some _ e)
        · exact Heap.get?_push_of_some _ gS
        · rfl
        · rfl
        · rfl
        · refine wpAny_pure ?_
          show wpAny _ _ (ret Value.none) _ _ _
          exact wpAny_pure ⟨rfl, h', tk, rfl, dn, kp⟩
      · obtain ⟨⟨c1, d1, x1, sl1⟩, get1, ec, n1, ed⟩ := hl
        simp only at ec ed
        subst ec ed
        have get2 : (s.heap.push (emS w)).get? l = some { cls := .type "tuple", dict := d1, data := .seq its n1, slots := sl1 } := Heap.get?_push_of_some _ get1
        have fA := PySem.F.sub_tuple_set
        have fB := PySem.F.sub_tuple_frozenset
        have fC : (Value.type "tuple" == Value.type "dict") = false := by decide
        have isl : (s.heap.push (emS w)).IsTuple l its := ⟨_, get2, rfl, n1, rfl⟩
        unfold Builtin.«set.__init__» noKeywords Builtin.Frozenset.updateFrom
        generalize hPI : pyIter = PI
        wp_walk
        subst hPI
        refine wpAny_pyIter_tuple isl (wpAny_bind (wpAny_runValue ?_))
        have ltl : l < s.heap.objs.size := Heap.lt_size get1
        have neI : l ≠ (s.heap.push (emS w)).objs.size := by rw [szS]; exact Nat.ne_of_lt (Nat.lt_succ_of_lt ltl)
        refine fin _ _ _ _ _ (by first | exact Nat.le_refl _ | (show _ + 1 + 1 + 1 ≤ _; omega) | (simp [Around.in1, Around.under]; done)) ((Walks.tuple hA3 _ l neI its).toS) ?_ ?_ (by rw [szS]; exact Nat.lt_succ_self _) ?_ ?_ ?_ ?_ ?_ _ fun h' tk dn kp => ?_
        · rw [szS]
          intro hm
          rcases List.mem_cons.mp hm with z | z
          · exact Nat.ne_of_lt (Nat.lt_succ_self _) z
          · exact Nat.ne_of_gt ltl (List.mem_singleton.mp z)
        · exact ⟨⟨_, Heap.get?_push_size _ rfl, rfl, rfl⟩, isl.push _⟩
        · exact fun b o e => Heap.get?_push_of_some _ (Heap.get?_push_of_some _ e)
        · exact Heap.get?_push_of_some _ gS
        · rfl
        · rfl
        · rfl
        · refine wpAny_pure ?_
          show wpAny _ _ (ret Value.none) _ _ _
          exact wpAny_pure ⟨rfl, h', tk, rfl, dn, kp⟩
    · match r2, hr2 with
      | .error e, hr2 => exact hr2
      | .ok .next, hr2 => exact hr2.elim
      | .ok .brk, hr2 => exact hr2.elim
      | .ok .cont, hr2 => exact hr2.elim
      | .ok (.ret r), hr2 =>
        obtain ⟨rfl, h', tk, rfl, dn, kp⟩ := hr2
        repeat (any_goals (first | assumption | wp_step))
        exact h h' tk dn kp

/-- set(xs), ints -/
theorem set_ints {l : Addr} {its : Array Value} {ns : List Int} {Q : Value → Shared → Prop} (hh : A.handled = none) (hl : s.heap.IsList l its ∨ s.heap.IsTuple l its) (hi : IntsAre its.toList ns) (hb : ns.length + 1 < scanBound)
    (h : ∀ h' tk c, SetR w h' s.heap.objs.size (fun j => decide (j ∈ ns)) c → c ≤ ns.length → (∀ b o, s.heap.get? b = some o → h'.get? b = some o) → Q (.ref s.heap.objs.size) { s with heap := h', toks := tk }) :
    wpAny (model P w) A (call (.type "set") [.ref l]) Q E s := by
  have hz : its.size = ns.length := by
    have q := IntsAre.length hi
    rwa [Array.length_toList] at q
  refine set_of_seq hh hl (fun h' => ∃ c, SetR w h' s.heap.objs.size (fun j => decide (j ∈ ns)) c ∧ c ≤ ns.length) (fun A3 I fp St s1 hu W n0 st hI kp g0 R hR => ?_) fun h' tk ⟨c, r, hc⟩ kp => h h' tk c r hc kp
  refine set_update_ints W s.heap.objs.size n0 ns hz hb (fun i v hv => ?_) its.size 0 s1 (Nat.sub_zero _) (Nat.zero_le _) st ⟨0, Nat.le_refl _, setR_new_at g0⟩ fun s' c mv hc r => hR s' mv ⟨c, r, by rw [← hz]; exact hc⟩
  have hlt : i < ns.length := by rw [← hz]; exact (Array.getElem?_eq_some_iff.mp hv).1
  obtain ⟨t, e⟩ := PyProof.Rows.IntsAre.int_at hi i v (by rw [Array.getElem?_toList]; exact hv)
  refine ⟨ns[i], t, List.getElem?_eq_getElem hlt, ?_⟩
  rw [e, List.getD_eq_getElem?_getD, List.getElem?_eq_getElem hlt]
  rfl
/-- set(xs), tuples of ints -/
theorem set_tups {l : Addr} {its : Array Value} {ks : List (Addr × List Int)} {Q : Value → Shared → Prop} (hh : A.handled = none) (hl : s.heap.IsList l its ∨ s.heap.IsTuple l its) (hi : its.toList = ks.map fun p => Value.ref p.1)
    (hk : ∀ p ∈ ks, IsT P w s.heap p.2 p.1) (hb : ks.length < 64) (hu : A.units + 8 < cLine)
    (h : ∀ h' tk L es ep t, SetTR P w h' s.heap.objs.size L es ep t → Got ks ks.length L → (∀ b o, s.heap.get? b = some o → h'.get? b = some o) → Q (.ref s.heap.objs.size) { s with heap := h', toks := tk }) :
    wpAny (model P w) A (call (.type "set") [.ref l]) Q E s := by
  have hz : its.size = ks.length := by
    have q := congrArg List.length hi
    rwa [Array.length_toList, List.length_map] at q
  have nn : ∀ b, s.heap.objs.size ≤ b → s.heap.get? b = none := fun b hb => Heap.get?_none_of_le hb
  refine set_of_seq hh hl (fun h' => ∃ L es ep t, SetTR P w h' s.heap.objs.size L es ep t ∧ Got ks ks.length L) (fun A3 I fp St s1 hu3 W n0 st hI kp g0 R hR => ?_) fun h' tk ⟨L, es, ep, t, r, g⟩ kp => h h' tk L es ep t r g kp
  refine set_update_tups W s.heap.objs.size n0 ks hz hb (fun i v hv => ?_) s.heap hk (nn _ (Nat.le_refl _)) (fun b hb => nn b (by rw [List.mem_singleton.mp hb]; exact Nat.le_of_lt hI)) (by show A3.units + 1 < cLine; omega)
    its.size 0 s1 (Nat.sub_zero _) (Nat.zero_le _) st kp ⟨[], #[], 0, _, setTR_fresh g0, Got.zero ks⟩ fun s' L es ep t mv r g _ => hR s' mv ⟨L, es, ep, t, r, by rw [hz] at g; exact g⟩
  have q : its.toList[i]? = some v := by rw [Array.getElem?_toList]; exact hv
  rw [hi, List.getElem?_map] at q
  obtain ⟨p, hp, e⟩ := Option.map_eq_some_iff.mp q
  exact ⟨p, hp, e.symm⟩
theorem got_mem {ks L : List (Addr × List Int)} (g : Got ks ks.length L) : (∀ p ∈ L, p ∈ ks) ∧ ∀ k, k ∈ L.map (·.2) ↔ k ∈ ks.map (·.2) := by
  have sub : ∀ p ∈ L, p ∈ ks := fun p hp => List.mem_of_mem_take (g.sub p hp)
  refine ⟨sub, fun k => ⟨fun h => ?_, fun h => ?_⟩⟩
  · obtain ⟨p, hp, e⟩ := List.mem_map.mp h
    exact List.mem_map.mpr ⟨p, sub p hp, e⟩
  · obtain ⟨p, hp, e⟩ := List.mem_map.mp h
    rw [← e]
    exact g.all p (by rw [List.take_length]; exact hp)
/-- sorted(a), a set that a road can walk -/
theorem sorted_set_gen {a : Addr} {es : Array (Int × Value)} {ep : Nat} {t : SetTable} {ltv : Value → Value → Bool} {Q : Value → Shared → Prop} (O : SrtO.Swo ltv) (hh : A.handled = none) (ha : SetAt s.heap a es ep t) (hf : t.fits es.size = true)
    (hz : es.size < scanBound) (hr : Ris t.place.toList) (hl : w.params.followText "set-order" = true ∨ t.led = true)
    (hS : ∀ (vs : List Value) (s1 : Shared) (b : Addr), vs.Perm (es.toList.map (·.2)) → (∀ c o, s.heap.get? c = some o → s1.heap.get? c = some o) → s1.heap.get? b = some (seqObj "list" vs.toArray 0) → s.heap.objs.size ≤ b → 2 ≤ vs.length → SrtO.SortableO P w A.in1.in1 s1 b vs ltv)
    (hQ : ∀ s' p out c, (∀ b o, s.heap.get? b = some o → s'.heap.get? b = some o) → s'.gens = s.gens → s'.os = s.os → s.heap.objs.size ≤ p → s'.heap.get? p = some (seqObj "list" (List.toArray out) c) → out.Perm (es.toList.map (·.2)) → SrtO.Srtd ltv out → Q (.ref p) s') :
    wpAny (model P w) A (call (.builtin "sorted") [.ref a]) Q E s := by
  refine Calls.call_function_entry kind_sorted plain_sorted entry_sorted (args_sorted1 _) ?_
  unfold Builtin.«sorted»
  refine wpAny_bind (m := checkCount "sorted" 1 1 _) (wpAny_pure ?_)
  refine wpAny_bind (collect_set (A := A.in1) hh ha hf hz hr hl fun s1 vs kp1 sz1 eg eo pm => ?_)
  have hvl : vs.length = es.size := by rw [pm.length_eq, List.length_map, Array.length_toList]
  have hvz : vs.length ≤ sizeLine := by rw [hvl]; exact fits_of_scanBound hz
  refine wpAny_bind (wpAny_newList ?_ hvz)
  have gL : (s1.heap.push (seqObj "list" vs.toArray 0)).get? s1.heap.objs.size = some (seqObj "list" vs.toArray 0) := Heap.get?_push_size _ rfl
  have kp2 : ∀ c o, s.heap.get? c = some o → (s1.heap.push (seqObj "list" vs.toArray 0)).get? c = some o := fun c o e => Heap.get?_push_of_some _ (kp1 c o e)
  refine wpAny_bind (wpAny_holding (wpAny_call_entry slot_list_sort ⟨_, gL, rfl⟩ entry_list_sort (SrtO.list_sort_ord O gL hvz (fun h2 => hS vs _ _ pm kp2 gL sz1 h2) fun out a1 a2 => ⟨_, rfl, ?_⟩) (args_list_sort _)))
  obtain ⟨c, gc⟩ := sortedHeap_at (vs := vs) (out := out.toArray) gL
  refine wpAny_pure ⟨_, rfl, hQ _ s1.heap.objs.size out c (fun b o e => ?_) eg eo sz1 gc (a2.perm.trans pm) a1⟩
  have hlt := Heap.lt_size (kp1 b o e)
  show (sortedHeap (s1.heap.push (seqObj "list" vs.toArray 0)) s1.heap.objs.size vs out.toArray).get? b = some o
  rw [sortedHeap_old (Nat.ne_of_lt hlt) (by rw [size_push']; exact Nat.lt_succ_of_lt hlt)]
  exact kp2 b o e
end
section
variable {X : Cx} {pins : List (Addr × Obj)} {σ : L2.St} {H : Hp} {s : Shared}
theorem seq_raw (I : Inv X pins σ H s) {l : Addr} {xs : List V} (h : SqL X.K H l xs ∨ SqT X.K H l xs) : ∃ its : List Value, Vals xs its ∧ (s.heap.IsList l its.toArray ∨ s.heap.IsTuple l its.toArray) ∧ xs.length ≤ sizeLine := by
  rcases h with h | h
  · obtain ⟨its, rv, pl, hz⟩ := I.list h
    exact ⟨its, rv, .inl pl.isList, by rw [rv.length]; have := rv.length; omega⟩
  · obtain ⟨its, rv, pl, hz⟩ := I.tuple h
    exact ⟨its, rv, .inr pl, by rw [rv.length]; have := rv.length; omega⟩
/-- f(set(a)) by what stands in a -/
def tSet1 (K : PySem.W.Frag) (fI : List Int → Hp → VK → Prop) (fT : List (Addr × List Int) → Hp → VK → Prop) (ta : TE) : TE := fun σ H Q => ta σ H fun x H1 => ∃ l, x = .ref l ∧
  ((∃ ns : List Int, (SqL K H1 l (ns.map V.int) ∨ SqT K H1 l (ns.map V.int)) ∧ ns.length < 1000 ∧ fI ns H1 Q) ∨
   (∃ ks : List (Addr × List Int), (SqL K H1 l (ks.map fun p => V.ref p.1) ∨ SqT K H1 l (ks.map fun p => V.ref p.1)) ∧ (∀ p ∈ ks, SqT K H1 p.1 (p.2.map V.int)) ∧ ks.length < 64 ∧ fT ks H1 Q))
def lsI (ns : List Int) (H : Hp) (Q : VK) : Prop := ∀ d : List Int, d.Nodup → (∀ x, x ∈ d ↔ x ∈ ns) → Q (.int d.length) H
def lsT (ks : List (Addr × List Int)) (H : Hp) (Q : VK) : Prop := ∀ d : List (List Int), d.Nodup → (∀ x, x ∈ d ↔ x ∈ ks.map (·.2)) → Q (.int d.length) H
def ssI (ns : List Int) (H : Hp) (Q : VK) : Prop := ∀ (d : List Int) (p : Addr), d.Pairwise (· < ·) → (∀ x, x ∈ d ↔ x ∈ ns) → H p = none → Q (.ref p) (upd H p (.lst (d.map V.int)))
def pr2 (l : List Int) : Int × Int := (l.getD 0 0, l.getD 1 0)
def ssT (ks : List (Addr × List Int)) (H : Hp) (Q : VK) : Prop := (∀ p ∈ ks, p.2.length = 2) ∧ ∀ (L : List (Addr × List Int)) (p : Addr), (∀ q ∈ L, q ∈ ks) → (L.map (·.2)).Nodup → (∀ k, k ∈ L.map (·.2) ↔ k ∈ ks.map (·.2)) →
  L.Pairwise (fun q r => SrtO.lexB (pr2 r.2) (pr2 q.2) = false) → H p = none → Q (.ref p) (upd H p (.lst (L.map fun q => V.ref q.1)))
theorem isT_pair {P : Program} {w : World} {h : Heap} {b : Addr} {k : List Int} (x : IsT P w h k b) (hl : k.length = 2) : Srt.IsPair h (.ref b) (pr2 k).1 (pr2 k).2 := by
  obtain ⟨o, ⟨items⟩, n, ho, hc, hd, hi⟩ := x
  match k, hl, hi with
  | [x, y], _, hi =>
    have hi := ints_of_items hi
    cases hi with
    | cons _ t1 r =>
      cases r with
      | cons _ t2 r =>
        cases r
        exact ⟨b, o, t1, t2, n, rfl, ho, hc, hd⟩
def adr : Value → Addr
  | .ref a => a
  | _ => 0
theorem pe_set1 {a : Expr} {ta : TE} {p p2 q pos : Pos} {nm : Str} {id : String} {fI : List Int → Hp → VK → Prop} {fT : List (Addr × List Int) → Hp → VK → Prop} (hc : X.calm = true) (hu : X.A.units + 64 < cLine) (hg : Gl X nm) (hm : X.mg nm = none) (hv : bootBuiltins nm = some (.builtin id)) (hn : nm ≠ "__name__") (hdb : (nm == ("__debug__" : Str)) = false)
    (hg2 : Gl X "set") (hm2 : X.mg "set" = none) (ha : PE X a ta)
    (kI : ∀ (s : Shared) (ns : List Int) (b : Addr) (c : Nat) (H : Hp) (Q : VK), Inv X pins σ H s → SetR X.w s.heap b (fun j => decide (j ∈ ns)) c → H b = none → fI ns H Q → wpAny (model X.prog X.w) X.A (call (.builtin id) [.ref b]) (EP X pins σ Q) X.xe s)
    (kT : ∀ (s : Shared) (ks L : List (Addr × List Int)) (b : Addr) es ep t (H : Hp) (Q : VK), Inv X pins σ H s → SetTR X.prog X.w s.heap b L es ep t → Got ks ks.length L → (∀ p ∈ ks, IsT X.prog X.w s.heap p.2 p.1) → fT ks H Q → wpAny (model X.prog X.w) X.A (call (.builtin id) [.ref b]) (EP X pins σ Q) X.xe s)
    (na : starEach [a] X.env = (false, eval a X.env) :: starEach [] X.env) (s : Shared) (H : Hp) (Q : VK) (I : Inv X pins σ H s) (h : tSet1 X.K fI fT ta σ H Q) :
    wpAny (model X.prog X.w) X.A (eval (.Call (.Name nm p) [.Call (.Name "set" p2) [a] [] q] [] pos) X.env) (EP X pins σ Q) X.xe s := by
  refine wpAny_Call_Name_kw (ld_blt I hg hm hv ?_ hn hdb)
  refine PyProof.Rows.callWith_builtin1 (PyProof.Rows.args_cons ?_ rfl) rfl rfl
  refine Call_ (ld_blt I hg2 hm2 PyProof.Rows.boot_set ?_)
  refine PyProof.Rows.callWith_type1 (PyProof.Rows.args_cons (thn (ha.run pins s σ H _ I h) fun v s1 ⟨x, H1, I1, r1, q1⟩ => PyProof.Rows.args_nil ?_) na) na rfl
  obtain ⟨l, rfl, q1⟩ := q1
  cases r1
  rcases q1 with ⟨ns, hs, hlen, qf⟩ | ⟨ks, hs, hts, hlen, qf⟩
  · obtain ⟨its, rv, pl, hz⟩ := seq_raw I1 hs
    refine set_ints (I1.ok.hd hc) pl (by simpa using rv.ints) (by unfold scanBound; omega) fun h' tk c R _ kp => PyProof.Rows.args_nil ?_
    exact kI _ ns _ c H1 Q (I1.kept kp) R (I1.hok.fresh (Nat.le_refl _)) qf
  · obtain ⟨its, rv, pl, hz⟩ := seq_raw I1 hs
    refine set_tups (I1.ok.hd hc) pl (by simpa using refs_of_vals rv) (fun p hp => I1.isT (hts p hp)) hlen (by omega) fun h' tk L es ep t R g kp => PyProof.Rows.args_nil ?_
    exact kT _ ks L _ es ep t H1 Q (I1.kept kp) R g (fun p hp => isT_keep (I1.isT (hts p hp)) kp) qf
theorem pe_lenset {a : Expr} {ta : TE} {p p2 q pos : Pos} (hc : X.calm = true) (hu : X.A.units + 64 < cLine) (hg : Gl X "len") (hm : X.mg "len" = none) (hg2 : Gl X "set") (hm2 : X.mg "set" = none) (ha : PE X a ta)
    (na : starEach [a] X.env = (false, eval a X.env) :: starEach [] X.env := by rfl) : PE X (.Call (.Name "len" p) [.Call (.Name "set" p2) [a] [] q] [] pos) (tSet1 X.K lsI lsT ta) := by
  refine ⟨fun pins s σ H Q I h => pe_set1 hc hu hg hm PySem.boot_len (by decide +kernel) (by decide +kernel) hg2 hm2 ha (fun s ns b c H Q I R _ qf => ?_) (fun s ks L b es ep t H Q I R g hk qf => ?_) na s H Q I h⟩
  · obtain ⟨o, es, ep, t, ho, hex, hd, _, nd, hm, hb, hf, hn, _⟩ := R
    refine call_len_set ho hex hd hf (by unfold scanBound at hb; omega) ⟨.int es.size, H, I.tok _, ⟨_, rfl⟩, ?_⟩
    have e : es.size = (es.toList.map keyOf).length := by rw [List.length_map, Array.length_toList]
    rw [e]
    exact qf _ nd fun x => by rw [← hm x]; exact decide_eq_true_iff
  · obtain ⟨o, ho, hex, hd⟩ := R.ob
    have hz := R.size
    have hfew := R.few
    refine call_len_set ho hex hd R.fits (by omega) ⟨.int es.size, H, I.tok _, ⟨_, rfl⟩, ?_⟩
    have e : es.size = (L.map (·.2)).length := by rw [hz, List.length_map]
    rw [e]
    exact qf _ R.nd (got_mem g).2
theorem pe_srtset {a : Expr} {ta : TE} {p p2 q pos : Pos} (hc : X.calm = true) (hu : X.A.units + 64 < cLine) (hg : Gl X "sorted") (hm : X.mg "sorted" = none) (hv : bootBuiltins "sorted" = some (.builtin "sorted")) (hg2 : Gl X "set") (hm2 : X.mg "set" = none) (ha : PE X a ta)
    (na : starEach [a] X.env = (false, eval a X.env) :: starEach [] X.env := by rfl) : PE X (.Call (.Name "sorted" p) [.Call (.Name "set" p2) [a] [] q] [] pos) (tSet1 X.K ssI ssT ta) := by
  refine ⟨fun pins s σ H Q I h => pe_set1 hc hu hg hm hv (by decide +kernel) (by decide +kernel) hg2 hm2 ha (fun s ns b c H Q I R _ qf => ?_) (fun s ks L b es ep t H Q I R g hk qf => ?_) na s H Q I h⟩
  · obtain ⟨o, es, ep, t, ho, hex, hd, gd, nd, hm, hb, hf, hn, hr, hl⟩ := R
    have hI : ∀ vs : List Value, vs.Perm (es.toList.map (·.2)) → IntsAre vs (vs.map SrtO.iv) := fun vs pm => SrtO.ints_iv fun v hv => by
      obtain ⟨e, he, q⟩ := List.mem_map.mp (pm.mem_iff.mp hv)
      obtain ⟨k, tk, h1, _⟩ := gd e he
      exact ⟨k, tk, by rw [← q]; exact h1⟩
    refine sorted_set_gen SrtO.swo_int (I.ok.hd hc) ⟨o, ho, hex.1, hd⟩ hf hb hr hl (fun vs s1 b' pm _ _ _ h2 => SrtO.ints_sortable (hI vs pm) h2) fun s' p out c kp eg eo hp gp pm srt => ?_
    have pk : (out.map SrtO.iv).Perm (es.toList.map keyOf) := by
      have q := pm.map SrtO.iv
      rw [List.map_map] at q
      exact q
    have ndo : (out.map SrtO.iv).Nodup := pk.nodup_iff.mpr nd
    have le : (out.map SrtO.iv).Pairwise (· ≤ ·) := List.pairwise_map.mpr (srt.imp fun {x y} h => Int.not_lt.mp (of_decide_eq_false (p := SrtO.iv y < SrtO.iv x) h))
    have lt : (out.map SrtO.iv).Pairwise (· < ·) := lt_of_le_nodup _ le ndo
    have hlen : ((out.map SrtO.iv).map V.int).length ≤ sizeLine := by
      rw [List.length_map, pk.length_eq, List.length_map, Array.length_toList]
      exact fits_of_scanBound hb
    have hn : H p = none := I.hok.fresh hp
    have J : Inv X pins σ (upd H p (.lst ((out.map SrtO.iv).map V.int))) { s with heap := s'.heap, gens := s'.gens, drawn := s'.drawn, toks := s'.toks } :=
      I.call (ch := []) (Un.laid kp hp hn) (I.hok.laid kp hp ⟨hlen, out, c, vals_of_ints (hI out pm), gp⟩) (by rw [eg]; exact I.bare) fun _ z => nomatch z
    rw [GxR.sh_eta s s' eo] at J
    exact ⟨.ref p, _, J, rfl, qf _ p lt (fun x => by rw [pk.mem_iff, ← hm x]; exact decide_eq_true_iff) hn⟩
  · obtain ⟨two, qf⟩ := qf
    obtain ⟨o, ho, hex, hd⟩ := R.ob
    have hz := R.size
    have hfew := R.few
    have hes : es.toList.map (·.2) = L.map fun q => Value.ref q.1 := by
      rw [R.rows]
      unfold rowsOf
      rw [List.map_map]
      rfl
    obtain ⟨sub, mem⟩ := got_mem g
    have fst : ∀ q ∈ L, TS.intsOf s.heap (.ref q.1) = q.2 := fun q hq => (tupInts_of (R.tup q hq)).ints
    refine sorted_set_gen (SrtO.swo_lex fun v => pr2 (TS.intsOf s.heap v)) (I.ok.hd hc) ⟨o, ho, hex.1, hd⟩ R.fits (by unfold scanBound; omega) R.tab.ris R.led (fun vs s1 b' pm kp gb hb' h2 => ?_) fun s' p out c kp eg eo hp gp pm srt => ?_
    · refine SrtO.pairs_sortableO (k := fun v => pr2 (TS.intsOf s.heap v)) (by omega) (fun v hv => ?_) fun o e => ?_
      · obtain ⟨q, hq, e⟩ := List.mem_map.mp (hes ▸ pm.mem_iff.mp hv)
        rw [← e, fst q hq]
        exact isT_pair (isT_keep (R.tup q hq) kp) (two q (sub q hq))
      · rw [gb] at e
        cases e
        intro cc
        exact absurd (Value.type.inj cc) (by decide)
    · rw [hes] at pm
      have el : ∀ v ∈ out, ∃ q ∈ L, v = Value.ref q.1 := fun v hv => by
        obtain ⟨q, hq, e⟩ := List.mem_map.mp (pm.mem_iff.mp hv)
        exact ⟨q, hq, e.symm⟩
      have eM : out = (out.map fun v => (adr v, TS.intsOf s.heap v)).map fun q => Value.ref q.1 := by
        rw [List.map_map]
        refine (List.map_id out).symm.trans (List.map_congr_left fun v hv => ?_)
        obtain ⟨q, hq, e⟩ := el v hv
        rw [e]
        rfl
      have pL : (out.map fun v => (adr v, TS.intsOf s.heap v)).Perm L := by
        refine (pm.map fun v => (adr v, TS.intsOf s.heap v)).trans (List.Perm.of_eq ?_)
        rw [List.map_map]
        refine (List.map_congr_left fun q hq => ?_).trans (List.map_id L)
        show (q.1, TS.intsOf s.heap (.ref q.1)) = q
        rw [fst q hq]
      have pw : (out.map fun v => (adr v, TS.intsOf s.heap v)).Pairwise (fun q r => SrtO.lexB (pr2 r.2) (pr2 q.2) = false) := List.pairwise_map.mpr srt
      generalize (out.map fun v => (adr v, TS.intsOf s.heap v)) = L' at eM pL pw
      have hlen : (L'.map fun q => V.ref q.1).length ≤ sizeLine := by
        rw [List.length_map, pL.length_eq, sizeLine_eq]
        omega
      have hn : H p = none := I.hok.fresh hp
      have J : Inv X pins σ (upd H p (.lst (L'.map fun q => V.ref q.1))) { s with heap := s'.heap, gens := s'.gens, drawn := s'.drawn, toks := s'.toks } :=
        I.call (ch := []) (Un.laid kp hp hn) (I.hok.laid kp hp ⟨hlen, out, c, by rw [eM]; exact vals_of_refs L', gp⟩) (by rw [eg]; exact I.bare) fun _ z => nomatch z
      rw [GxR.sh_eta s s' eo] at J
      exact ⟨.ref p, _, J, rfl, qf L' p (fun q hq => sub q (pL.mem_iff.mp hq)) ((pL.map (·.2)).nodup_iff.mpr R.nd) (fun k => by rw [(pL.map (·.2)).mem_iff]; exact mem k) pw hn⟩
end
end Px
/-! Px8: generator expressions, sets, dict displays, index of a tuple, by data; defs with their code objects. -/
namespace Px
open PySem PySem.Spec PyProof.Rows L2

/-! ### all(..), any(..) -/
def gaL (chk : Sto → Prop) (al : Bool) (g : WG) (t : WT) (e : WE) (vs : List Nat) (σ : Sl) (Q : VKd) : List D → Sto → Prop
  | [], S => chk S ∧ Q (.bl al) S
  | x :: r, S => chk S ∧ g x (wipeD σ vs) S fun σ2 S2 => t σ2 S2 fun b S3 => if b = true then
      e σ2 S3 fun y S4 => match y with
        | .bl k => if k = al then gaL chk al g t e vs σ Q r S4 else Q (.bl (!al)) S4
        | _ => False
    else gaL chk al g t e vs σ Q r S3
def wGA (al : Bool) (i : WI) (g : WG) (t : WT) (e : WE) (vs : List Nat) : WE := fun σ S Q => i σ S fun xs chk S1 => gaL chk al g t e vs σ Q xs S1
theorem StR.tabbed {G : Gx} {H H2 : Hp} {ρ : List Addr} {S : Sto} {P : Addr} (s : StR G H ρ S) (h0 : GxR.TabG H P) (h : GxR.Tabbed P H H2) : StR G H2 ρ S ∧ Kp H H2 := by
  obtain ⟨ps, hP, _⟩ := h0
  have kp : Kp H H2 := ⟨fun b xs e => by rw [h.2 b (fun z => by rw [z, hP] at e; cases e)]; exact e, fun b o u e => by rw [h.2 b (fun z => by rw [z, hP] at e; cases e)]; exact e⟩
  refine ⟨⟨s.len, s.nd, fun n o e => ?_, fun P' hP' => ?_⟩, kp⟩
  · obtain ⟨a, e1, r⟩ := s.ob n o e
    refine ⟨a, e1, ?_⟩
    by_cases ha : a = P
    · cases o with
      | lst _ => obtain ⟨vs, q, _⟩ := r; rw [ha, hP] at q; cases q
      | dct _ => obtain ⟨vs, q, _⟩ := r; rw [ha, hP] at q; cases q
      | ins _ _ => obtain ⟨_, vs, q, _⟩ := r; rw [ha, hP] at q; cases q
      | any _ =>
        obtain ⟨qs, e2, _⟩ := h.1
        exact ⟨r.1, _, by rw [ha]; exact e2⟩
    · exact r.mono kp (List.prefix_refl _) (h.2 a ha)
  · by_cases hq : P' = P
    · rw [hq]; exact h.1
    · obtain ⟨qs, e, t⟩ := s.tab P' hP'
      exact ⟨qs, by rw [h.2 P' hq]; exact e, t⟩
theorem l_ga {G : Gx} {τ : L2.St} {H : Hp} {al : Bool} {P : Addr} {i : WI} {g : WG} {t : WT} {e : WE} {vs : List Nat} {Q : VK} (hP : P ∈ G.T) (h : lE G (wGA al i g t e vs) τ H Q) : tGA al P (lI G i) (lGv G vs g) (lT G t) (lE G e) vs τ H Q := by
  obtain ⟨ρ, σ, S, Qd, s, sl, w, c⟩ := h
  refine ⟨ρ, σ, S, _, s, sl, w, fun H1 ρ1 S1 xs chk J k1 p1 s1 dl w1 => ⟨s1.tab P hP, fun H2 hT => ?_⟩⟩
  obtain ⟨s2, k2⟩ := s1.tabbed (s1.tab P hP) hT
  refine ⟨fun i m H3 => m = xs.length - i ∧ i ≤ xs.length ∧ ∃ ρ3 S3, Kp H1 H3 ∧ ρ1 <+: ρ3 ∧ StR G H3 ρ3 S3 ∧ gaL chk al g t e vs σ Qd (xs.drop i) S3,
    ⟨xs.length, by simp, Nat.zero_le _, ρ1, S1, k2, List.prefix_refl _, s2, w1⟩, ?_⟩
  rintro i m H3 ⟨rfl, hi, ρ3, S3, k3, p3, s3, w3⟩
  by_cases hlt : i < xs.length
  · rw [List.drop_eq_getElem_cons hlt] at w3
    obtain ⟨hc, w3⟩ := w3
    obtain ⟨dg, _⟩ := dl i H3 ρ3 S3 k3 p3 s3 hc
    obtain ⟨hg, hy⟩ := dg xs[i] (List.getElem?_eq_getElem hlt)
    refine .inr ⟨hg, fun H4 => ∃ ρ4 S4, Kp H1 H4 ∧ ρ1 <+: ρ4 ∧ StR G H4 ρ4 S4 ∧ gaL chk al g t e vs σ Qd (xs.drop (i + 1)) S4,
      fun H4 z => ⟨xs.length - (i + 1), by omega, rfl, hlt, z⟩, fun x H4 y => ?_⟩
    obtain ⟨ρ4, k4, p4, s4, r4⟩ := hy x H4 y
    have kk := k3.trans k4
    have pp := p3.trans p4
    refine ⟨ρ4, _, S3, xs[i], _, s4, (sl.mono (k1.trans kk) (p1.trans pp)).wipe vs, r4, w3, fun H5 ρ5 S5 σ5 τ5 k5 p5 s5 sl5 e5 w5 => ⟨e5.trans wipe_wipe, ?_⟩⟩
    refine ⟨ρ5, σ5, S5, _, s5, sl5, w5, fun H6 ρ6 S6 b k6 p6 s6 w6 => ?_⟩
    have k16 := (kk.trans k5).trans k6
    have p16 := (pp.trans p5).trans p6
    cases b with
    | false => exact iteF ⟨ρ6, S6, k16, p16, s6, w6⟩
    | true =>
      refine iteT ⟨ρ6, σ5, S6, _, s6, sl5.mono k6 p6, w6, fun H7 ρ7 S7 dy v k7 p7 s7 r7 w7 => ?_⟩
      cases dy with
      | bl k =>
        refine ⟨k, r7, ?_⟩
        dsimp only at w7
        by_cases hk : k = al
        · rw [if_pos hk] at w7 ⊢
          exact ⟨ρ7, S7, k16.trans k7, p16.trans p7, s7, w7⟩
        · rw [if_neg hk] at w7 ⊢
          exact c H7 ρ7 S7 _ _ (k1.trans (k16.trans k7)) (p1.trans (p16.trans p7)) s7 rel_bl w7
      | _ => exact w7.elim
  · have e0 : i = xs.length := by omega
    subst e0
    rw [List.drop_length] at w3
    exact .inl ⟨(dl _ H3 ρ3 S3 k3 p3 s3 w3.1).2 (Nat.le_refl _), c H3 ρ3 S3 _ _ (k1.trans k3) (p1.trans p3) s3 rel_bl w3.2⟩
section
variable {X : Cx} {T : List Addr} {SC : Scope} {fn : Str → Bool} {N : List Str} {vs ls : List Nat} {gs : List Str} {a b c : Expr} {pos p : Pos}
/-- the generator's frame -/
theorem Sc.gen {scope : Scope} {vs' ls' : List Nat} {gs' : List Str} (E : Sc X SC fn N vs ls gs) (h : scChk scope (fun _ => false) N vs' ls' gs' = true) (s : Shared) (H : Hp) (code : Value) (fp : List Addr) :
    Sc (gnx X s H (genE X scope s code) fp) scope (fun _ => false) N vs' ls' gs' := ⟨E.n, rfl, rfl, E.calm, h⟩
/-- the def's code object and its table -/
structure Cd (X : Cx) (T : List Addr) (c P : Addr) : Prop where
  tb : GxR.TabB X.base X.mg c P
  mem : P ∈ T
  code : X.env.code = .ref c
theorem r_ga (al : Bool) {nm : Str} (E : Sc X SC fn N vs ls gs) {k : Nat} (hr : Room k X.A) {cc Pt : Addr} (cd : Cd X T cc Pt) {elt tg iter : Expr} {ifs : List Expr} {scope : Scope} {gpos : Pos} (own : List (Str × Nat)) {i : WI} {g : WG} {t : WT} {e : WE}
    (hm : X.mg nm = none) (hi : RI X T tg iter i) (ok : genC N SC scope own = true)
    (hg : ∀ (s : Shared) (H : Hp) (code : Value) (fp : List Addr), RGv (gnx X s H (genE X scope s code) fp) T (own.map (·.2)) tg g) (ht : ∀ (s : Shared) (H : Hp) (code : Value) (fp : List Addr), RTs (gnx X s H (genE X scope s code) fp) T ifs t)
    (he : ∀ (s : Shared) (H : Hp) (code : Value) (fp : List Addr), RE (gnx X s H (genE X scope s code) fp) T elt e) (hnm : nm = (if al then "all" else "any") := by rfl) (hx : nm ∈ gs := by decide) (hs : ∀ v, genFold iter X.env v = pure v := by intro _; rfl)
    (hse : starEach [.GeneratorExp elt [⟨tg, iter, ifs, 0⟩] scope gpos] X.env = (false, eval (.GeneratorExp elt [⟨tg, iter, ifs, 0⟩] scope gpos) X.env) :: starEach [] X.env := by rfl) :
    RE X T (.Call (.Name nm p) [.GeneratorExp elt [⟨tg, iter, ifs, 0⟩] scope gpos] [] pos) (wGA al i g t e (own.map (·.2))) :=
  PE.imp (pe_ga al hnm hr E.calm E.nd (E.gl hx).1 hm cd.tb cd.code (by rw [E.n, E.sc]; exact genOk_by ok) hi hg ht he hs hse) fun _ _ _ => l_ga cd.mem
/-- room in the generator's frame -/
theorem room_gen {k : Nat} {s : Shared} {H : Hp} {ce : Env} {fp : List Addr} (hr : Room (k + 1) X.A) : Room k (gnx X s H ce fp).A :=
  ⟨hr.hd, by have := hr.dp; show X.A.depth + 1 + 3 * k + 5 < _; omega, by have := hr.un; show X.A.units + 1 + 1 + 3 + 16 * k + 200 < _; omega⟩
end
end Px
/-! Px9: sets, dict displays, index of a tuple, by data; defs with their code objects. -/
namespace Px
open PySem PySem.Spec PyProof.Rows L2

/-! ### sets -/
def tupsI : List D → Option (List (List Int))
  | [] => some []
  | .tup xs :: r => match intsD xs, tupsI r with
    | some k, some ks => some (k :: ks)
    | _, _ => none
  | _ :: _ => none
theorem tups_rel {K : PySem.W.Frag} {H : Hp} {ρ : List Addr} : ∀ {ds : List D} {vs : List V} {kk : List (List Int)}, RelDs K H ρ ds vs → tupsI ds = some kk →
    ∃ ks : List (Addr × List Int), vs = ks.map (fun p => V.ref p.1) ∧ ks.map (·.2) = kk ∧ ∀ p ∈ ks, SqT K H p.1 (p.2.map V.int)
  | [], _, _, r, h => by
    have r : _ = [] := r
    cases h
    exact ⟨[], r, rfl, fun p hp => by cases hp⟩
  | d :: ds, _, kk, ⟨v, vr, e, r1, r2⟩, h => by
    cases d with
    | tup xs =>
      simp only [tupsI] at h
      cases e1 : intsD xs with
      | none => rw [e1] at h; cases h
      | some k =>
        rw [e1] at h
        cases e2 : tupsI ds with
        | none => rw [e2] at h; cases h
        | some ks0 =>
          rw [e2] at h
          cases h
          obtain ⟨ks, e3, e4, e5⟩ := tups_rel r2 e2
          obtain ⟨a, us, e6, q, rs⟩ := r1
          have e7 := ints_rel rs e1
          subst e7
          refine ⟨(a, k) :: ks, by rw [e, e6, e3]; rfl, by rw [List.map_cons, e4], fun p hp => ?_⟩
          rcases List.mem_cons.mp hp with z | z
          · rw [z]; exact q
          · exact e5 p z
    | _ => simp [tupsI] at h
def dLS (S : Sto) (x : D) (Q : VKd) : Prop := match items S x with
  | some xs => (match intsD xs with
    | some ns => ns.length < 1000 ∧ ∀ d : List Int, d.Nodup → (∀ x, x ∈ d ↔ x ∈ ns) → Q (.int d.length) S
    | none => (match tupsI xs with
      | some ks => ks.length < 64 ∧ ∀ d : List (List Int), d.Nodup → (∀ x, x ∈ d ↔ x ∈ ks) → Q (.int d.length) S
      | none => False))
  | none => False
def wLS (wa : WE) : WE := fun σ S Q => wa σ S fun x S1 => dLS S1 x Q
def dSS (S : Sto) (x : D) (Q : VKd) : Prop := match items S x with
  | some xs => (match intsD xs with
    | some ns => ns.length < 1000 ∧ ∀ d : List Int, d.Pairwise (· < ·) → (∀ x, x ∈ d ↔ x ∈ ns) → Q (.obj S.length) (S ++ [.lst (d.map D.int)])
    | none => (match tupsI xs with
      | some ks => ks.length < 64 ∧ (∀ k ∈ ks, k.length = 2) ∧ ∀ d : List (List Int), d.Nodup → (∀ x, x ∈ d ↔ x ∈ ks) → d.Pairwise (fun q r => SrtO.lexB (pr2 r) (pr2 q) = false) → Q (.obj S.length) (S ++ [.lst (d.map fun k => D.tup (k.map D.int))])
      | none => False))
  | none => False
def wSS (wa : WE) : WE := fun σ S Q => wa σ S fun x S1 => dSS S1 x Q
section
variable {G : Gx} {τ : L2.St} {H : Hp}
theorem l_ls {wa : WE} {Q : VK} (h : lE G (wLS wa) τ H Q) : tSet1 G.K lsI lsT (lE G wa) τ H Q := by
  obtain ⟨ρ, σ, S, Qd, s, sl, w, c⟩ := h
  refine ⟨ρ, σ, S, _, s, sl, w, fun H1 ρ1 S1 dx x k1 p1 s1 r1 w1 => ?_⟩
  unfold dLS at w1
  split at w1
  · rename_i xs e0
    obtain ⟨a, us, e1, q, rs⟩ := items_ok s1 r1 e0
    refine ⟨a, e1, ?_⟩
    split at w1
    · rename_i ns e2
      have e3 := ints_rel rs e2
      subst e3
      exact .inl ⟨ns, q, w1.1, fun d h1 h2 => (c.mono k1 p1).self s1 rel_int (w1.2 d h1 h2)⟩
    · split at w1
      · rename_i kk e3
        obtain ⟨ks, e4, e5, e6⟩ := tups_rel rs e3
        subst e4
        refine .inr ⟨ks, q, e6, by rw [← e5, List.length_map] at w1; exact w1.1, fun d h1 h2 => (c.mono k1 p1).self s1 rel_int (w1.2 d h1 (by rw [← e5]; exact h2))⟩
      · exact w1.elim
  · exact w1.elim
theorem rel_tups {K : PySem.W.Frag} {H : Hp} {ρ : List Addr} : ∀ L : List (Addr × List Int), (∀ p ∈ L, SqT K H p.1 (p.2.map V.int)) → RelDs K H ρ ((L.map (·.2)).map fun k => D.tup (k.map D.int)) (L.map fun q => V.ref q.1)
  | [], _ => rfl
  | p :: L, h => .cons (rel_tup (h p List.mem_cons_self) (rel_ints p.2)) (rel_tups L fun q hq => h q (List.mem_cons_of_mem _ hq))
theorem l_ss {wa : WE} {Q : VK} (h : lE G (wSS wa) τ H Q) : tSet1 G.K ssI ssT (lE G wa) τ H Q := by
  obtain ⟨ρ, σ, S, Qd, s, sl, w, c⟩ := h
  refine ⟨ρ, σ, S, _, s, sl, w, fun H1 ρ1 S1 dx x k1 p1 s1 r1 w1 => ?_⟩
  unfold dSS at w1
  split at w1
  · rename_i xs e0
    obtain ⟨a, us, e1, q, rs⟩ := items_ok s1 r1 e0
    refine ⟨a, e1, ?_⟩
    split at w1
    · rename_i ns e2
      have e3 := ints_rel rs e2
      subst e3
      exact .inl ⟨ns, q, w1.1, fun d p h1 h2 hp => (c.mono k1 p1).newLst s1 hp (rel_ints d) (w1.2 d h1 h2)⟩
    · split at w1
      · rename_i kk e3
        obtain ⟨ks, e4, e5, e6⟩ := tups_rel rs e3
        subst e4
        refine .inr ⟨ks, q, e6, by rw [← e5, List.length_map] at w1; exact w1.1, fun p hp => w1.2.1 _ (by rw [← e5]; exact List.mem_map.mpr ⟨p, hp, rfl⟩), fun L p h1 h2 h3 h4 hp => ?_⟩
        exact (c.mono k1 p1).newLst s1 hp (rel_tups L fun q hq => e6 q (h1 q hq)) (w1.2.2 (L.map (·.2)) h2 (by rw [← e5]; exact h3) (List.pairwise_map.mpr h4))
      · exact w1.elim
  · exact w1.elim
end
section
variable {X : Cx} {T : List Addr} {SC : Scope} {fn : Str → Bool} {N : List Str} {vs ls : List Nat} {gs : List Str} {a b c : Expr} {pos p p2 q : Pos}
theorem r_ls (E : Sc X SC fn N vs ls gs) {k : Nat} (hr : Room k X.A) {wa : WE} (h1 : X.mg "len" = none) (h2 : X.mg "set" = none) (ha : RE X T a wa) (g1 : ("len" : Str) ∈ gs := by decide) (g2 : ("set" : Str) ∈ gs := by decide) (na : starEach [a] X.env = (false, eval a X.env) :: starEach [] X.env := by rfl) :
    RE X T (.Call (.Name "len" p) [.Call (.Name "set" p2) [a] [] q] [] pos) (wLS wa) := PE.imp (pe_lenset E.calm (by have := hr.un; omega) (E.gl g1).1 h1 (E.gl g2).1 h2 ha na) fun _ _ _ => l_ls
theorem r_ss (E : Sc X SC fn N vs ls gs) {k : Nat} (hr : Room k X.A) {wa : WE} (h1 : X.mg "sorted" = none) (h2 : X.mg "set" = none) (ha : RE X T a wa) (g1 : ("sorted" : Str) ∈ gs := by decide) (g2 : ("set" : Str) ∈ gs := by decide) (na : starEach [a] X.env = (false, eval a X.env) :: starEach [] X.env := by rfl) :
    RE X T (.Call (.Name "sorted" p) [.Call (.Name "set" p2) [a] [] q] [] pos) (wSS wa) := PE.imp (pe_srtset E.calm (by have := hr.un; omega) (E.gl g1).1 h1 (by decide +kernel) (E.gl g2).1 h2 ha na) fun _ _ _ => l_ss

/-! ### tuple(range(a, b)) -/
def wTR2 (wa wb : WE) : WE := fun σ S Q => wa σ S fun x S1 => wb σ S1 fun y S2 => match x, y with
  | .int i, .int j => RgOk i j ∧ Q (.tup (rng i (j - i).toNat 1)) S2
  | _, _ => False
theorem rel_rng {K : PySem.W.Frag} {H : Hp} {ρ : List Addr} (i j : Int) : RelDs K H ρ (rng i (j - i).toNat 1) (rgV i j) := by
  have h := rel_ints (K := K) (H := H) (ρ := ρ) ((List.range (j - i).toNat).map fun k => i + (k : Nat))
  have e1 : rng i (j - i).toNat 1 = ((List.range (j - i).toNat).map fun k : Nat => i + (k : Nat)).map D.int := by
    unfold rng
    rw [List.map_map]
    exact List.map_congr_left fun k _ => by show D.int _ = D.int _; rw [Int.mul_one]
  have e2 : rgV i j = ((List.range (j - i).toNat).map fun k : Nat => i + (k : Nat)).map V.int := by
    unfold rgV
    rw [List.map_map]
    rfl
  rw [e1, e2]
  exact h
theorem r_tr2 (E : Sc X SC fn N vs ls gs) {wa wb : WE} {pr : Pos} (h1 : X.mg "tuple" = none) (h2 : X.mg "range" = none) (ha : RE X T a wa) (hb : RE X T b wb) (g1 : ("tuple" : Str) ∈ gs := by decide) (g2 : ("range" : Str) ∈ gs := by decide)
    (na : starEach [a, b] X.env = (false, eval a X.env) :: starEach [b] X.env := by rfl) (nb : starEach [b] X.env = (false, eval b X.env) :: starEach [] X.env := by rfl)
    (nr : starEach [.Call (.Name "range" p2) [a, b] [] pr] X.env = (false, eval (.Call (.Name "range" p2) [a, b] [] pr) X.env) :: starEach [] X.env := by rfl) (hp : (backTo pr (starEach [b] X.env)).any (·.1) = false := by rfl) :
    RE X T (.Call (.Name "tuple" p) [.Call (.Name "range" p2) [a, b] [] pr] [] pos) (wTR2 wa wb) := PE.imp (pe_tupRg E.calm (E.gl g1).1 h1 (prg_2 (E.gl g2).1 h2 ha hb na nb hp) nr) fun τ H Q h => by
  obtain ⟨ρ, σ, S, Qd, s, sl, w, c⟩ := h
  refine ⟨ρ, σ, S, _, s, sl, w, fun H1 ρ1 S1 dx x k1 p1 s1 r1 w1 => ?_⟩
  refine ⟨ρ1, σ, S1, _, s1, sl.mono k1 p1, w1, fun H2 ρ2 S2 dy y k2 p2 s2 r2 w2 => ?_⟩
  cases dx with
  | int i =>
    cases dy with
    | int j =>
      have r1 : x = .int i := r1
      have r2 : y = .int j := r2
      subst r1 r2
      exact ⟨i, j, rfl, rfl, w2.1, fun q hq => (c.mono (k1.trans k2) (p1.trans p2)).newTup s2 hq (rel_rng i j) w2.2⟩
    | _ => exact w2.elim
  | _ => exact w2.elim

/-! ### a written tuple of texts -/
def KTs (K : PySem.W.Frag) (a : Addr) (xs : List Str) : Prop := ∃ (o : Obj) (its : Array Value) (n : Nat), K.lookup a = some o ∧ o.cls = .type "tuple" ∧ o.dict = none ∧ o.data = .seq its n ∧ its.size ≤ sizeLine ∧ Vals (xs.map V.str) its.toList
theorem KTs.sq {K : PySem.W.Frag} {a : Addr} {xs : List Str} (h : KTs K a xs) (H : Hp) : SqT K H a (xs.map V.str) := by
  obtain ⟨o, its, n, h1, h2, _, h4, h5, h6⟩ := h
  exact .inr ⟨o, its, n, h1, h2, h4, h5, h6⟩
theorem rel_strs {K : PySem.W.Frag} {H : Hp} {ρ : List Addr} : ∀ ns : List Str, RelDs K H ρ (ns.map D.str) (ns.map V.str)
  | [] => rfl
  | _ :: ns => .cons rfl (rel_strs ns)
/-- the module's tuple of texts as a value -/
theorem r_kts (E : Sc X SC fn N vs ls gs) {x : Str} {ad : Addr} {xs : List Str} (hm : X.mg x = some (.ref ad)) (hk : KTs X.K ad xs) (hx : x ∈ gs := by decide) : RE X T (.Name x p) (wC (.tup (xs.map D.str))) :=
  let g := E.gl hx
  r_glob (v := .ref ad) g.1 hm rfl (fun H ρ => rel_tup (hk.sq H) (rel_strs xs)) g.2.1
def wTidx (xs : List Str) (we : WE) : WE := fun σ S Q => we σ S fun d S1 => match d with
  | .str z => ∃ j : Nat, xs[j]? = some z ∧ (∀ m, m < j → xs[m]? ≠ some z) ∧ Q (.int j) S1
  | _ => False
theorem r_tidx (E : Sc X SC fn N vs ls gs) {x : Str} {ad : Addr} {xs : List Str} {e : Expr} {we : WE} {apos cpos : Pos} (hm : X.mg x = some (.ref ad)) (hk : KTs X.K ad xs) (he : RE X T e we) (hx : x ∈ gs := by decide)
    (hbase : attributeBase (.Name x p) "index" X.env (eval (.Name x p) X.env) = eval (.Name x p) X.env := by rfl)
    (hfew : ((backTo cpos (starEach [e] X.env)).all (fun x => !x.1) && (backToKw cpos (keywordEach [] X.env)).all (fun x => x.1.isSome)
      && decide (([e] : List Expr).length + ([] : List Keyword).length + (if ([] : List Keyword).isEmpty then 0 else 1) < 30)) = true := by rfl)
    (hline : (apos.endLine == cpos.line) = true := by rfl) (hs : starEach [e] X.env = (false, eval e X.env) :: starEach [] X.env := by rfl) (hplain : (backTo cpos (starEach [] X.env)).any (·.1) = false := by rfl) :
    RE X T (.Call (.Attribute (.Name x p) "index" apos) [e] [] cpos) (wTidx xs we) :=
  PE.imp (pe_bm PySem.F.plainAttrs_tuple PySem.F.slot_tuple_index PySem.F.type_tuple_index mt_tup_index (pe_glob (v := .ref ad) (E.gl hx).1 hm rfl (E.gl hx).2.1) (pa_cons he pa_nil hs) hbase hfew hline hs hplain) fun τ H Q h => by
  obtain ⟨ρ, σ, S, Qd, s, sl, w, c⟩ := h
  obtain ⟨o, its, n, h1, h2, h3, h4, h5, h6⟩ := id hk
  refine ⟨.inr (.inl ⟨rfl, o, h1, h2, h3⟩), ρ, σ, S, _, s, sl, w, fun H1 ρ1 S1 dx x k1 p1 s1 r1 w1 => ?_⟩
  cases dx with
  | str z =>
    have r1 : x = .str z := r1
    subst r1
    obtain ⟨j, j1, j2, j3⟩ := w1
    exact ⟨ad, xs, z, j, rfl, rfl, hk.sq H1, j1, j2, (c.mono k1 p1).self s1 rel_int j3⟩
  | _ => exact w1.elim

/-! ### dict displays with text keys -/
theorem fold_put {K : PySem.W.Frag} {H : Hp} {ρ : List Addr} : ∀ {acc : List (Key × D)} {us : List (Key × V)} {m : List (Key × D)} {n : List (Key × V)}, KvR K H ρ acc us → KvR K H ρ m n →
    KvR K H ρ (acc.foldl (fun m kv => dPut m kv.1 kv.2) m) (us.foldl (fun m kv => putK m kv.1 kv.2) n)
  | [], _, _, _, r, q => by
    have r : _ = [] := r
    rw [r]
    exact q
  | (k, d) :: acc, _, _, _, ⟨v, vr, e, r1, r2⟩, q => by
    subst e
    exact fold_put (acc := acc) (us := vr) r2 (q.put r1)
theorem kv_app {K : PySem.W.Frag} {H : Hp} {ρ : List Addr} {κ : Type} : ∀ {a b : List (κ × D)} {u v : List (κ × V)}, KvR K H ρ a u → KvR K H ρ b v → KvR K H ρ (a ++ b) (u ++ v)
  | [], _, _, _, r, q => by
    have r : _ = [] := r
    rw [r]
    exact q
  | (k, d) :: a, _, _, _, ⟨v, vr, e, r1, r2⟩, q => by
    rw [e]
    exact ⟨v, _, rfl, r1, kv_app r2 q⟩
theorem KvR.mono' {K : PySem.W.Frag} {H H' : Hp} {ρ ρ' : List Addr} (k : Kp H H') (p : ρ <+: ρ') {κ : Type} {ds : List (κ × D)} {vs : List (κ × V)} (h : KvR K H ρ ds vs) : KvR K H' ρ' ds vs := KvR.mono k p h
theorem l_dcgo {G : Gx} {n : Nat} {pd : Addr} : ∀ (kws : List (Str × WE)) (τ : L2.St) (H : Hp) (ρ : List Addr) (σ : Sl) (S : Sto) (acc : List (Key × D)) (us : List (Key × V)) (Qd : VKd) (R : List (V × V) → Hp → Prop),
    StR G H ρ S → SlR G.K H ρ σ τ → ρ[n]? = some pd → KvR G.K H ρ acc us → wDc.go n kws σ S acc Qd →
    (∀ H' ρ' S' more us', Kp H H' → ρ <+: ρ' → StR G H' ρ' S' → KvR G.K H' ρ' more us' → more.length = kws.length → (match S'[n]? with
      | some (.dct []) => Qd (.obj n) (S'.set n (.dct ((acc ++ more).foldl (fun m kv => dPut m kv.1 kv.2) [])))
      | _ => False) → R (us'.map fun kv => (kV kv.1, kv.2)) H') →
    tPairs (kws.map fun kw => (tC (.str kw.1), lE G kw.2)) τ H R
  | [], τ, H, ρ, σ, S, acc, us, Qd, R, s, sl, hn, ka, w, k => by
    refine k H ρ S [] [] (Kp.refl _) (List.prefix_refl _) s rfl rfl ?_
    rw [List.append_nil]
    exact w
  | (key, we) :: kws, τ, H, ρ, σ, S, acc, us, Qd, R, s, sl, hn, ka, w, k => by
    refine ⟨ρ, σ, S, _, s, sl, w, fun H1 ρ1 S1 dv v k1 p1 s1 r1 w1 => ?_⟩
    refine l_dcgo kws τ H1 ρ1 σ S1 (acc ++ [(.inr key, dv)]) (us ++ [(.inr key, v)]) Qd _ s1 (sl.mono k1 p1) (pre_get p1 hn) (kv_app (KvR.mono k1 p1 ka) ⟨v, [], rfl, r1, rfl⟩) w1 fun H2 ρ2 S2 more us' k2 p2 s2 km hl hq => ?_
    refine k H2 ρ2 S2 ((.inr key, dv) :: more) ((.inr key, v) :: us') (k1.trans k2) (p1.trans p2) s2 ⟨v, us', rfl, RelD.mono k2 p2 _ r1, km⟩ (by rw [List.length_cons, hl]; rfl) ?_
    rw [List.append_assoc] at hq
    exact hq
theorem l_dc {G : Gx} {kws : List (Str × WE)} {τ : L2.St} {H : Hp} {Q : VK} (h15 : kws.length ≤ 15) (h : lE G (wDc kws) τ H Q) : tDisp (kws.map fun kw => (tC (.str kw.1), lE G kw.2)) τ H Q := by
  obtain ⟨ρ, σ, S, Qd, s, sl, w, c⟩ := h
  intro pd hp
  have k0 : Kp H (upd H pd (.dK [])) := Kp.new hp
  have p0 : ρ <+: ρ ++ [pd] := List.prefix_append _ _
  have s0 : StR G (upd H pd (.dK [])) (ρ ++ [pd]) (S ++ [.dct []]) := s.newObj hp ⟨[], upd_same, rfl⟩
  have a0 : (ρ ++ [pd])[S.length]? = some pd := by rw [← s.len, List.getElem?_append_right (Nat.le_refl _), Nat.sub_self]; rfl
  refine l_dcgo (n := S.length) (pd := pd) kws τ _ (ρ ++ [pd]) σ (S ++ [.dct []]) [] [] Qd _ s0 (sl.mono k0 p0) a0 rfl (show wDc.go S.length kws σ (S ++ [.dct []]) [] Qd from w) fun H1 ρ1 S1 more us' k1 p1 s1 km hl hq => ?_
  have a1 := pre_get p1 a0
  split at hq
  · rename_i e1
    obtain ⟨b, hb, us, g1, rs⟩ := s1.ob _ _ e1
    rw [a1] at hb; cases hb
    have rs : us = [] := rs
    subst rs
    refine ⟨g1, us', rfl, by rw [← km.length, hl]; exact h15, ?_⟩
    rw [List.nil_append] at hq
    have k3 : Kp H1 (upd H1 pd (.dK (mergeK [] us'))) := Kp.mut g1 trivial
    exact c _ ρ1 _ _ _ ((k0.trans k1).trans k3) (p0.trans p1) (s1.setObj (o := .dct (more.foldl (fun m kv => dPut m kv.1 kv.2) [])) a1 g1 trivial ⟨_, upd_same, (fold_put (m := []) (n := []) km rfl).mono k3 (List.prefix_refl _)⟩) (rel_obj a1) hq
  · exact hq.elim
/-- the pairs of a display -/
abbrev RKs (X : Cx) (T : List Addr) (pos : Pos) (keys : List (Option Expr)) (values : List Expr) (kws : List (Str × WE)) : Prop := PPs X pos keys values (kws.map fun kw => (tC (.str kw.1), lE (gx X T) kw.2))
theorem k_0 : RKs X T pos [] [] [] := pps_nil
theorem k_c {x : Str} {v : Expr} {ks : List (Option Expr)} {vs : List Expr} {w : WE} {kws : List (Str × WE)} {j : Nat} (hv : RE X T v w) (hr : RKs X T pos ks vs kws) : RKs X T pos (some (.Constant (.str x) j p) :: ks) (v :: vs) ((x, w) :: kws) := pps_cons pe_str hv hr
theorem r_dc {keys : List (Option Expr)} {values : List Expr} {kws : List (Str × WE)} (h : RKs X T pos keys values kws) (hk : kws.length ≤ 15 := by decide) (hall : keys.all (·.isSome) = true := by rfl) (hl : keys.length = values.length := by rfl) (h0 : keys ≠ [] := by simp) (h15 : keys.length ≤ 15 := by decide) :
    RE X T (.Dict keys values pos) (wDc kws) := PE.imp (pe_disp h hall hl h0 h15) fun _ _ _ => l_dc hk

/-! ### defs with their code objects -/
end
end Px
/-! Px10: defs with their code objects; the head's facts. -/
namespace Px
open PySem PySem.Spec PyProof.Rows L2

theorem FunD.okC {P : Program} {w : World} {K : PySem.W.Frag} {mg : Str → Option Value} {base : Heap} {x qual : Str} {params : Arguments} {body : List Stmt} {scope : Scope} {dvs : List V} {kws : List (Str × V)} {f : Addr} {fd : FuncData}
    {CX : CXT} {N ps : List Str} {k : Nat} {sp : Sp} (F : FunD K x qual params body scope dvs kws f fd) (S : FnScope N ps scope) (len : ∀ vs H Q E, sp vs H Q E → vs.length = ps.length)
    (hbody : ∀ (cdv : Value), fd.code = cdv → ∀ (A : Around) (outer : List Env) (s : Shared) (H : Hp) (vs : List V) (Q : VK) (E : XK), Room k (A.deeper (envOfC qual scope s.heap.objs.size f cdv)) → sp vs H Q E →
      ∃ t, PSs (cxOf CX P w K mg base N qual scope f cdv A outer s H E) body t ∧ t { nx := fun _ H' => Q .non H', rt := Q } (start N vs) H) : FnOk P w K mg base CX (k + 1) f fd ps sp := by
  obtain ⟨oc, od, dV, kV, doc, pm, an, cdv, ct, osl, rfl, lk, hcd, _, _⟩ := F.ex
  exact fn_of lk hcd S len fun A outer s H vs Q E hr hsp => hbody cdv rfl A outer s H vs Q E hr hsp
theorem fn_spec2 {P : Program} {w : World} {K : PySem.W.Frag} {mg : Str → Option Value} {base : Heap} {T : List Addr} {N : List Str} {vs ls : List Nat} {gs : List Str} {x qual : Str} {params : Arguments} {body : List Stmt} {scope : Scope} {f : Addr} {fd : FuncData} {ps : List Str} {k : Nat} {sp : Spec} {wb : WS}
    (F : FunD K x qual params body scope [] [] f fd) (S : FnScope N ps scope) (chk : scChk scope (fun _ => true) N vs ls gs = true) (hlen : ∀ ds S Q E, sp ds S Q E → ds.length = ps.length)
    (hb : ∀ X : Cx, X.prog = P → X.w = w → X.K = K → X.mg = mg → X.base = base → Room k X.A → X.xe = (fun _ _ => False) → Sc X scope (fun _ => true) N vs ls gs → X.env.code = fd.code → RSs X T body wb)
    (hsp : ∀ ds S Q E, wfS S → blws S.length ds = true → sp ds S Q E → wb (bodyE S.length Q) (startD N ds) S) :
    FnOk P w K mg base (L2.CX P w) (k + 1) f fd ps (lSp ⟨K, T⟩ ps.length sp) := by
  refine FunD.okC F S (fun us H Q E h => ?_) fun cdv hcd A outer s H us Q E hr h => ?_
  · obtain ⟨ρ, S, ds, Qd, Ed, s, r, hl, w1, c, _⟩ := h
    rw [← r.length]
    exact hl
  · obtain ⟨ρ, St, ds, Qd, Ed, s1, r, hl, w1, c, _⟩ := h
    refine ⟨_, PSs.nox (hb _ rfl rfl rfl rfl rfl hr rfl ⟨rfl, rfl, rfl, rfl, chk⟩ hcd.symm), ?_⟩
    have fin : Cont ⟨K, T⟩ H ρ (RetQ St.length Qd) Q := fun H' ρ' S' d v k1 p1 s2 r2 ⟨d', S'', sh, q⟩ => by
      obtain ⟨ρ'', hp, s3, r3⟩ := sh _ H' ρ' v s2 r2
      have pre : ρ <+: ρ'' := by
        have hlen : ρ.length ≤ ρ''.length := by
          by_cases h0 : ρ.length = 0
          · omega
          · have hlt : ρ.length - 1 < St.length := by rw [← s1.len]; omega
            have e := hp (ρ.length - 1) hlt
            have e2 : ρ[ρ.length - 1]? = some (ρ[ρ.length - 1]'(by omega)) := List.getElem?_eq_getElem (by omega)
            have e3 := (List.getElem?_eq_some_iff.mp (e.trans (pre_get p1 e2))).1
            omega
        refine List.prefix_iff_eq_take.mpr (List.ext_getElem? fun m => ?_)
        by_cases hm : m < ρ.length
        · rw [List.getElem?_take_of_lt hm, hp m (by rw [← s1.len]; exact hm)]
          obtain ⟨t, rfl⟩ := p1
          rw [List.getElem?_append_left hm]
        · rw [List.getElem?_eq_none (by omega), List.getElem?_eq_none (by rw [List.length_take]; omega)]
      exact c H' ρ'' S'' d' v k1 pre s3 r3 q
    refine ⟨ρ, startD N ds, St, bodyE St.length Qd, s1, start_rel r, hsp ds St Qd Ed s1.wf (by rw [← s1.len]; exact RelDs.blws ds r) w1, ⟨fun H' ρ' S' σ τ k1 p1 s2 sl w2 => ?_, fin, fun H' ρ' S' σ τ k1 p1 s2 sl w2 => w2.elim, fun H' ρ' S' σ τ k1 p1 s2 sl w2 => w2.elim⟩⟩
    exact fin H' ρ' S' .non .non k1 p1 s2 rfl w2

/-! ### the head's facts -/
abbrev Dp := Str × Option Str
/-- a def's code object and its table -/
def codeOf (K : PySem.W.Frag) (p : Dp) : Addr × Addr := match K.lookup (He.fAd K p) with
  | some ⟨_, _, .func fd, _⟩ => (match fd.code with
    | .ref c => (match K.lookup c with
      | some ⟨_, _, .fields vs, _⟩ => (match (vs[11]? : Option Value) with
        | some (.ref t) => (c, t)
        | _ => (0, 0))
      | _ => (0, 0))
    | _ => (0, 0))
  | _ => (0, 0)
def isTab : Option Obj → Bool
  | some ⟨.none, none, .fields vs, sl⟩ => vs.isEmpty && sl.isEmpty
  | _ => false
theorem isTab_ok {o : Option Obj} (h : isTab o = true) : o = some { cls := .none, data := .fields #[] } := by
  unfold isTab at h
  split at h
  · rename_i vs sl
    obtain ⟨h1, h2⟩ := He.ba h
    rw [Array.isEmpty_iff.mp h1, Array.isEmpty_iff.mp h2]
  · cases h
def codeIs (K : PySem.W.Frag) (p : Dp) (c : Addr) : Bool := match K.lookup (He.fAd K p) with
  | some ⟨_, _, .func fd, _⟩ => (match fd.code with
    | .ref c' => c' == c
    | _ => false)
  | _ => false
/-- the module's name x is a tuple of these texts -/
def ktsB (K : PySem.W.Frag) (x : Str) (xs : List Str) : Bool := match K.lookup (He.ga K x) with
  | some ⟨.type c, none, .seq its _, _⟩ => decide (c = "tuple") && (decide (its.size ≤ sizeLine) && He.relAll (xs.map V.str) its.toList)
  | _ => false
theorem ktsB_ok {K : PySem.W.Frag} {x : Str} {xs : List Str} (h : ktsB K x xs = true) : KTs K (He.ga K x) xs := by
  unfold ktsB at h
  split at h
  · rename_i c its n sl e
    obtain ⟨h1, h2⟩ := He.ba h
    obtain ⟨h3, h4⟩ := He.ba h2
    exact ⟨_, its, n, e, congrArg Value.type (of_decide_eq_true h1), rfl, rfl, of_decide_eq_true h3, He.relAll_ok h4⟩
  · cases h
/-- without the tables -/
def noTabs (cs : List (Addr × Addr)) (K : PySem.W.Frag) : PySem.W.Frag := K.filter fun e => !(cs.any fun cp => cp.2 == e.1)
theorem lookup_mem {a : Addr} {o : Obj} : ∀ {K : PySem.W.Frag}, K.lookup a = some o → (a, o) ∈ K
  | [], h => by cases h
  | (b, u) :: K, h => by
    rw [List.lookup_cons] at h
    cases e : a == b with
    | true =>
      rw [e] at h
      cases h
      rw [beq_iff_eq.mp e]
      exact List.mem_cons_self
    | false =>
      rw [e] at h
      exact List.mem_cons_of_mem _ (lookup_mem h)
theorem frG_mem {g : Addr → Option Obj} {a : Addr} {o : Obj} {as : List Addr} (h : (a, o) ∈ He.frG g as) : g a = some o := by
  unfold He.frG at h
  obtain ⟨b, _, e⟩ := List.mem_filterMap.mp h
  cases q : g b with
  | none => rw [q] at e; cases e
  | some u =>
    rw [q] at e
    cases e
    exact q
theorem noTabs_in {cs : List (Addr × Addr)} {as : List Addr} {h : Heap} : (noTabs cs (He.frG h.get? as)).In h := fun a o e => frG_mem (List.mem_filter.mp (lookup_mem e)).1
theorem noTabs_no {cs : List (Addr × Addr)} {K : PySem.W.Frag} {cp : Addr × Addr} (h : cp ∈ cs) : (noTabs cs K).lookup cp.2 = none := by
  cases e : (noTabs cs K).lookup cp.2 with
  | none => rfl
  | some o =>
    have h1 := (List.mem_filter.mp (lookup_mem e)).2
    have h2 : (cs.any fun c => c.2 == cp.2) = true := List.any_eq_true.mpr ⟨cp, h, by simp⟩
    rw [h2] at h1
    cases h1
abbrev AlX : Type := He.AlD × Bool
def obsX (n : Nat) (fa : List He.Fa) (fn : List He.DefD) (gp : List Dp) (kt : List (Str × List Str)) (g : Addr → Option Obj) : AlX :=
  let K0 := He.frG g (He.asD g n)
  let cs := gp.map (codeOf K0)
  let K := noTabs cs K0
  (He.obsD fa fn K, (gp.all fun p => PySem.W.codeHdIn K (codeOf K0 p).1 (codeOf K0 p).2 && (isTab (g (codeOf K0 p).2) && codeIs K p (codeOf K0 p).1)) && kt.all fun q => ktsB K q.1 q.2)
/-- what is known of the heap behind the top -/
structure SaysX (fa : List He.Fa) (fn : List He.DefD) (gp : List Dp) (kt : List (Str × List Str)) (K : PySem.W.Frag) (cs : List (Addr × Addr)) (h : Heap) : Prop where
  kin : K.In h
  says : He.SaysD fa fn K
  len : cs.length = gp.length
  cod : ∀ (i : Nat) (p : Dp) (cp : Addr × Addr), gp[i]? = some p → cs[i]? = some cp → PySem.W.codeHdIn K cp.1 cp.2 = true ∧ codeIs K p cp.1 = true
  tab : ∀ cp ∈ cs, h.get? cp.2 = some { cls := .none, data := .fields #[] } ∧ K.lookup cp.2 = none ∧ PySem.W.CodeHd h cp.1 cp.2
  kts : ∀ q ∈ kt, KTs K (He.ga K q.1) q.2
def hookX (n : Nat) (fa : List He.Fa) (fn : List He.DefD) (gp : List Dp) (kt : List (Str × List Str)) : PySem.W.Hook where
  α := AlX
  obs := fun s => obsX n fa fn gp kt s.heap.get?
  val := fun _ => (He.valD fn, true)
  says := fun _ h => ∃ K cs, SaysX fa fn gp kt K cs h
  of := fun w s e => by
    have e1 : He.obsD fa fn (noTabs (gp.map (codeOf (He.frG s.heap.get? (He.asD s.heap.get? n)))) (He.frG s.heap.get? (He.asD s.heap.get? n))) = He.valD fn := congrArg (fun z : AlX => z.1) e
    have e2 : ((gp.all fun p => PySem.W.codeHdIn (noTabs (gp.map (codeOf (He.frG s.heap.get? (He.asD s.heap.get? n)))) (He.frG s.heap.get? (He.asD s.heap.get? n))) (codeOf (He.frG s.heap.get? (He.asD s.heap.get? n)) p).1 (codeOf (He.frG s.heap.get? (He.asD s.heap.get? n)) p).2 && (isTab (s.heap.get? (codeOf (He.frG s.heap.get? (He.asD s.heap.get? n)) p).2) && codeIs (noTabs (gp.map (codeOf (He.frG s.heap.get? (He.asD s.heap.get? n)))) (He.frG s.heap.get? (He.asD s.heap.get? n))) p (codeOf (He.frG s.heap.get? (He.asD s.heap.get? n)) p).1)) && kt.all fun q => ktsB (noTabs (gp.map (codeOf (He.frG s.heap.get? (He.asD s.heap.get? n)))) (He.frG s.heap.get? (He.asD s.heap.get? n))) q.1 q.2) = true := congrArg (fun z : AlX => z.2) e
    generalize hK0 : He.frG s.heap.get? (He.asD s.heap.get? n) = K0 at e1 e2
    have kin : (noTabs (gp.map (codeOf K0)) K0).In s.heap := by rw [← hK0]; exact noTabs_in
    generalize hcs : gp.map (codeOf K0) = cs at e1 e2 kin
    obtain ⟨e3, e4⟩ := He.ba e2
    have one : ∀ p ∈ gp, PySem.W.codeHdIn (noTabs cs K0) (codeOf K0 p).1 (codeOf K0 p).2 = true ∧ isTab (s.heap.get? (codeOf K0 p).2) = true ∧ codeIs (noTabs cs K0) p (codeOf K0 p).1 = true := fun p hp => by
      obtain ⟨z1, z2⟩ := He.ba (List.all_eq_true.mp e3 p hp)
      obtain ⟨z3, z4⟩ := He.ba z2
      exact ⟨z1, z3, z4⟩
    refine ⟨noTabs cs K0, cs, ⟨kin, e1, by rw [← hcs, List.length_map], fun i p cp h1 h2 => ?_, fun cp hcp => ?_, fun q hq => ktsB_ok (List.all_eq_true.mp e4 q hq)⟩⟩
    · rw [← hcs, List.getElem?_map, h1] at h2
      cases h2
      obtain ⟨a, _, b⟩ := one p (List.mem_of_getElem? h1)
      exact ⟨a, b⟩
    · have hcp' := hcp
      rw [← hcs] at hcp
      obtain ⟨p, hp, ep⟩ := List.mem_map.mp hcp
      subst ep
      obtain ⟨a, b, _⟩ := one p hp
      exact ⟨isTab_ok b, noTabs_no hcp', PySem.W.codeHd_of_K kin a⟩
  keeps := fun w h h' hh k => by
    obtain ⟨K, cs, S⟩ := hh
    refine ⟨K, cs, ⟨PySem.W.Frag.In.keeps S.kin k, S.says, S.len, S.cod, fun cp hcp => ?_, S.kts⟩⟩
    obtain ⟨a, b, c⟩ := S.tab cp hcp
    exact ⟨k _ _ a, b, c.keeps k⟩
theorem obsX_eq {n : Nat} {fa : List He.Fa} {fn : List He.DefD} {gp : List Dp} {kt : List (Str × List Str)} {g : Addr → Option Obj} {s : Shared} (h : ∀ a, g a = s.heap.get? a) : obsX n fa fn gp kt g = (hookX n fa fn gp kt).obs s := by
  have e : g = s.heap.get? := funext h
  rw [e]
  rfl
end Px
/-! Px11: the rules once more, with one context datum, for printed derivations. -/
namespace Px
open PySem PySem.Spec PyProof.Rows L2

abbrev dSub : Op2 := dI (fun _ _ => True) fun i j => .int (i - j)
abbrev dMul : Op2 := dI CMul fun i j => .int (i * j)
abbrev dDiv : Op2 := dI CDiv fun i j => .int (i / j)
abbrev dMod : Op2 := dI (fun _ j => 0 < j) fun i j => .int (i % j)
abbrev dPow : Op2 := dI CPow fun i j => .int (i ^ j.toNat)
abbrev dLt : Op2 := dCmp (fun i j => decide (i < j)) fun i j => decide (i.cps.toList < j.cps.toList)
abbrev dLe : Op2 := dI (fun _ _ => True) fun i j => .bl (decide (i ≤ j))
abbrev dGt : Op2 := dI (fun _ _ => True) fun i j => .bl (decide (j < i))
abbrev dGe : Op2 := dI (fun _ _ => True) fun i j => .bl (decide (j ≤ i))
abbrev dNeg : D → Sto → VKd → Prop := dU fun i => .int (-i)
/-- where a derivation stands -/
structure Ev (X : Cx) (T : List Addr) (SC : Scope) (fn : Str → Bool) (N : List Str) (vs ls : List Nat) (gs bns : List Str) (k : Nat) : Prop where
  e : Sc X SC fn N vs ls gs
  b : ∀ y ∈ bns, X.mg y = none
  r : Room k X.A
  n : X.xe = (fun _ _ => False)
section
variable {X : Cx} {T : List Addr} {SC : Scope} {fn : Str → Bool} {N : List Str} {vs ls : List Nat} {gs bns : List Str} {k : Nat} {a b c : Expr} {pos p p2 q : Pos}
theorem Ev.passes (E : Ev X T SC fn N vs ls gs bns k) : PassesOwn (model X.prog X.w) X.A X.env X.xe := by
  rw [E.n]
  exact PassesOwn.never
theorem Ev.blk {scope : Scope} (vs' ls' : List Nat) (gs' : List Str) (E : Ev X T SC fn N vs ls gs bns k) (s : Shared) (H : Hp) (C : Addr) (cl : List (Str × Addr)) (fp : List Addr) (h : scChk (relS scope SC) (fun x => scope.names.lookup x == some .cell) N vs' ls' gs' = true) :
    Ev (X.blk s H scope (compEnvC scope cl C X.env) fp) T (relS scope SC) (fun x => scope.names.lookup x == some .cell) N vs' ls' gs' bns k := ⟨E.e.blk h s H C cl fp, E.b, E.r, rfl⟩
theorem Ev.gen {scope : Scope} (vs' ls' : List Nat) (gs' : List Str) (E : Ev X T SC fn N vs ls gs bns (k + 1)) (s : Shared) (H : Hp) (code : Value) (fp : List Addr) (h : scChk scope (fun _ => false) N vs' ls' gs' = true) :
    Ev (gnx X s H (genE X scope s code) fp) T scope (fun _ => false) N vs' ls' gs' bns k := ⟨E.e.gen h s H code fp, E.b, room_gen E.r, rfl⟩
theorem e_v (E : Ev X T SC fn N vs ls gs bns k) (i : Nat) {x : Str} (hx : N[i]? = some x := by rfl) (hi : i ∈ vs := by decide) : RE X T (.Name x p) (wVar i) := r_v E.e i hx hi
theorem e_b (E : Ev X T SC fn N vs ls gs bns k) {id : String} {x : Str} {e : Expr} {es : List Expr} {f : Fn} {wa : WA} (hc : CbD X T (.builtin id) f) (ha : RA X T (e :: es) wa) (hx : x ∈ gs := by decide) (hb : x ∈ bns := by decide) (hv : bootBuiltins x = some (.builtin id) := by decide +kernel)
    (he : starEach (e :: es) X.env = (false, eval e X.env) :: starEach es X.env := by rfl) (hpl : (backTo pos (starEach es X.env)).any (·.1) = false := by rfl) : RE X T (.Call (.Name x p) (e :: es) [] pos) (wCb f wa) :=
  let g := E.e.gl hx
  r_cb hc g.1 (E.b x hb) hv ha g.2.2 g.2.1 he hpl
theorem e_ct (E : Ev X T SC fn N vs ls gs bns k) {id : String} {x : Str} {e : Expr} {es : List Expr} {f : Fn} {wa : WA} (hc : CbD X T (.type id) f) (ha : RA X T (e :: es) wa) (hx : x ∈ gs := by decide) (hb : x ∈ bns := by decide) (hv : bootBuiltins x = some (.type id) := by decide +kernel)
    (he : starEach (e :: es) X.env = (false, eval e X.env) :: starEach es X.env := by rfl) (hpl : (backTo pos (starEach es X.env)).any (·.1) = false := by rfl) : RE X T (.Call (.Name x p) (e :: es) [] pos) (wCb f wa) :=
  let g := E.e.gl hx
  r_ct hc g.1 (E.b x hb) hv ha g.2.2 g.2.1 he hpl
theorem e_ty (E : Ev X T SC fn N vs ls gs bns k) (n : String) {x : Str} (hx : x ∈ gs := by decide) (hb : x ∈ bns := by decide) (hv : bootBuiltins x = some (.type n) := by decide +kernel) : RE X T (.Name x p) (wC (.ty n)) :=
  let g := E.e.gl hx
  r_ty g.1 (E.b x hb) hv g.2.2 g.2.1
theorem e_call (E : Ev X T SC fn N vs ls gs bns k) {j : Nat} {x : Str} {sp : Spec} {e : Expr} {es : List Expr} {wa : WA} (cal : Cal X.prog X.w X.K X.mg X.base T j x sp) (ha : RA X T (e :: es) wa) (hk : j ≤ k := by decide) (hx : x ∈ gs := by decide)
    (he : starEach (e :: es) X.env = (false, eval e X.env) :: starEach es X.env := by rfl) (hpl : (backTo pos (starEach es X.env)).any (·.1) = false := by rfl) : RE X T (.Call (.Name x p) (e :: es) [] pos) (wCall sp wa) := r_call cal E.r hk E.e ha hx he hpl
theorem e_ga (al : Bool) (E : Ev X T SC fn N vs ls gs bns (k + 1)) {nm : Str} {cc Pt : Addr} (cd : Cd X T cc Pt) {elt tg iter : Expr} {ifs : List Expr} {scope : Scope} {gpos : Pos} (own : List (Str × Nat)) (vs' ls' : List Nat) (gs' : List Str) {i : WI} {g : WG} {t : WT} {e : WE}
    (hi : RI X T tg iter i) (hg : ∀ (s : Shared) (H : Hp) (code : Value) (fp : List Addr), Ev (gnx X s H (genE X scope s code) fp) T scope (fun _ => false) N vs' ls' gs' bns k → RGv (gnx X s H (genE X scope s code) fp) T (own.map (·.2)) tg g)
    (ht : ∀ (s : Shared) (H : Hp) (code : Value) (fp : List Addr), Ev (gnx X s H (genE X scope s code) fp) T scope (fun _ => false) N vs' ls' gs' bns k → RTs (gnx X s H (genE X scope s code) fp) T ifs t)
    (he : ∀ (s : Shared) (H : Hp) (code : Value) (fp : List Addr), Ev (gnx X s H (genE X scope s code) fp) T scope (fun _ => false) N vs' ls' gs' bns k → RE (gnx X s H (genE X scope s code) fp) T elt e)
    (ok : genC N SC scope own = true := by decide +kernel) (chk : scChk scope (fun _ => false) N vs' ls' gs' = true := by decide +kernel) (hnm : nm = (if al then "all" else "any") := by rfl) (hx : nm ∈ gs := by decide) (hb : nm ∈ bns := by decide) (hs : ∀ v, genFold iter X.env v = pure v := by intro _; rfl)
    (hse : starEach [.GeneratorExp elt [⟨tg, iter, ifs, 0⟩] scope gpos] X.env = (false, eval (.GeneratorExp elt [⟨tg, iter, ifs, 0⟩] scope gpos) X.env) :: starEach [] X.env := by rfl) :
    RE X T (.Call (.Name nm p) [.GeneratorExp elt [⟨tg, iter, ifs, 0⟩] scope gpos] [] pos) (wGA al i g t e (own.map (·.2))) :=
  r_ga al E.e E.r cd own (E.b nm hb) hi ok (fun s H code fp => hg s H code fp (E.gen vs' ls' gs' s H code fp chk)) (fun s H code fp => ht s H code fp (E.gen vs' ls' gs' s H code fp chk)) (fun s H code fp => he s H code fp (E.gen vs' ls' gs' s H code fp chk)) hnm hx hs hse
theorem e_ls (E : Ev X T SC fn N vs ls gs bns k) {wa : WE} (ha : RE X T a wa) (g1 : ("len" : Str) ∈ gs := by decide) (g2 : ("set" : Str) ∈ gs := by decide) (h1 : ("len" : Str) ∈ bns := by decide) (h2 : ("set" : Str) ∈ bns := by decide) (na : starEach [a] X.env = (false, eval a X.env) :: starEach [] X.env := by rfl) :
    RE X T (.Call (.Name "len" p) [.Call (.Name "set" p2) [a] [] q] [] pos) (wLS wa) := r_ls E.e E.r (E.b _ h1) (E.b _ h2) ha g1 g2 na
theorem e_ss (E : Ev X T SC fn N vs ls gs bns k) {wa : WE} (ha : RE X T a wa) (g1 : ("sorted" : Str) ∈ gs := by decide) (g2 : ("set" : Str) ∈ gs := by decide) (h1 : ("sorted" : Str) ∈ bns := by decide) (h2 : ("set" : Str) ∈ bns := by decide) (na : starEach [a] X.env = (false, eval a X.env) :: starEach [] X.env := by rfl) :
    RE X T (.Call (.Name "sorted" p) [.Call (.Name "set" p2) [a] [] q] [] pos) (wSS wa) := r_ss E.e E.r (E.b _ h1) (E.b _ h2) ha g1 g2 na
theorem e_tr2 (E : Ev X T SC fn N vs ls gs bns k) {wa wb : WE} {pr : Pos} (ha : RE X T a wa) (hb : RE X T b wb) (g1 : ("tuple" : Str) ∈ gs := by decide) (g2 : ("range" : Str) ∈ gs := by decide) (h1 : ("tuple" : Str) ∈ bns := by decide) (h2 : ("range" : Str) ∈ bns := by decide)
    (na : starEach [a, b] X.env = (false, eval a X.env) :: starEach [b] X.env := by rfl) (nb : starEach [b] X.env = (false, eval b X.env) :: starEach [] X.env := by rfl)
    (nr : starEach [.Call (.Name "range" p2) [a, b] [] pr] X.env = (false, eval (.Call (.Name "range" p2) [a, b] [] pr) X.env) :: starEach [] X.env := by rfl) (hp : (backTo pr (starEach [b] X.env)).any (·.1) = false := by rfl) :
    RE X T (.Call (.Name "tuple" p) [.Call (.Name "range" p2) [a, b] [] pr] [] pos) (wTR2 wa wb) := r_tr2 E.e (E.b _ h1) (E.b _ h2) ha hb g1 g2 na nb nr hp
theorem e_kts (E : Ev X T SC fn N vs ls gs bns k) {x : Str} {ad : Addr} {xs : List Str} (hk : X.mg x = some (.ref ad) ∧ KTs X.K ad xs) (hx : x ∈ gs := by decide) : RE X T (.Name x p) (wC (.tup (xs.map D.str))) := r_kts E.e hk.1 hk.2 hx
theorem e_tidx (E : Ev X T SC fn N vs ls gs bns k) {x : Str} {ad : Addr} {xs : List Str} {e : Expr} {we : WE} {apos cpos : Pos} (hk : X.mg x = some (.ref ad) ∧ KTs X.K ad xs) (he : RE X T e we) (hx : x ∈ gs := by decide)
    (hbase : attributeBase (.Name x p) "index" X.env (eval (.Name x p) X.env) = eval (.Name x p) X.env := by rfl)
    (hfew : ((backTo cpos (starEach [e] X.env)).all (fun x => !x.1) && (backToKw cpos (keywordEach [] X.env)).all (fun x => x.1.isSome)
      && decide (([e] : List Expr).length + ([] : List Keyword).length + (if ([] : List Keyword).isEmpty then 0 else 1) < 30)) = true := by rfl)
    (hline : (apos.endLine == cpos.line) = true := by rfl) (hs : starEach [e] X.env = (false, eval e X.env) :: starEach [] X.env := by rfl) (hplain : (backTo cpos (starEach [] X.env)).any (·.1) = false := by rfl) :
    RE X T (.Call (.Attribute (.Name x p) "index" apos) [e] [] cpos) (wTidx xs we) := r_tidx E.e hk.1 hk.2 he hx hbase hfew hline hs hplain
theorem e_dg (E : Ev X T SC fn N vs ls gs bns k) {o i : Expr} {wa wb : WE} (ha : RE X T o wa) (hb : RE X T i wb) (hs : NoSl i := by intro _ _; rfl) : RE X T (.Subscript o i pos) (wOp dDg wa wb) := r_dg E.r ha hb hs
theorem e_lc (E : Ev X T SC fn N vs ls gs bns k) {elt tg iter : Expr} {ifs : List Expr} {scope : Scope} (own : List (Str × Nat)) (vs' ls' : List Nat) (gs' : List Str) {i : WI} {g : WG} {t : WT} {e : WE} (hi : RI X T tg iter i)
    (hg : ∀ (s : Shared) (H : Hp) (C : Addr) (cl : List (Str × Addr)) (fp : List Addr), Ev (X.blk s H scope (compEnvC scope cl C X.env) fp) T (relS scope SC) (fun x => scope.names.lookup x == some .cell) N vs' ls' gs' bns k → RGv (X.blk s H scope (compEnvC scope cl C X.env) fp) T (own.map (·.2)) tg g)
    (ht : ∀ (s : Shared) (H : Hp) (C : Addr) (cl : List (Str × Addr)) (fp : List Addr), Ev (X.blk s H scope (compEnvC scope cl C X.env) fp) T (relS scope SC) (fun x => scope.names.lookup x == some .cell) N vs' ls' gs' bns k → RTs (X.blk s H scope (compEnvC scope cl C X.env) fp) T ifs t)
    (he : ∀ (s : Shared) (H : Hp) (C : Addr) (cl : List (Str × Addr)) (fp : List Addr), Ev (X.blk s H scope (compEnvC scope cl C X.env) fp) T (relS scope SC) (fun x => scope.names.lookup x == some .cell) N vs' ls' gs' bns k → RE (X.blk s H scope (compEnvC scope cl C X.env) fp) T elt e)
    (ok : blkC N SC scope own = true := by decide +kernel) (chk : scChk (relS scope SC) (fun x => scope.names.lookup x == some .cell) N vs' ls' gs' = true := by decide +kernel) (hs : ∀ x, foldedSetIterable iter X.env x = pure x := by intro _; rfl) :
    RE X T (.ListComp elt [⟨tg, iter, ifs, 0⟩] scope pos) (wLc i g t e (own.map (·.2))) := r_lc E.e own hi ok (fun s H C cl fp => hg s H C cl fp (E.blk vs' ls' gs' s H C cl fp chk)) (fun s H C cl fp => ht s H C cl fp (E.blk vs' ls' gs' s H C cl fp chk)) (fun s H C cl fp => he s H C cl fp (E.blk vs' ls' gs' s H C cl fp chk)) hs
theorem u_lc (E : Ev X T SC fn N vs ls gs bns k) (j : Nat) {y : Str} {py spos : Pos} {elt tg iter : Expr} {ifs : List Expr} {scope : Scope} (own : List (Str × Nat)) (vs' ls' : List Nat) (gs' : List Str) {i : WI} {g : WG} {t : WT} {e : WE} (hi : RI X T tg iter i)
    (hg : ∀ (s : Shared) (H : Hp) (C : Addr) (cl : List (Str × Addr)) (fp : List Addr), Ev (X.blk s H scope (compEnvC scope cl C X.env) fp) T (relS scope SC) (fun x => scope.names.lookup x == some .cell) N vs' ls' gs' bns k → RGv (X.blk s H scope (compEnvC scope cl C X.env) fp) T (own.map (·.2)) tg g)
    (ht : ∀ (s : Shared) (H : Hp) (C : Addr) (cl : List (Str × Addr)) (fp : List Addr), Ev (X.blk s H scope (compEnvC scope cl C X.env) fp) T (relS scope SC) (fun x => scope.names.lookup x == some .cell) N vs' ls' gs' bns k → RTs (X.blk s H scope (compEnvC scope cl C X.env) fp) T ifs t)
    (he : ∀ (s : Shared) (H : Hp) (C : Addr) (cl : List (Str × Addr)) (fp : List Addr), Ev (X.blk s H scope (compEnvC scope cl C X.env) fp) T (relS scope SC) (fun x => scope.names.lookup x == some .cell) N vs' ls' gs' bns k → RE (X.blk s H scope (compEnvC scope cl C X.env) fp) T elt e)
    (ok : blkC N SC scope own = true := by decide +kernel) (chk : scChk (relS scope SC) (fun x => scope.names.lookup x == some .cell) N vs' ls' gs' = true := by decide +kernel) (hs : ∀ x, foldedSetIterable iter X.env x = pure x := by intro _; rfl)
    (hy : N[j]? = some y := by rfl) (hyl : SC.names.lookup y = some .local := by decide +kernel) (hk : SC.kind = .function := by rfl) (hl : (py.line == pos.line) = true := by rfl)
    (ha : (scope.names.any fun (n, k) => n == y && (k == .local || k == .cell)) = false := by decide +kernel) :
    RS X T (.Assign [.Name y py] (.ListComp elt [⟨tg, iter, ifs, 0⟩] scope pos) spos) (wAsg (wLc i g t e (own.map (·.2))) (gN j)) :=
  q_lc E.e j own hy hyl (sw_lc E.e hk hyl hl ha) hi ok (fun s H C cl fp => hg s H C cl fp (E.blk vs' ls' gs' s H C cl fp chk)) (fun s H C cl fp => ht s H C cl fp (E.blk vs' ls' gs' s H C cl fp chk)) (fun s H C cl fp => he s H C cl fp (E.blk vs' ls' gs' s H C cl fp chk)) hs
theorem u_set (E : Ev X T SC fn N vs ls gs bns k) (i : Nat) {x : Str} {e : Expr} {w : WE} {pos' : Pos} (he : RE X T e w) (hx : N[i]? = some x := by rfl) (hi : i ∈ ls := by decide) (hs : swapsWith e (some (.Name x pos')) pos.line X.env = pure false := by rfl) : RS X T (.Assign [.Name x pos'] e pos) (wAsg w (gN i)) := q_set E.e i he hx hi hs
theorem u_aug (E : Ev X T SC fn N vs ls gs bns k) (i : Nat) {x : Str} {e : Expr} {w : WE} {op : Operator} {f : Op2} {pos' : Pos} (ho : OpD X T (inplaceOp op) f) (he : RE X T e w) (hx : N[i]? = some x := by rfl) (hi : i ∈ ls := by decide) : RS X T (.AugAssign (.Name x pos') op e pos) (wAug i w f) := q_aug E.e i ho he hx hi
theorem u_dp (E : Ev X T SC fn N vs ls gs bns k) {o i e : Expr} {wo wi wv : WE} {pos' : Pos} (ho : RE X T o wo) (hi : RE X T i wi) (hv : RE X T e wv) (hs : swapsWith e (some (.Subscript o i pos')) pos.line X.env = pure false := by rfl) : RS X T (.Assign [.Subscript o i pos'] e pos) (wDp wo wi wv) := q_dp E.r ho hi hv hs
theorem u_for (E : Ev X T SC fn N vs ls gs bns k) {tg iter : Expr} {body : List Stmt} {i : WI} {g : WG} {b : WS} (hi : RI X T tg iter i) (hg : RG X T tg g) (hb : RSs X T body b)
    (hs : ∀ x, foldedSetIterable iter X.env x = pure x := by intro _; rfl) : RS X T (.For tg iter body [] pos) (wFor i g b) := q_for E.e E.passes hi hg hb hs
theorem u_while (E : Ev X T SC fn N vs ls gs bns k) {c : Expr} {body : List Stmt} {t : WT} {b : WS} (hc : RT X T c t) (hb : RSs X T body b) : RS X T (.While c body [] pos) (wWhile t b) := q_while E.passes hc hb
theorem h_n (E : Ev X T SC fn N vs ls gs bns k) (i : Nat) {x : Str} (hx : N[i]? = some x := by rfl) (hi : i ∈ ls := by decide) : RG X T (.Name x p) (gN i) := g_n E.e i hx hi
theorem hv_n (E : Ev X T SC fn N vs ls gs bns k) (i : Nat) {us : List Nat} {x : Str} (hx : N[i]? = some x := by rfl) (hi : i ∈ ls := by decide) (hu : i ∈ us := by decide) : RGv X T us (.Name x p) (gN i) := gv_n E.e i hx hi hu
theorem h_t (E : Ev X T SC fn N vs ls gs bns k) {es : List Expr} {k2 : Nat} {r : WGs} {n : Nat} (h : RGs X T es r) (ok : GsOk r n) (hn : (assignEach es X.env).length = n := by rfl) (hst : (assignEach es X.env).findIdx? (·.1) = none := by rfl) : RG X T (.Tuple es k2 pos) (gT r) := g_t E.e h ok hn hst
theorem hv_t (E : Ev X T SC fn N vs ls gs bns k) {us : List Nat} {es : List Expr} {k2 : Nat} {r : WGs} {n : Nat} (h : RGsv X T us es r) (ok : GsOk r n) (hn : (assignEach es X.env).length = n := by rfl) (hst : (assignEach es X.env).findIdx? (·.1) = none := by rfl) : RGv X T us (.Tuple es k2 pos) (gT r) := gv_t E.e h ok hn hst
theorem j_r1 (E : Ev X T SC fn N vs ls gs bns k) {tg e : Expr} {wa : WE} (h : RE X T e wa) (hx : ("range" : Str) ∈ gs := by decide) (hb : ("range" : Str) ∈ bns := by decide) (hs : starEach [e] X.env = [(false, eval e X.env)] := by rfl) : RI X T tg (.Call (.Name "range" p) [e] [] pos) (wR1 wa) := i_r1 (E.e.gl hx).1 (E.b _ hb) h hs
theorem j_r2 (E : Ev X T SC fn N vs ls gs bns k) {tg e f : Expr} {wa wb : WE} (h : RE X T e wa) (h2 : RE X T f wb) (hx : ("range" : Str) ∈ gs := by decide) (hb : ("range" : Str) ∈ bns := by decide) (hs : starEach [e, f] X.env = [(false, eval e X.env), (false, eval f X.env)] := by rfl) (hs2 : starEach [f] X.env = [(false, eval f X.env)] := by rfl) :
    RI X T tg (.Call (.Name "range" p) [e, f] [] pos) (wR2 wa wb) := i_r2 (E.e.gl hx).1 (E.b _ hb) h h2 hs hs2
theorem j_r3 (E : Ev X T SC fn N vs ls gs bns k) {tg e f g : Expr} {wa wb wc : WE} (h : RE X T e wa) (h2 : RE X T f wb) (h3 : RE X T g wc) (hx : ("range" : Str) ∈ gs := by decide) (hb : ("range" : Str) ∈ bns := by decide)
    (hs1 : starEach [e, f, g] X.env = (false, eval e X.env) :: starEach [f, g] X.env := by rfl) (hs2 : starEach [f, g] X.env = (false, eval f X.env) :: starEach [g] X.env := by rfl) (hs3 : starEach [g] X.env = (false, eval g X.env) :: starEach [] X.env := by rfl)
    (hpl : (backTo pos (starEach [f, g] X.env)).any (·.1) = false := by rfl) : RI X T tg (.Call (.Name "range" p) [e, f, g] [] pos) (wR3 wa wb wc) := i_r3 (E.e.gl hx).1 (E.b _ hb) h h2 h3 hs1 hs2 hs3 hs1 hpl
end
/-- a def keeps its spec: what the derivation and the pure part give -/
theorem fn_done {P : Program} {w : World} {K : PySem.W.Frag} {mg : Str → Option Value} {base : Heap} {T : List Addr} {x : Str} {f : Addr} {fd : FuncData} {ps : List Str} {k : Nat} {sp : Spec} {qual : Str} {params : Arguments} {body : List Stmt} {scope : Scope}
    (F : FunD K x qual params body scope [] [] f fd) (ok : FnOk P w K mg base (L2.CX P w) k f fd ps (lSp ⟨K, T⟩ ps.length sp)) (hm : mg x = some (.ref f)) (hb : Binds K fd ps []) (hl : ∀ ds S Q E, sp ds S Q E → ds.length = ps.length) : Cal P w K mg base T k x sp :=
  ⟨f, fd, ps, ok, hm, F.kp, hb, hl⟩
end Px
/-! Px12: the law's end. -/
namespace Px
open PySem PySem.Spec PyProof.Rows L2

theorem fact_mem {fa : List He.Fa} {fn : List He.DefD} {K : PySem.W.Frag} (c : He.SaysD fa fn K) {f : He.Fa} (h : f ∈ fa) : f.ok K = true := by
  obtain ⟨i, hi⟩ := List.mem_iff_getElem?.mp h
  exact c.fact i hi
theorem code_of {K : PySem.W.Frag} {x qual : Str} {params : Arguments} {body : List Stmt} {scope : Scope} {dvs : List V} {kws : List (Str × V)} {p : Dp} {fd : FuncData} {c : Addr} (F : FunD K x qual params body scope dvs kws (He.fAd K p) fd) (h : codeIs K p c = true) : fd.code = .ref c := by
  obtain ⟨oc, od, dV, kV, doc, pm, an, cdv, ct, osl, e, lk, _⟩ := F.ex
  unfold codeIs at h
  rw [lk] at h
  dsimp only at h
  split at h
  · rename_i c' e2
    rw [e2, beq_iff_eq.mp h]
  · cases h
theorem tabB_of {base : Heap} {mg : Str → Option Value} {c P : Addr} (h : LamX.TabB base mg c P) : GxR.TabB base mg c P := ⟨h.code, h.bm, h.gP⟩
/-- what a law's entry gives -/
def Scr (S : Sto) (d : D) (ns : List Int) : Prop := (d = .sll (ns.map D.int)) ∨ ∃ n, d = .obj n ∧ S[n]? = some (.lst (ns.map D.int))
theorem law_sp {K : PySem.W.Frag} {cs : List (Addr × Addr)} {H : Hp} {a : Addr} {ns : List Int} {sp : Spec} (hT : ∀ p ∈ cs, H p.2 = some (.tbl #[])) (hs : SqL K H a (ns.map V.int)) (h : ∀ d S Q E, Scr S d ns → (∀ S', Q (.bl true) S') → sp [d] S Q E) :
    lSp ⟨K, cs.map (·.2)⟩ 1 sp [.ref a] H (fun v _ => v = .bl true) fun _ _ _ => False := by
  have tab : ∀ P ∈ cs.map (·.2), GxR.TabG H P := fun P hP => by
    obtain ⟨p, hp, rfl⟩ := List.mem_map.mp hP
    exact ⟨#[], hT p hp, trivial⟩
  have fin : ∀ ρ, Cont ⟨K, cs.map (·.2)⟩ H ρ (fun d _ => d = .bl true) (fun v _ => v = .bl true) := fun ρ H' ρ' S' d v _ _ _ r q => by
    rw [q] at r
    exact r
  have finX : ∀ ρ, ContX ⟨K, cs.map (·.2)⟩ H ρ noX (fun _ _ _ => False) := fun ρ _ _ _ _ _ _ _ _ _ _ z => z.elim
  have slk : SlK K H a (ns.map V.int) → lSp ⟨K, cs.map (·.2)⟩ 1 sp [.ref a] H (fun v _ => v = .bl true) fun _ _ _ => False := fun hk =>
    ⟨[], [], [.sll (ns.map D.int)], fun d _ => d = .bl true, noX, ⟨rfl, List.nodup_nil, fun n o e => by simp at e, tab⟩, .cons ⟨a, _, rfl, hk, rel_ints ns⟩ .nil, rfl, h _ _ _ _ (.inl rfl) fun _ => rfl, fin _, finX _⟩
  rcases hs with (hs | ⟨o, hs⟩) | hs
  · refine ⟨[a], [.lst (ns.map D.int)], [.obj 0], fun d _ => d = .bl true, noX, ⟨rfl, by simp, fun n o e => ?_, tab⟩, .cons (rel_obj rfl) .nil, rfl, h _ _ _ _ (.inr ⟨0, rfl, rfl⟩) fun _ => rfl, fin _, finX _⟩
    match n, e with
    | 0, e =>
      cases e
      exact ⟨a, rfl, _, hs, rel_ints ns⟩
    | n + 1, e => simp at e
  · exact slk (.inl ⟨o, hs⟩)
  · exact slk (.inr hs)
end Px
/-! Py0: ways of the pure parts: loops by invariants, the store's frame, kinds, ==. -/
namespace Px
open PySem PySem.Spec PyProof.Rows L2

theorem rq {n : Nat} {Q : VKd} {d : D} {S : Sto} (h : Q d S) : RetQ n Q d S := ⟨d, S, Shr.refl _ _ _, h⟩

/-! ### loops -/
theorem forL_inv {chk : Sto → Prop} {g : WG} {b : WS} {E : WEnds} {xs : List D} (Inv : Nat → Sl → Sto → Prop) (hc : ∀ i σ S, i ≤ xs.length → Inv i σ S → chk S)
    (step : ∀ (i : Nat) (x : D) (σ : Sl) (S : Sto) (N : Sl → Sto → Prop), xs[i]? = some x → (∀ σ' S', Inv (i + 1) σ' S' → N σ' S') → Inv i σ S → g x σ S fun σ1 S1 => b { E with nx := N, ct := N, bk := E.nx } σ1 S1)
    (fin : ∀ σ S, Inv xs.length σ S → E.nx σ S) {σ : Sl} {S : Sto} (h0 : Inv 0 σ S) : forL chk g b E xs σ S := by
  have go : ∀ (k i : Nat) (σ : Sl) (S : Sto), xs.length - i = k → i ≤ xs.length → Inv i σ S → forL chk g b E (xs.drop i) σ S := by
    intro k
    induction k with
    | zero =>
      intro i σ S hk hi h
      have e : i = xs.length := by omega
      subst e
      rw [List.drop_length]
      exact ⟨hc _ _ _ hi h, fin _ _ h⟩
    | succ k ih =>
      intro i σ S hk hi h
      have hlt : i < xs.length := by omega
      rw [List.drop_eq_getElem_cons hlt]
      exact ⟨hc _ _ _ hi h, step i _ σ S _ (List.getElem?_eq_getElem hlt) (fun σ' S' h' => ih (i + 1) σ' S' (by omega) hlt h') h⟩
  have := go (xs.length - 0) 0 σ S rfl (Nat.zero_le _) h0
  rwa [List.drop_zero] at this
theorem lcL_inv {chk : Sto → Prop} {n : Nat} {g : WG} {t : WT} {e : WE} {vs : List Nat} {σ : Sl} {Q : VKd} {xs : List D} (Inv : Nat → Sto → Prop) (hc : ∀ i S, i ≤ xs.length → Inv i S → chk S)
    (step : ∀ (i : Nat) (x : D) (S : Sto) (N : Sto → Prop), xs[i]? = some x → (∀ S', Inv (i + 1) S' → N S') → Inv i S → g x (wipeD σ vs) S fun σ2 S2 => t σ2 S2 fun b S3 => if b = true then
      e σ2 S3 fun y S4 => match S4[n]? with
        | some (.lst acc) => acc.length < sizeLine ∧ N (S4.set n (.lst (acc ++ [y])))
        | _ => False
      else N S3)
    (fin : ∀ S, Inv xs.length S → Q (.obj n) S) {S : Sto} (h0 : Inv 0 S) : lcL chk n g t e vs σ Q xs S := by
  have go : ∀ (k i : Nat) (S : Sto), xs.length - i = k → i ≤ xs.length → Inv i S → lcL chk n g t e vs σ Q (xs.drop i) S := by
    intro k
    induction k with
    | zero =>
      intro i S hk hi h
      have e : i = xs.length := by omega
      subst e
      rw [List.drop_length]
      exact ⟨hc _ _ hi h, fin _ h⟩
    | succ k ih =>
      intro i S hk hi h
      have hlt : i < xs.length := by omega
      rw [List.drop_eq_getElem_cons hlt]
      exact ⟨hc _ _ hi h, step i _ S _ (List.getElem?_eq_getElem hlt) (fun S' h' => ih (i + 1) S' (by omega) hlt h') h⟩
  have := go (xs.length - 0) 0 S rfl (Nat.zero_le _) h0
  rwa [List.drop_zero] at this
/-- all(..), any(..) whose elements leave the store alone: p the element's value -/
theorem gaL_pure {chk : Sto → Prop} {al : Bool} {g : WG} {e : WE} {vs : List Nat} {σ : Sl} {Q : VKd} {S : Sto} (p : D → Bool) (hc : chk S) : ∀ (xs : List D),
    (∀ x ∈ xs, ∀ N : VKd, N (.bl (p x)) S → g x (wipeD σ vs) S fun σ2 S2 => e σ2 S2 N) → (∀ x σ S (M N : Sl → Sto → Prop), (∀ σ S, M σ S → N σ S) → g x σ S M → g x σ S N) →
    Q (.bl (if al then xs.all p else xs.any p)) S → gaL chk al g wYes e vs σ Q xs S
  | [], _, _, q => ⟨hc, by cases al <;> exact q⟩
  | x :: r, h, hg, q => by
    refine ⟨hc, hg _ _ _ _ _ (fun σ2 S2 z => ?_) (h x List.mem_cons_self (fun y S4 => match y with
      | .bl k => if k = al then gaL chk al g wYes e vs σ Q r S4 else Q (.bl (!al)) S4
      | _ => False) ?_)⟩
    · simp only [wYes, if_true]
      exact z
    · dsimp only
      by_cases hk : p x = al
      · rw [if_pos hk]
        refine gaL_pure p hc r (fun y hy => h y (List.mem_cons_of_mem _ hy)) hg ?_
        cases al
        · simpa [hk] using q
        · simpa [hk] using q
      · rw [if_neg hk]
        cases al
        · have hk : p x = true := by simpa using hk
          simpa [hk] using q
        · have hk : p x = false := by simpa using hk
          simpa [hk] using q
theorem gN_mono {i : Nat} (x : D) (σ : Sl) (S : Sto) (M N : Sl → Sto → Prop) (h : ∀ σ S, M σ S → N σ S) (q : gN i x σ S M) : gN i x σ S N := h _ _ q

/-! ### the store -/
/-- S' is S with more behind it -/
def Ext (S S' : Sto) : Prop := ∀ (n : Nat) (o : O), S[n]? = some o → S'[n]? = some o
theorem Ext.refl (S : Sto) : Ext S S := fun _ _ h => h
theorem Ext.trans {S S1 S2 : Sto} (a : Ext S S1) (b : Ext S1 S2) : Ext S S2 := fun n o h => b n o (a n o h)
theorem Ext.app (S J : Sto) : Ext S (S ++ J) := fun n o h => by
  rw [List.getElem?_append_left (List.getElem?_eq_some_iff.mp h).1]; exact h
theorem getL_lt {S : Sto} {n : Nat} {o : O} (h : S[n]? = some o) : n < S.length := (List.getElem?_eq_some_iff.mp h).1
theorem Ext.set {S S' : Sto} {n : Nat} {o : O} (e : Ext S S') (h : S.length ≤ n) : Ext S (S'.set n o) := fun m u hm => by
  rw [List.getElem?_set_ne (fun z => by have := getL_lt hm; omega)]
  exact e m u hm
theorem Ext.len {S S' : Sto} (e : Ext S S') : S.length ≤ S'.length := by
  by_cases h : S.length = 0
  · omega
  · have h1 : S[S.length - 1]? = some (S[S.length - 1]'(by omega)) := List.getElem?_eq_getElem (by omega)
    have := getL_lt (e _ _ h1)
    omega
theorem get_new (S : Sto) (o : O) : (S ++ [o])[S.length]? = some o := by rw [List.getElem?_append_right (Nat.le_refl _), Nat.sub_self]; rfl
theorem get_set {S : Sto} {n : Nat} {o : O} (h : n < S.length) : (S.set n o)[n]? = some o := List.getElem?_set_self h
theorem set_new (S : Sto) (a b : O) : (S ++ [a]).set S.length b = S ++ [b] := by
  rw [List.set_append_right _ _ (Nat.le_refl _), Nat.sub_self]; rfl
/-- all but the object b is kept -/
structure Frm (b : Nat) (S S' : Sto) : Prop where
  len : S.length ≤ S'.length
  keep : ∀ (n : Nat) (o : O), n ≠ b → S[n]? = some o → S'[n]? = some o
theorem Frm.refl (b : Nat) (S : Sto) : Frm b S S := ⟨Nat.le_refl _, fun _ _ _ h => h⟩
theorem Frm.trans {b : Nat} {S S1 S2 : Sto} (x : Frm b S S1) (y : Frm b S1 S2) : Frm b S S2 := ⟨Nat.le_trans x.len y.len, fun n o hb h => y.keep n o hb (x.keep n o hb h)⟩
theorem Frm.ext {b : Nat} {S S' : Sto} (e : Ext S S') : Frm b S S' := ⟨e.len, fun n o _ h => e n o h⟩
theorem Frm.setb {b : Nat} {S : Sto} {o : O} : Frm b S (S.set b o) := ⟨by rw [List.length_set]; exact Nat.le_refl _, fun n u hn h => by rw [List.getElem?_set_ne (Ne.symm hn)]; exact h⟩
theorem Frm.setn {b n : Nat} {S S' : Sto} {o : O} (f : Frm b S S') (h : S.length ≤ n) : Frm b S (S'.set n o) := ⟨by rw [List.length_set]; exact f.len, fun m u hm e => by
  rw [List.getElem?_set_ne (fun z => by have := getL_lt e; omega)]
  exact f.keep m u hm e⟩

/-! ### kinds -/
theorem kit1 : kitB "int" "int" = some true := by decide +kernel
theorem kit2 : kitB "bool" "int" = some true := by decide +kernel
theorem kit3 : kitB "str" "int" = some false := by decide +kernel
theorem kit4 : kitB "NoneType" "int" = some false := by decide +kernel
theorem kit5 : kitB "tuple" "int" = some false := by decide +kernel
theorem kit6 : kitB "list" "int" = some false := by decide +kernel
theorem kit7 : kitB "dict" "int" = some false := by decide +kernel
theorem kit8 : kitB "int" "bool" = some false := by decide +kernel
theorem kit9 : kitB "bool" "bool" = some true := by decide +kernel
theorem kit10 : kitB "int" "tuple" = some false := by decide +kernel
theorem kit11 : kitB "bool" "tuple" = some false := by decide +kernel
theorem kit12 : kitB "str" "tuple" = some false := by decide +kernel
theorem kit13 : kitB "NoneType" "tuple" = some false := by decide +kernel
theorem kit14 : kitB "tuple" "tuple" = some true := by decide +kernel
theorem kit15 : kitB "list" "tuple" = some false := by decide +kernel
theorem kit16 : kitB "dict" "tuple" = some false := by decide +kernel
/-- the value's kind is known -/
def okTy (S : Sto) (d : D) : Prop := (tyD S d).isSome = true
def isIntD (lo hi : Int) : D → Bool
  | .int i => decide (lo ≤ i) && decide (i ≤ hi)
  | _ => false
def isNumD : D → Bool
  | .int _ => true
  | _ => false
def isTupD : D → Bool
  | .tup _ => true
  | _ => false
def isIntK : D → Bool
  | .int _ => true
  | .bl _ => true
  | _ => false
def isBlD : D → Bool
  | .bl _ => true
  | _ => false
theorem tyD_cases {S : Sto} {d : D} (h : okTy S d) : (d = .non) ∨ (∃ b, d = .bl b) ∨ (∃ i, d = .int i) ∨ (∃ x, d = .str x) ∨ (∃ xs, d = .tup xs) ∨ (∃ n, d = .obj n ∧ (tyD S d = some "list" ∨ tyD S d = some "dict")) := by
  cases d with
  | non => exact .inl rfl
  | bl b => exact .inr (.inl ⟨b, rfl⟩)
  | int i => exact .inr (.inr (.inl ⟨i, rfl⟩))
  | str i => exact .inr (.inr (.inr (.inl ⟨i, rfl⟩)))
  | tup i => exact .inr (.inr (.inr (.inr (.inl ⟨i, rfl⟩))))
  | obj n =>
    refine .inr (.inr (.inr (.inr (.inr ⟨n, rfl, ?_⟩))))
    have e : tyD S (.obj n) = (match S[n]? with
      | some (.lst _) => some "list"
      | some (.dct _) => some "dict"
      | _ => none) := rfl
    unfold okTy at h
    rw [e] at h ⊢
    cases q : S[n]? with
    | none => rw [q] at h; cases h
    | some o =>
      cases o with
      | lst _ => exact .inl rfl
      | dct _ => exact .inr rfl
      | _ => rw [q] at h; cases h
  | _ => cases h
/-- isinstance(x, int) -/
theorem isi_int {S : Sto} {d : D} {Q : VKd} (h : okTy S d) (q : Q (.bl (isIntK d)) S) : fIsi [d, .ty "int"] S Q := by
  rcases tyD_cases h with e | ⟨b, e⟩ | ⟨b, e⟩ | ⟨b, e⟩ | ⟨b, e⟩ | ⟨b, e, z⟩ <;> subst e
  · simp only [fIsi, tyD, kit4]; exact q
  · simp only [fIsi, tyD, kit2]; exact q
  · simp only [fIsi, tyD, kit1]; exact q
  · simp only [fIsi, tyD, kit3]; exact q
  · simp only [fIsi, tyD, kit5]; exact q
  · rcases z with z | z
    · simp only [fIsi, z, kit6]; exact q
    · simp only [fIsi, z, kit7]; exact q
theorem isi_tup {S : Sto} {d : D} {Q : VKd} (h : okTy S d) (q : Q (.bl (isTupD d)) S) : fIsi [d, .ty "tuple"] S Q := by
  rcases tyD_cases h with e | ⟨b, e⟩ | ⟨b, e⟩ | ⟨b, e⟩ | ⟨b, e⟩ | ⟨b, e, z⟩ <;> subst e
  · simp only [fIsi, tyD, kit13]; exact q
  · simp only [fIsi, tyD, kit11]; exact q
  · simp only [fIsi, tyD, kit10]; exact q
  · simp only [fIsi, tyD, kit12]; exact q
  · simp only [fIsi, tyD, kit14]; exact q
  · rcases z with z | z
    · simp only [fIsi, z, kit15]; exact q
    · simp only [fIsi, z, kit16]; exact q
theorem isi_bool {S : Sto} {d : D} {Q : VKd} (h : isIntK d = true) (q : Q (.bl (isBlD d)) S) : fIsi [d, .ty "bool"] S Q := by
  cases d with
  | int i => simp only [fIsi, tyD, kit8]; exact q
  | bl i => simp only [fIsi, tyD, kit9]; exact q
  | _ => cases h

/-! ### == -/
theorem eq_int {i j : Int} {S : Sto} {Q : VKd} (q : Q (.bl (i == j)) S) : dEq false (.int i) (.int j) S Q := q
theorem ne_int {i j : Int} {S : Sto} {Q : VKd} (q : Q (.bl (!(i == j))) S) : dEq true (.int i) (.int j) S Q := q
theorem eq_str {x y : Str} {S : Sto} {Q : VKd} (hx : PyData.strOk x = true) (hy : PyData.strOk y = true) (q : Q (.bl (x == y)) S) : dEq false (.str x) (.str y) S Q := by
  unfold dEq
  simp only [datum, pl, hx, hy, if_true, toPy]
  exact q
theorem ne_str {x y : Str} {S : Sto} {Q : VKd} (hx : PyData.strOk x = true) (hy : PyData.strOk y = true) (q : Q (.bl (!(x == y))) S) : dEq true (.str x) (.str y) S Q := by
  unfold dEq
  simp only [datum, pl, hx, hy, if_true, toPy]
  exact q
theorem ne_str_non {y : Str} {S : Sto} {Q : VKd} (hy : PyData.strOk y = true) (q : Q (.bl true) S) : dEq true .non (.str y) S Q := by
  unfold dEq
  simp only [datum, pl, hy, if_true, toPy]
  exact q
theorem eqv_str' (x y : Str) : eqV (.str y) (.str x) = (y == x) := rfl
theorem in_strs (x : Str) (ys : List Str) : inD (.str x) (ys.map D.str) = decide (x ∈ ys) := by
  unfold inD inV
  induction ys with
  | nil => rfl
  | cons y ys ih =>
    rw [List.map_cons, List.map_cons, List.any_cons, ih]
    show ((y == x) || _) = _
    by_cases h : x = y
    · subst h; simp
    · have h2 : (y == x) = false := by simpa using (Ne.symm h)
      rw [h2]
      simp [h]
theorem flat_strs (ys : List Str) : (ys.map D.str).all flatD = true := by
  rw [List.all_map]
  exact List.all_eq_true.mpr fun _ _ => rfl
/-- x in (texts), x a text -/
theorem in_str {x : Str} {ys : List Str} {S : Sto} {Q : VKd} (q : Q (.bl (decide (x ∈ ys))) S) : dIn false (.str x) (.tup (ys.map D.str)) S Q := by
  refine ⟨rfl, flat_strs ys, ?_⟩
  rw [in_strs]
  exact q
theorem nin_str {x : Str} {ys : List Str} {S : Sto} {Q : VKd} (q : Q (.bl (!decide (x ∈ ys))) S) : dIn true (.str x) (.tup (ys.map D.str)) S Q := by
  refine ⟨rfl, flat_strs ys, ?_⟩
  rw [in_strs]
  exact q
theorem atI_nat {α : Type} {xs : List α} {i : Nat} {x : α} (h : xs[i]? = some x) : atI xs (i : Int) = some x := by
  have hi := (List.getElem?_eq_some_iff.mp h).1
  unfold atI ixN
  rw [if_pos (by omega), if_pos (by omega)]
  simpa using h
theorem len_tup {xs : List D} {S : Sto} {Q : VKd} (q : Q (.int xs.length) S) : fLen [.tup xs] S Q := q
theorem len_obj {n : Nat} {xs : List D} {S : Sto} {Q : VKd} (h : S[n]? = some (.lst xs)) (q : Q (.int xs.length) S) : fLen [.obj n] S Q := by
  simp only [fLen, items, h]
  exact q
theorem tru_bl {S : Sto} {b : Bool} {Q : Bool → Prop} (q : Q b) : dTru S (.bl b) Q := q
theorem ix_tup {xs : List D} {i : Nat} {x : D} {S : Sto} {Q : VKd} (h : xs[i]? = some x) (q : Q x S) : dIx (.tup xs) (.int i) S Q := by
  unfold dIx
  simp only [items, atI_nat h]
  exact q
theorem ix_tupI {xs : List D} {i : Int} {x : D} {S : Sto} {Q : VKd} (h : atI xs i = some x) (q : Q x S) : dIx (.tup xs) (.int i) S Q := by
  unfold dIx
  simp only [items, h]
  exact q
theorem ix_obj {n : Nat} {xs : List D} {i : Int} {x : D} {S : Sto} {Q : VKd} (hn : S[n]? = some (.lst xs)) (h : atI xs i = some x) (q : Q x S) : dIx (.obj n) (.int i) S Q := by
  unfold dIx
  simp only [items, hn, h]
  exact q
theorem atI_int {α : Type} {xs : List α} {i : Int} (h0 : 0 ≤ i) (h1 : i < xs.length) : ∃ x, xs[i.toNat]? = some x ∧ atI xs i = some x := by
  have hi : i.toNat < xs.length := by omega
  refine ⟨xs[i.toNat], List.getElem?_eq_getElem hi, ?_⟩
  have e : i = (i.toNat : Int) := by omega
  have := atI_nat (xs := xs) (List.getElem?_eq_getElem hi)
  rwa [← e] at this
end Px
/-! k16, the pure parts: what the defs answer. -/
namespace Px
open PySem PySem.Spec PyProof.Rows L2
def bns : List Str := ["all", "bool", "int", "isinstance", "len", "min", "range", "set", "sorted", "tuple"]
def t_UNITS : List Str := ["day", "week", "month", "year"]
def t_NAMES : List Str := ["months", "days", "year days", "weekdays", "month weekdays", "year weekdays", "weeks"]
/-! ### is_integer, is_number -/
def sp_is_integer : Spec := fun ds S Q _ => ∃ d lo hi, ds = [d, .int lo, .int hi] ∧ okTy S d ∧ Q (.bl (isIntD lo hi d)) S
def sp_is_number : Spec := fun ds S Q _ => ∃ d, ds = [d] ∧ okTy S d ∧ Q (.bl (isNumD d)) S
def N_is_integer : List Str := ["value", "low", "high"]
def w_is_integer : WS :=
  (wRet (wAndV (wCb fIsi (wCons (wVar 0) (wCons (wC (.ty "int")) wNil))) (wAndV (wNotV (wCb fIsi (wCons (wVar 0) (wCons (wC (.ty "bool")) wNil)))) (wChain dLe dLe (wVar 1) (wVar 0) (wVar 2)))))
def N_is_number : List Str := ["value"]
def w_is_number : WS :=
  (wRet (wAndV (wCb fIsi (wCons (wVar 0) (wCons (wC (.ty "int")) wNil))) (wNotV (wCb fIsi (wCons (wVar 0) (wCons (wC (.ty "bool")) wNil))))))
theorem p_is_integer (ds : List D) (S : Sto) (Q : VKd) (E : XKd) (_ : wfS S) (_ : blws S.length ds = true) (h : sp_is_integer ds S Q E) : w_is_integer (bodyE S.length Q) (startD N_is_integer ds) S := by
  obtain ⟨d, lo, hi, rfl, hk, q⟩ := h
  show w_is_integer (bodyE S.length Q) [some d, some (.int lo), some (.int hi)] S
  unfold w_is_integer
  try dsimp only [wSeq, wIfS, wRet, wRetN, wDrop, wAsg, wPass, wBreak, wCont, wNot, wAnd, wOr, wTru, wB, wAndV, wOrV, wNotV, wIf, wOp, wUn, wC, wVar, wNil, wCons, wTup, wLst, wCall, wCb, wChain, wO0, wO1, wApp, wTidx, wTR2, wLS, wSS, wIt, wItT, wR1, wR2, wR3, wLc, wGA, wFor, wAug, wDp, gN, gT, gsC, gs0, gIx, dNeg, dU, startD, List.getElem?_cons_zero, List.getElem?_cons_succ, List.set_cons_zero, List.set_cons_succ, keyD, wSl, wYes, dSub, dMul, dDiv, dMod, dPow, dLe, dGt, dGe, dI, dAdd, dLt, dCmp, reduceIte, Bool.false_eq_true]
  refine isi_int hk ?_
  cases hK : isIntK d with
  | false =>
    have e : isIntD lo hi d = false := by cases d <;> first | rfl | cases hK
    rw [e] at q
    exact rq q
  | true =>
    refine isi_bool hK ?_
    cases d with
    | int i =>
      refine ⟨trivial, ?_⟩
      by_cases h1 : lo ≤ i
      · rw [decide_eq_true h1]
        have e : isIntD lo hi (.int i) = decide (i ≤ hi) := by simp [isIntD, h1]
        rw [e] at q
        exact ⟨trivial, rq q⟩
      · rw [decide_eq_false h1]
        have e : isIntD lo hi (.int i) = false := by simp [isIntD, h1]
        rw [e] at q
        exact rq q
    | bl b => exact rq q
    | _ => cases hK
theorem p_is_number (ds : List D) (S : Sto) (Q : VKd) (E : XKd) (_ : wfS S) (_ : blws S.length ds = true) (h : sp_is_number ds S Q E) : w_is_number (bodyE S.length Q) (startD N_is_number ds) S := by
  obtain ⟨d, rfl, hk, q⟩ := h
  show w_is_number (bodyE S.length Q) [some d] S
  unfold w_is_number
  try dsimp only [wSeq, wIfS, wRet, wRetN, wDrop, wAsg, wPass, wBreak, wCont, wNot, wAnd, wOr, wTru, wB, wAndV, wOrV, wNotV, wIf, wOp, wUn, wC, wVar, wNil, wCons, wTup, wLst, wCall, wCb, wChain, wO0, wO1, wApp, wTidx, wTR2, wLS, wSS, wIt, wItT, wR1, wR2, wR3, wLc, wGA, wFor, wAug, wDp, gN, gT, gsC, gs0, gIx, dNeg, dU, startD, List.getElem?_cons_zero, List.getElem?_cons_succ, List.set_cons_zero, List.set_cons_succ, keyD, wSl, wYes, dSub, dMul, dDiv, dMod, dPow, dLe, dGt, dGe, dI, dAdd, dLt, dCmp, reduceIte, Bool.false_eq_true]
  refine isi_int hk ?_
  cases hK : isIntK d with
  | false =>
    have e : isNumD d = false := by cases d <;> first | rfl | cases hK
    rw [e] at q
    exact rq q
  | true =>
    refine isi_bool hK ?_
    cases d with
    | int i => exact rq q
    | bl b => exact rq q
    | _ => cases hK

/-! ### fine_member -/
def wkN : List Str := ["month weekdays", "year weekdays"]
def ne0D : D → Bool
  | .int j => !(j == 0)
  | _ => false
def pairM : D → Bool
  | .tup [a, b] => isIntD 0 13 a && (isIntD (-400) 400 b && ne0D b)
  | _ => false
/-- may the value be a member of a list with the name z? -/
def fineM (z : Str) (d : D) : Bool :=
  if z = ("weekdays" : Str) then isIntD 0 13 d else if z ∈ wkN then pairM d else isIntD (-2000) 2000 d && ne0D d
/-- its kind and its items' kinds are known -/
def okM (S : Sto) (d : D) : Prop := okTy S d ∧ match d with
  | .tup xs => ∀ x ∈ xs, okTy S x
  | _ => True
def sp_fine_member : Spec := fun ds S Q _ => ∃ z d, ds = [.str z, d] ∧ PyData.strOk z = true ∧ okM S d ∧ Q (.bl (fineM z d)) S
def N_fine_member : List Str := ["name", "member"]
def w_fine_member_b1 : WS :=
  (wRet (wAndV (wCall sp_is_integer (wCons (wOp dIx (wVar 1) (wC (.int 0))) (wCons (wC (.int 0)) (wCons (wC (.int 13)) wNil)))) (wAndV (wCall sp_is_integer (wCons (wOp dIx (wVar 1) (wC (.int 1))) (wCons (wUn dNeg (wC (.int 400))) (wCons (wC (.int 400)) wNil)))) (wOp (dEq true) (wOp dIx (wVar 1) (wC (.int 1))) (wC (.int 0))))))
def w_fine_member_2 : WS :=
  (wRet (wAndV (wCall sp_is_integer (wCons (wVar 1) (wCons (wUn dNeg (wC (.int 2000))) (wCons (wC (.int 2000)) wNil)))) (wOp (dEq true) (wVar 1) (wC (.int 0)))))
def w_fine_member_1 : WS :=
  (wSeq (wIfS (wB (wOp (dIn false) (wVar 0) (wTup (wCons (wC (.str "month weekdays")) (wCons (wC (.str "year weekdays")) wNil))))) (wSeq (wIfS (wOr (wNot (wTru (wCb fIsi (wCons (wVar 1) (wCons (wC (.ty "tuple")) wNil))))) (wB (wOp (dEq true) (wCb fLen (wCons (wVar 1) wNil)) (wC (.int 2))))) (wRet (wC (.bl false))) wPass) w_fine_member_b1) wPass) w_fine_member_2)
def w_fine_member : WS :=
  (wSeq (wIfS (wB (wOp (dEq false) (wVar 0) (wC (.str "weekdays")))) (wRet (wCall sp_is_integer (wCons (wVar 1) (wCons (wC (.int 0)) (wCons (wC (.int 13)) wNil))))) wPass) w_fine_member_1)
theorem sok1 : PyData.strOk "weekdays" = true := by decide +kernel
theorem isIntD_int {lo hi : Int} {d : D} (h : isIntD lo hi d = true) : ∃ i, d = .int i := by
  cases d with
  | int i => exact ⟨i, rfl⟩
  | _ => cases h
/-- the ends: x and x != 0 -/
theorem int_ne0 {lo hi : Int} {d : D} {S : Sto} {Q : VKd} (q : Q (.bl (isIntD lo hi d && ne0D d)) S) :
    match D.bl (isIntD lo hi d) with
    | .bl true => dEq true d (.int 0) S Q
    | .bl false => Q (.bl false) S
    | _ => False := by
  cases hb : isIntD lo hi d with
  | true =>
    obtain ⟨i, rfl⟩ := isIntD_int hb
    rw [hb] at q
    exact ne_int q
  | false =>
    rw [hb] at q
    exact q
theorem p_fine_member (ds : List D) (S : Sto) (Q : VKd) (E : XKd) (_ : wfS S) (_ : blws S.length ds = true) (h : sp_fine_member ds S Q E) : w_fine_member (bodyE S.length Q) (startD N_fine_member ds) S := by
  obtain ⟨z, d, rfl, hz, hk, q⟩ := h
  show w_fine_member (bodyE S.length Q) [some (.str z), some d] S
  unfold w_fine_member
  try dsimp only [wSeq, wIfS, wRet, wRetN, wDrop, wAsg, wPass, wBreak, wCont, wNot, wAnd, wOr, wTru, wB, wAndV, wOrV, wNotV, wIf, wOp, wUn, wC, wVar, wNil, wCons, wTup, wLst, wCall, wCb, wChain, wO0, wO1, wApp, wTidx, wTR2, wLS, wSS, wIt, wItT, wR1, wR2, wR3, wLc, wGA, wFor, wAug, wDp, gN, gT, gsC, gs0, gIx, dNeg, dU, startD, List.getElem?_cons_zero, List.getElem?_cons_succ, List.set_cons_zero, List.set_cons_succ, keyD, wSl, wYes, dSub, dMul, dDiv, dMod, dPow, dLe, dGt, dGe, dI, dAdd, dLt, dCmp, reduceIte, Bool.false_eq_true]
  refine eq_str hz sok1 ?_
  try dsimp only [wSeq, wIfS, wRet, wRetN, wDrop, wAsg, wPass, wBreak, wCont, wNot, wAnd, wOr, wTru, wB, wAndV, wOrV, wNotV, wIf, wOp, wUn, wC, wVar, wNil, wCons, wTup, wLst, wCall, wCb, wChain, wO0, wO1, wApp, wTidx, wTR2, wLS, wSS, wIt, wItT, wR1, wR2, wR3, wLc, wGA, wFor, wAug, wDp, gN, gT, gsC, gs0, gIx, dNeg, dU, startD, List.getElem?_cons_zero, List.getElem?_cons_succ, List.set_cons_zero, List.set_cons_succ, keyD, wSl, wYes, dSub, dMul, dDiv, dMod, dPow, dLe, dGt, dGe, dI, dAdd, dLt, dCmp, reduceIte, Bool.false_eq_true]
  by_cases h1 : z = ("weekdays" : Str)
  · have e1 : (z == ("weekdays" : Str)) = true := by simpa using h1
    rw [e1, if_pos rfl]
    refine ⟨d, 0, 13, rfl, hk.1, rq ?_⟩
    have e : fineM z d = isIntD 0 13 d := by unfold fineM; rw [if_pos h1]
    rw [e] at q
    exact q
  · have e1 : (z == ("weekdays" : Str)) = false := by simpa using h1
    rw [e1, if_neg (by simp)]
    unfold w_fine_member_1
    try dsimp only [wSeq, wIfS, wRet, wRetN, wDrop, wAsg, wPass, wBreak, wCont, wNot, wAnd, wOr, wTru, wB, wAndV, wOrV, wNotV, wIf, wOp, wUn, wC, wVar, wNil, wCons, wTup, wLst, wCall, wCb, wChain, wO0, wO1, wApp, wTidx, wTR2, wLS, wSS, wIt, wItT, wR1, wR2, wR3, wLc, wGA, wFor, wAug, wDp, gN, gT, gsC, gs0, gIx, dNeg, dU, startD, List.getElem?_cons_zero, List.getElem?_cons_succ, List.set_cons_zero, List.set_cons_succ, keyD, wSl, wYes, dSub, dMul, dDiv, dMod, dPow, dLe, dGt, dGe, dI, dAdd, dLt, dCmp, reduceIte, Bool.false_eq_true]
    refine ⟨by decide, ?_⟩
    refine in_str (ys := wkN) ?_
    try dsimp only [wSeq, wIfS, wRet, wRetN, wDrop, wAsg, wPass, wBreak, wCont, wNot, wAnd, wOr, wTru, wB, wAndV, wOrV, wNotV, wIf, wOp, wUn, wC, wVar, wNil, wCons, wTup, wLst, wCall, wCb, wChain, wO0, wO1, wApp, wTidx, wTR2, wLS, wSS, wIt, wItT, wR1, wR2, wR3, wLc, wGA, wFor, wAug, wDp, gN, gT, gsC, gs0, gIx, dNeg, dU, startD, List.getElem?_cons_zero, List.getElem?_cons_succ, List.set_cons_zero, List.set_cons_succ, keyD, wSl, wYes, dSub, dMul, dDiv, dMod, dPow, dLe, dGt, dGe, dI, dAdd, dLt, dCmp, reduceIte, Bool.false_eq_true]
    by_cases h2 : z ∈ wkN
    · rw [decide_eq_true h2, if_pos rfl]
      have e : fineM z d = pairM d := by unfold fineM; rw [if_neg h1, if_pos h2]
      rw [e] at q
      refine isi_tup hk.1 (tru_bl ?_)
      cases ht : isTupD d with
      | false =>
        have e2 : pairM d = false := by cases d <;> first | rfl | cases ht
        rw [e2] at q
        exact rq q
      | true =>
        cases d with
        | tup xs =>
          refine (if_neg (by decide)).mpr (len_tup (ne_int ?_))
          try dsimp only [wSeq, wIfS, wRet, wRetN, wDrop, wAsg, wPass, wBreak, wCont, wNot, wAnd, wOr, wTru, wB, wAndV, wOrV, wNotV, wIf, wOp, wUn, wC, wVar, wNil, wCons, wTup, wLst, wCall, wCb, wChain, wO0, wO1, wApp, wTidx, wTR2, wLS, wSS, wIt, wItT, wR1, wR2, wR3, wLc, wGA, wFor, wAug, wDp, gN, gT, gsC, gs0, gIx, dNeg, dU, startD, List.getElem?_cons_zero, List.getElem?_cons_succ, List.set_cons_zero, List.set_cons_succ, keyD, wSl, wYes, dSub, dMul, dDiv, dMod, dPow, dLe, dGt, dGe, dI, dAdd, dLt, dCmp, reduceIte, Bool.false_eq_true]
          by_cases hl : xs.length = 2
          · match xs, hl with
            | [a, b], _ =>
              have ka := hk.2 a (by simp)
              have kb := hk.2 b (by simp)
              show w_fine_member_b1 _ _ _
              unfold w_fine_member_b1
              try dsimp only [wSeq, wIfS, wRet, wRetN, wDrop, wAsg, wPass, wBreak, wCont, wNot, wAnd, wOr, wTru, wB, wAndV, wOrV, wNotV, wIf, wOp, wUn, wC, wVar, wNil, wCons, wTup, wLst, wCall, wCb, wChain, wO0, wO1, wApp, wTidx, wTR2, wLS, wSS, wIt, wItT, wR1, wR2, wR3, wLc, wGA, wFor, wAug, wDp, gN, gT, gsC, gs0, gIx, dNeg, dU, startD, List.getElem?_cons_zero, List.getElem?_cons_succ, List.set_cons_zero, List.set_cons_succ, keyD, wSl, wYes, dSub, dMul, dDiv, dMod, dPow, dLe, dGt, dGe, dI, dAdd, dLt, dCmp, reduceIte, Bool.false_eq_true]
              refine ix_tup (i := 0) rfl ?_
              refine ⟨a, 0, 13, rfl, ka, ?_⟩
              have q : Q (.bl (isIntD 0 13 a && (isIntD (-400) 400 b && ne0D b))) S := q
              cases hb : isIntD 0 13 a with
              | false =>
                simp only [hb, Bool.false_and] at q
                exact rq q
              | true =>
                simp only [hb, Bool.true_and] at q
                refine ix_tup (i := 1) rfl ?_
                refine ⟨b, -400, 400, rfl, kb, ?_⟩
                have z := int_ne0 (lo := -400) (hi := 400) (d := b) (S := S) (Q := RetQ S.length Q) (rq q)
                cases hb2 : isIntD (-400) 400 b with
                | true =>
                  rw [hb2] at z
                  exact ix_tup (i := 1) rfl z
                | false =>
                  rw [hb2] at z
                  exact z
          · have e2 : ((xs.length : Int) == 2) = false := beq_eq_false_iff_ne.mpr (by omega)
            rw [e2]
            have e3 : pairM (.tup xs) = false := by
              match xs, hl with
              | [], _ => rfl
              | [_], _ => rfl
              | _ :: _ :: _ :: _, _ => rfl
            rw [e3] at q
            exact rq q
        | _ => cases ht
    · rw [decide_eq_false h2, if_neg (by simp)]
      have e : fineM z d = (isIntD (-2000) 2000 d && ne0D d) := by unfold fineM; rw [if_neg h1, if_neg h2]
      rw [e] at q
      unfold w_fine_member_2
      try dsimp only [wSeq, wIfS, wRet, wRetN, wDrop, wAsg, wPass, wBreak, wCont, wNot, wAnd, wOr, wTru, wB, wAndV, wOrV, wNotV, wIf, wOp, wUn, wC, wVar, wNil, wCons, wTup, wLst, wCall, wCb, wChain, wO0, wO1, wApp, wTidx, wTR2, wLS, wSS, wIt, wItT, wR1, wR2, wR3, wLc, wGA, wFor, wAug, wDp, gN, gT, gsC, gs0, gIx, dNeg, dU, startD, List.getElem?_cons_zero, List.getElem?_cons_succ, List.set_cons_zero, List.set_cons_succ, keyD, wSl, wYes, dSub, dMul, dDiv, dMod, dPow, dLe, dGt, dGe, dI, dAdd, dLt, dCmp, reduceIte, Bool.false_eq_true]
      refine ⟨d, -2000, 2000, rfl, hk.1, ?_⟩
      exact int_ne0 (Q := RetQ S.length Q) (rq q)

/-! ### how many there are in a set -/
theorem nodup_le {α : Type} [BEq α] [LawfulBEq α] : ∀ {d ns : List α}, d.Nodup → (∀ x ∈ d, x ∈ ns) → d.length ≤ ns.length
  | [], _, _, _ => Nat.zero_le _
  | a :: r, ns, hn, hm => by
    have ha := hm a List.mem_cons_self
    obtain ⟨h1, h2⟩ := List.nodup_cons.mp hn
    have ih := nodup_le (d := r) (ns := ns.erase a) h2 fun x hx => (List.mem_erase_of_ne (fun e => h1 (by rw [← e]; exact hx))).mpr (hm x (List.mem_cons_of_mem _ hx))
    have e := List.length_erase_of_mem ha
    have : 0 < ns.length := List.length_pos_of_mem ha
    rw [List.length_cons]
    omega
theorem dup_ex {α : Type} [BEq α] [LawfulBEq α] : ∀ {ns : List α}, ¬ ns.Nodup → ∃ x, x ∈ ns ∧ x ∈ ns.erase x
  | [], h => absurd List.nodup_nil h
  | a :: r, h => by
    by_cases ha : a ∈ r
    · exact ⟨a, List.mem_cons_self, by rw [List.erase_cons_head]; exact ha⟩
    · obtain ⟨x, hx, hy⟩ := dup_ex (ns := r) fun z => h (List.nodup_cons.mpr ⟨ha, z⟩)
      have hne : a ≠ x := fun e => ha (e ▸ hx)
      refine ⟨x, List.mem_cons_of_mem _ hx, ?_⟩
      rw [List.erase_cons_tail (by simpa using hne)]
      exact List.mem_cons_of_mem _ hy
theorem set_len {α : Type} [BEq α] [LawfulBEq α] [DecidableEq α] {d ns : List α} (hd : d.Nodup) (hm : ∀ x, x ∈ d ↔ x ∈ ns) : d.length ≤ ns.length ∧ (d.length < ns.length ↔ ¬ ns.Nodup) := by
  have h1 := nodup_le hd fun x hx => (hm x).mp hx
  refine ⟨h1, fun h hn => ?_, fun h => ?_⟩
  · have := nodup_le hn fun x hx => (hm x).mpr hx
    omega
  · obtain ⟨x, hx, hy⟩ := dup_ex h
    have h2 := nodup_le (ns := ns.erase x) hd fun y hyd => by
      by_cases e : y = x
      · rw [e]; exact hy
      · exact (List.mem_erase_of_ne e).mpr ((hm y).mp hyd)
    have e := List.length_erase_of_mem hx
    have : 0 < ns.length := List.length_pos_of_mem hx
    omega
/-- all different; ints, or tuples of ints -/
def nodupD (xs : List D) : Bool := match intsD xs with
  | some ns => decide ns.Nodup
  | none => (match tupsI xs with
    | some ks => decide ks.Nodup
    | none => false)
def setOk (xs : List D) : Prop := (intsD xs).isSome = true ∨ (tupsI xs).isSome = true
theorem ints_len : ∀ {xs : List D} {ns : List Int}, intsD xs = some ns → ns.length = xs.length
  | [], ns, h => by cases h; rfl
  | d :: xs, ns, h => by
    cases d with
    | int i =>
      simp only [intsD] at h
      cases e : intsD xs with
      | none => rw [e] at h; cases h
      | some ms =>
        rw [e] at h
        cases h
        simp [ints_len e]
    | _ => cases h
theorem tups_len : ∀ {xs : List D} {ks : List (List Int)}, tupsI xs = some ks → ks.length = xs.length
  | [], ns, h => by cases h; rfl
  | d :: xs, ns, h => by
    cases d with
    | tup ys =>
      simp only [tupsI] at h
      split at h
      · rename_i e
        cases h
        simp [tups_len e]
      · cases h
    | _ => simp [tupsI] at h
theorem ls_tup {xs : List D} {S : Sto} {Q : VKd} (h : setOk xs) (hl : xs.length < 64) (q : ∀ n : Nat, n ≤ xs.length → (n < xs.length ↔ nodupD xs = false) → Q (.int n) S) : dLS S (.tup xs) Q := by
  unfold dLS
  simp only [items]
  cases e : intsD xs with
  | some ns =>
    have e1 := ints_len e
    refine ⟨by omega, fun d hd hm => ?_⟩
    obtain ⟨a, b⟩ := set_len hd hm
    refine q _ (by omega) ?_
    rw [← e1, b]
    simp [nodupD, e]
  | none =>
    rcases h with h | h
    · rw [e] at h; cases h
    · cases e2 : tupsI xs with
      | none => rw [e2] at h; cases h
      | some ks =>
        have e1 := tups_len e2
        refine ⟨by omega, fun d hd hm => ?_⟩
        obtain ⟨a, b⟩ := set_len hd hm
        refine q _ (by omega) ?_
        rw [← e1, b]
        simp [nodupD, e, e2]
theorem setOk_ints : ∀ {xs : List D}, (∀ x ∈ xs, ∃ i, x = .int i) → (intsD xs).isSome = true
  | [], _ => rfl
  | d :: xs, h => by
    obtain ⟨i, rfl⟩ := h d List.mem_cons_self
    simp [intsD, setOk_ints fun x hx => h x (List.mem_cons_of_mem _ hx)]
theorem setOk_tups : ∀ {xs : List D}, (∀ x ∈ xs, ∃ i j, x = .tup [.int i, .int j]) → (tupsI xs).isSome = true
  | [], _ => rfl
  | d :: xs, h => by
    obtain ⟨i, j, rfl⟩ := h d List.mem_cons_self
    obtain ⟨ks, e⟩ := Option.isSome_iff_exists.mp (setOk_tups fun x hx => h x (List.mem_cons_of_mem _ hx))
    simp [tupsI, intsD, e]
theorem fineM_set {z : Str} {ms : List D} (h : ∀ m ∈ ms, fineM z m = true) : setOk ms := by
  by_cases h1 : z = ("weekdays" : Str)
  · refine .inl (setOk_ints fun m hm => ?_)
    have q := h m hm
    unfold fineM at q
    rw [if_pos h1] at q
    exact isIntD_int q
  · by_cases h2 : z ∈ wkN
    · refine .inr (setOk_tups fun m hm => ?_)
      have q := h m hm
      unfold fineM at q
      rw [if_neg h1, if_pos h2] at q
      unfold pairM at q
      split at q
      · rename_i a b
        simp only [Bool.and_eq_true] at q
        obtain ⟨i, rfl⟩ := isIntD_int q.1
        obtain ⟨j, rfl⟩ := isIntD_int q.2.1
        exact ⟨i, j, rfl⟩
      · cases q
    · refine .inl (setOk_ints fun m hm => ?_)
      have q := h m hm
      unfold fineM at q
      rw [if_neg h1, if_neg h2, Bool.and_eq_true] at q
      exact isIntD_int q.1

/-! ### fine_places -/
def plM (x : D) : Bool := isIntD (-400) 400 x && ne0D x
def finePl : D → Bool
  | .tup xs => decide (xs.length ≤ 12) && (xs.all plM && nodupD xs)
  | _ => false
def okPl (S : Sto) (d : D) : Prop := okTy S d ∧ match d with
  | .tup xs => ∀ x ∈ xs, okTy S x
  | _ => True
def sp_fine_places : Spec := fun ds S Q _ => ∃ d, ds = [d] ∧ okPl S d ∧ Q (.bl (finePl d)) S
def N_fine_places : List Str := ["places", "place"]
def w_fine_places_2 : WS :=
  (wRet (wOp (dEq false) (wLS (wVar 0)) (wCb fLen (wCons (wVar 0) wNil))))
def w_fine_places_1 : WS :=
  (wSeq (wIfS (wNot (wTru (wGA true (wItT (wVar 0)) (gN 1) wYes (wAndV (wCall sp_is_integer (wCons (wVar 1) (wCons (wUn dNeg (wC (.int 400))) (wCons (wC (.int 400)) wNil)))) (wOp (dEq true) (wVar 1) (wC (.int 0)))) [1]))) (wRet (wC (.bl false))) wPass) w_fine_places_2)
def w_fine_places : WS :=
  (wSeq (wIfS (wOr (wNot (wTru (wCb fIsi (wCons (wVar 0) (wCons (wC (.ty "tuple")) wNil))))) (wB (wOp dGt (wCb fLen (wCons (wVar 0) wNil)) (wC (.int 12))))) (wRet (wC (.bl false))) wPass) w_fine_places_1)
theorem p_fine_places (ds : List D) (S : Sto) (Q : VKd) (E : XKd) (_ : wfS S) (_ : blws S.length ds = true) (h : sp_fine_places ds S Q E) : w_fine_places (bodyE S.length Q) (startD N_fine_places ds) S := by
  obtain ⟨d, rfl, hk, q⟩ := h
  show w_fine_places (bodyE S.length Q) [some d, none] S
  unfold w_fine_places
  try dsimp only [wSeq, wIfS, wRet, wRetN, wDrop, wAsg, wPass, wBreak, wCont, wNot, wAnd, wOr, wTru, wB, wAndV, wOrV, wNotV, wIf, wOp, wUn, wC, wVar, wNil, wCons, wTup, wLst, wCall, wCb, wChain, wO0, wO1, wApp, wTidx, wTR2, wLS, wSS, wIt, wItT, wR1, wR2, wR3, wLc, wGA, wFor, wAug, wDp, gN, gT, gsC, gs0, gIx, dNeg, dU, startD, List.getElem?_cons_zero, List.getElem?_cons_succ, List.set_cons_zero, List.set_cons_succ, keyD, wSl, wYes, dSub, dMul, dDiv, dMod, dPow, dLe, dGt, dGe, dI, dAdd, dLt, dCmp, reduceIte, Bool.false_eq_true]
  refine isi_tup hk.1 (tru_bl ?_)
  cases ht : isTupD d with
  | false =>
    have e2 : finePl d = false := by cases d <;> first | rfl | cases ht
    rw [e2] at q
    exact rq q
  | true =>
    cases d with
    | tup xs =>
      refine (if_neg (by decide)).mpr (len_tup ⟨trivial, ?_⟩)
      by_cases hl : xs.length ≤ 12
      · have e2 : decide ((12 : Int) < xs.length) = false := decide_eq_false (by omega)
        rw [e2]
        show w_fine_places_1 _ _ _
        unfold w_fine_places_1
        try dsimp only [wSeq, wIfS, wRet, wRetN, wDrop, wAsg, wPass, wBreak, wCont, wNot, wAnd, wOr, wTru, wB, wAndV, wOrV, wNotV, wIf, wOp, wUn, wC, wVar, wNil, wCons, wTup, wLst, wCall, wCb, wChain, wO0, wO1, wApp, wTidx, wTR2, wLS, wSS, wIt, wItT, wR1, wR2, wR3, wLc, wGA, wFor, wAug, wDp, gN, gT, gsC, gs0, gIx, dNeg, dU, startD, List.getElem?_cons_zero, List.getElem?_cons_succ, List.set_cons_zero, List.set_cons_succ, keyD, wSl, wYes, dSub, dMul, dDiv, dMod, dPow, dLe, dGt, dGe, dI, dAdd, dLt, dCmp, reduceIte, Bool.false_eq_true]
        refine gaL_pure plM trivial xs (fun x hx N hN => ?_) gN_mono (tru_bl ?_)
        · try dsimp only [wSeq, wIfS, wRet, wRetN, wDrop, wAsg, wPass, wBreak, wCont, wNot, wAnd, wOr, wTru, wB, wAndV, wOrV, wNotV, wIf, wOp, wUn, wC, wVar, wNil, wCons, wTup, wLst, wCall, wCb, wChain, wO0, wO1, wApp, wTidx, wTR2, wLS, wSS, wIt, wItT, wR1, wR2, wR3, wLc, wGA, wFor, wAug, wDp, gN, gT, gsC, gs0, gIx, dNeg, dU, startD, List.getElem?_cons_zero, List.getElem?_cons_succ, List.set_cons_zero, List.set_cons_succ, keyD, wSl, wYes, dSub, dMul, dDiv, dMod, dPow, dLe, dGt, dGe, dI, dAdd, dLt, dCmp, reduceIte, Bool.false_eq_true]
          refine ⟨x, -400, 400, rfl, hk.2 x hx, ?_⟩
          exact int_ne0 (lo := -400) (hi := 400) (d := x) hN
        · try dsimp only [wSeq, wIfS, wRet, wRetN, wDrop, wAsg, wPass, wBreak, wCont, wNot, wAnd, wOr, wTru, wB, wAndV, wOrV, wNotV, wIf, wOp, wUn, wC, wVar, wNil, wCons, wTup, wLst, wCall, wCb, wChain, wO0, wO1, wApp, wTidx, wTR2, wLS, wSS, wIt, wItT, wR1, wR2, wR3, wLc, wGA, wFor, wAug, wDp, gN, gT, gsC, gs0, gIx, dNeg, dU, startD, List.getElem?_cons_zero, List.getElem?_cons_succ, List.set_cons_zero, List.set_cons_succ, keyD, wSl, wYes, dSub, dMul, dDiv, dMod, dPow, dLe, dGt, dGe, dI, dAdd, dLt, dCmp, reduceIte, Bool.false_eq_true]
          have q : Q (.bl (decide (xs.length ≤ 12) && (xs.all plM && nodupD xs))) S := q
          rw [decide_eq_true hl, Bool.true_and] at q
          cases ha : xs.all plM with
          | false =>
            rw [ha] at q
            exact rq q
          | true =>
            rw [ha, Bool.true_and] at q
            show w_fine_places_2 _ _ _
            unfold w_fine_places_2
            try dsimp only [wSeq, wIfS, wRet, wRetN, wDrop, wAsg, wPass, wBreak, wCont, wNot, wAnd, wOr, wTru, wB, wAndV, wOrV, wNotV, wIf, wOp, wUn, wC, wVar, wNil, wCons, wTup, wLst, wCall, wCb, wChain, wO0, wO1, wApp, wTidx, wTR2, wLS, wSS, wIt, wItT, wR1, wR2, wR3, wLc, wGA, wFor, wAug, wDp, gN, gT, gsC, gs0, gIx, dNeg, dU, startD, List.getElem?_cons_zero, List.getElem?_cons_succ, List.set_cons_zero, List.set_cons_succ, keyD, wSl, wYes, dSub, dMul, dDiv, dMod, dPow, dLe, dGt, dGe, dI, dAdd, dLt, dCmp, reduceIte, Bool.false_eq_true]
            refine ls_tup (.inl (setOk_ints fun x hx => ?_)) (by omega) fun n h1 h2 => len_tup (eq_int (rq ?_))
            · have z := List.all_eq_true.mp ha x hx
              unfold plM at z
              rw [Bool.and_eq_true] at z
              exact isIntD_int z.1
            · have e : ((n : Int) == xs.length) = nodupD xs := by
                cases hn : nodupD xs with
                | false =>
                  rw [hn] at h2
                  exact beq_eq_false_iff_ne.mpr (by have := h2.mpr rfl; omega)
                | true =>
                  rw [hn] at h2
                  have : ¬ n < xs.length := fun z => by cases h2.mp z
                  exact beq_iff_eq.mpr (by omega)
              rw [e]
              exact q
      · have e2 : decide ((12 : Int) < xs.length) = true := decide_eq_true (by omega)
        rw [e2]
        have e3 : finePl (.tup xs) = false := by
          show (decide (xs.length ≤ 12) && _) = false
          rw [decide_eq_false hl]
          rfl
        rw [e3] at q
        exact rq q
    | _ => cases ht

/-! ### fine_lists -/
def fineGo : Int → List D → Bool
  | _, [] => true
  | last, one :: r => (match one with
    | .tup [.str z, .tup ms] => decide (z ∈ t_NAMES) && (decide (last < (t_NAMES.idxOf z : Nat)) && (decide (1 ≤ ms.length ∧ ms.length ≤ 60) && (ms.all (fineM z) && (nodupD ms && fineGo (t_NAMES.idxOf z : Nat) r))))
    | _ => false)
def fineLs : D → Bool
  | .tup xs => fineGo (-1) xs
  | _ => false
def okOne (S : Sto) (one : D) : Prop := okTy S one ∧ ∀ xs, one = .tup xs → xs.length = 2 → ∃ z b, xs = [.str z, b] ∧ PyData.strOk z = true ∧ okTy S b ∧ ∀ ms, b = .tup ms → ∀ m ∈ ms, okM S m
def okLs (S : Sto) (d : D) : Prop := okTy S d ∧ ∀ xs, d = .tup xs → ∀ one ∈ xs, okOne S one
def sp_fine_lists : Spec := fun ds S Q _ => ∃ d, ds = [d] ∧ okLs S d ∧ Q (.bl (fineLs d)) S
def N_fine_lists : List Str := ["lists", "last", "one", "member"]
def w_fine_lists_b3 : WS :=
  (wIfS (wOr (wNot (wTru (wGA true (wItT (wOp dIx (wVar 2) (wC (.int 1)))) (gN 3) wYes (wCall sp_fine_member (wCons (wOp dIx (wVar 2) (wC (.int 0))) (wCons (wVar 3) wNil))) [3]))) (wB (wOp dLt (wLS (wOp dIx (wVar 2) (wC (.int 1)))) (wCb fLen (wCons (wOp dIx (wVar 2) (wC (.int 1))) wNil))))) (wRet (wC (.bl false))) wPass)
def w_fine_lists_b2 : WS :=
  (wSeq (wIfS (wOr (wNot (wTru (wCb fIsi (wCons (wOp dIx (wVar 2) (wC (.int 1))) (wCons (wC (.ty "tuple")) wNil))))) (wNot (wB (wChain dLe dLe (wC (.int 1)) (wCb fLen (wCons (wOp dIx (wVar 2) (wC (.int 1))) wNil)) (wC (.int 60)))))) (wRet (wC (.bl false))) wPass) w_fine_lists_b3)
def w_fine_lists_b1 : WS :=
  (wSeq (wAsg (wTidx t_NAMES (wOp dIx (wVar 2) (wC (.int 0)))) (gN 1)) w_fine_lists_b2)
def w_fine_lists_l0 : WS :=
  (wSeq (wIfS (wOr (wNot (wTru (wCb fIsi (wCons (wVar 2) (wCons (wC (.ty "tuple")) wNil))))) (wOr (wB (wOp (dEq true) (wCb fLen (wCons (wVar 2) wNil)) (wC (.int 2)))) (wOr (wB (wOp (dIn true) (wOp dIx (wVar 2) (wC (.int 0))) (wC (.tup (t_NAMES.map D.str))))) (wB (wOp dLe (wTidx t_NAMES (wOp dIx (wVar 2) (wC (.int 0)))) (wVar 1)))))) (wRet (wC (.bl false))) wPass) w_fine_lists_b1)
def w_fine_lists_3 : WS :=
  (wRet (wC (.bl true)))
def w_fine_lists_2 : WS :=
  (wSeq (wFor (wItT (wVar 0)) (gN 2) w_fine_lists_l0) w_fine_lists_3)
def w_fine_lists_1 : WS :=
  (wSeq (wAsg (wUn dNeg (wC (.int 1))) (gN 1)) w_fine_lists_2)
def w_fine_lists : WS :=
  (wSeq (wIfS (wNot (wTru (wCb fIsi (wCons (wVar 0) (wCons (wC (.ty "tuple")) wNil))))) (wRet (wC (.bl false))) wPass) w_fine_lists_1)
theorem idx_at {z : Str} {ys : List Str} (h : z ∈ ys) : ys[ys.idxOf z]? = some z ∧ ∀ m, m < ys.idxOf z → ys[m]? ≠ some z := by
  induction ys with
  | nil => cases h
  | cons y ys ih =>
    by_cases e : y = z
    · subst e
      rw [List.idxOf_cons_self]
      exact ⟨rfl, fun m hm => absurd hm (Nat.not_lt_zero _)⟩
    · have e2 : (y :: ys).idxOf z = ys.idxOf z + 1 := by rw [List.idxOf_cons, show (y == z) = false from beq_eq_false_iff_ne.mpr e]; rfl
      rw [e2]
      obtain ⟨a, b⟩ := ih ((List.mem_cons.mp h).resolve_left (Ne.symm e))
      refine ⟨by simpa using a, fun m hm => ?_⟩
      cases m with
      | zero => simpa using e
      | succ m => simpa using b m (by omega)
theorem p_fine_lists (ds : List D) (S : Sto) (Q : VKd) (E : XKd) (_ : wfS S) (_ : blws S.length ds = true) (h : sp_fine_lists ds S Q E) : w_fine_lists (bodyE S.length Q) (startD N_fine_lists ds) S := by
  obtain ⟨d, rfl, hk, q⟩ := h
  show w_fine_lists (bodyE S.length Q) [some d, none, none, none] S
  unfold w_fine_lists
  try dsimp only [wSeq, wIfS, wRet, wRetN, wDrop, wAsg, wPass, wBreak, wCont, wNot, wAnd, wOr, wTru, wB, wAndV, wOrV, wNotV, wIf, wOp, wUn, wC, wVar, wNil, wCons, wTup, wLst, wCall, wCb, wChain, wO0, wO1, wApp, wTidx, wTR2, wLS, wSS, wIt, wItT, wR1, wR2, wR3, wLc, wGA, wFor, wAug, wDp, gN, gT, gsC, gs0, gIx, dNeg, dU, startD, List.getElem?_cons_zero, List.getElem?_cons_succ, List.set_cons_zero, List.set_cons_succ, keyD, wSl, wYes, dSub, dMul, dDiv, dMod, dPow, dLe, dGt, dGe, dI, dAdd, dLt, dCmp, reduceIte, Bool.false_eq_true]
  refine isi_tup hk.1 (tru_bl ?_)
  cases ht : isTupD d with
  | false =>
    have e2 : fineLs d = false := by cases d <;> first | rfl | cases ht
    rw [e2] at q
    exact rq q
  | true =>
    cases d with
    | tup ls =>
      have hk := hk.2 ls rfl
      have q : Q (.bl (fineGo (-1) ls)) S := q
      show w_fine_lists_1 _ _ _
      unfold w_fine_lists_1
      try dsimp only [wSeq, wIfS, wRet, wRetN, wDrop, wAsg, wPass, wBreak, wCont, wNot, wAnd, wOr, wTru, wB, wAndV, wOrV, wNotV, wIf, wOp, wUn, wC, wVar, wNil, wCons, wTup, wLst, wCall, wCb, wChain, wO0, wO1, wApp, wTidx, wTR2, wLS, wSS, wIt, wItT, wR1, wR2, wR3, wLc, wGA, wFor, wAug, wDp, gN, gT, gsC, gs0, gIx, dNeg, dU, startD, List.getElem?_cons_zero, List.getElem?_cons_succ, List.set_cons_zero, List.set_cons_succ, keyD, wSl, wYes, dSub, dMul, dDiv, dMod, dPow, dLe, dGt, dGe, dI, dAdd, dLt, dCmp, reduceIte, Bool.false_eq_true]
      unfold w_fine_lists_2
      try dsimp only [wSeq, wIfS, wRet, wRetN, wDrop, wAsg, wPass, wBreak, wCont, wNot, wAnd, wOr, wTru, wB, wAndV, wOrV, wNotV, wIf, wOp, wUn, wC, wVar, wNil, wCons, wTup, wLst, wCall, wCb, wChain, wO0, wO1, wApp, wTidx, wTR2, wLS, wSS, wIt, wItT, wR1, wR2, wR3, wLc, wGA, wFor, wAug, wDp, gN, gT, gsC, gs0, gIx, dNeg, dU, startD, List.getElem?_cons_zero, List.getElem?_cons_succ, List.set_cons_zero, List.set_cons_succ, keyD, wSl, wYes, dSub, dMul, dDiv, dMod, dPow, dLe, dGt, dGe, dI, dAdd, dLt, dCmp, reduceIte, Bool.false_eq_true]
      refine forL_inv (fun i σ S' => S' = S ∧ ∃ last one, σ = [some (.tup ls), some (.int last), one, none] ∧ fineGo last (ls.drop i) = fineGo (-1) ls) (fun i σ S' _ _ => trivial) (fun i one σ S' N hi hN hI => ?_) (fun σ S' hI => ?_) ⟨rfl, -1, none, rfl, rfl⟩
      · obtain ⟨rfl, last, o2, rfl, hg⟩ := hI
        have hlt := (List.getElem?_eq_some_iff.mp hi).1
        have hdr : ls.drop i = one :: ls.drop (i + 1) := by
          rw [List.drop_eq_getElem_cons hlt]
          congr 1
          exact (List.getElem?_eq_some_iff.mp hi).2
        rw [hdr] at hg
        obtain ⟨k1, k2⟩ := hk one (List.mem_of_getElem? hi)
        have bad : fineGo last (one :: ls.drop (i + 1)) = false → RetQ S'.length Q (.bl false) S' := fun e => by
          rw [hg] at e
          rw [e] at q
          exact rq q
        try dsimp only [wSeq, wIfS, wRet, wRetN, wDrop, wAsg, wPass, wBreak, wCont, wNot, wAnd, wOr, wTru, wB, wAndV, wOrV, wNotV, wIf, wOp, wUn, wC, wVar, wNil, wCons, wTup, wLst, wCall, wCb, wChain, wO0, wO1, wApp, wTidx, wTR2, wLS, wSS, wIt, wItT, wR1, wR2, wR3, wLc, wGA, wFor, wAug, wDp, gN, gT, gsC, gs0, gIx, dNeg, dU, startD, List.getElem?_cons_zero, List.getElem?_cons_succ, List.set_cons_zero, List.set_cons_succ, keyD, wSl, wYes, dSub, dMul, dDiv, dMod, dPow, dLe, dGt, dGe, dI, dAdd, dLt, dCmp, reduceIte, Bool.false_eq_true]
        unfold w_fine_lists_l0
        try dsimp only [wSeq, wIfS, wRet, wRetN, wDrop, wAsg, wPass, wBreak, wCont, wNot, wAnd, wOr, wTru, wB, wAndV, wOrV, wNotV, wIf, wOp, wUn, wC, wVar, wNil, wCons, wTup, wLst, wCall, wCb, wChain, wO0, wO1, wApp, wTidx, wTR2, wLS, wSS, wIt, wItT, wR1, wR2, wR3, wLc, wGA, wFor, wAug, wDp, gN, gT, gsC, gs0, gIx, dNeg, dU, startD, List.getElem?_cons_zero, List.getElem?_cons_succ, List.set_cons_zero, List.set_cons_succ, keyD, wSl, wYes, dSub, dMul, dDiv, dMod, dPow, dLe, dGt, dGe, dI, dAdd, dLt, dCmp, reduceIte, Bool.false_eq_true]
        refine isi_tup k1 (tru_bl ?_)
        cases h1 : isTupD one with
        | false => exact bad (by cases one <;> first | rfl | cases h1)
        | true =>
          cases one with
          | tup xs =>
            refine (if_neg (by decide)).mpr (len_tup (ne_int ?_))
            try dsimp only [wSeq, wIfS, wRet, wRetN, wDrop, wAsg, wPass, wBreak, wCont, wNot, wAnd, wOr, wTru, wB, wAndV, wOrV, wNotV, wIf, wOp, wUn, wC, wVar, wNil, wCons, wTup, wLst, wCall, wCb, wChain, wO0, wO1, wApp, wTidx, wTR2, wLS, wSS, wIt, wItT, wR1, wR2, wR3, wLc, wGA, wFor, wAug, wDp, gN, gT, gsC, gs0, gIx, dNeg, dU, startD, List.getElem?_cons_zero, List.getElem?_cons_succ, List.set_cons_zero, List.set_cons_succ, keyD, wSl, wYes, dSub, dMul, dDiv, dMod, dPow, dLe, dGt, dGe, dI, dAdd, dLt, dCmp, reduceIte, Bool.false_eq_true]
            by_cases hl : xs.length = 2
            · obtain ⟨z, b, rfl, hz, kb, km⟩ := k2 xs rfl hl
              refine (if_neg (by simp)).mpr (ix_tup (i := 0) rfl (nin_str ?_))
              try dsimp only [wSeq, wIfS, wRet, wRetN, wDrop, wAsg, wPass, wBreak, wCont, wNot, wAnd, wOr, wTru, wB, wAndV, wOrV, wNotV, wIf, wOp, wUn, wC, wVar, wNil, wCons, wTup, wLst, wCall, wCb, wChain, wO0, wO1, wApp, wTidx, wTR2, wLS, wSS, wIt, wItT, wR1, wR2, wR3, wLc, wGA, wFor, wAug, wDp, gN, gT, gsC, gs0, gIx, dNeg, dU, startD, List.getElem?_cons_zero, List.getElem?_cons_succ, List.set_cons_zero, List.set_cons_succ, keyD, wSl, wYes, dSub, dMul, dDiv, dMod, dPow, dLe, dGt, dGe, dI, dAdd, dLt, dCmp, reduceIte, Bool.false_eq_true]
              by_cases hn : z ∈ t_NAMES
              · rw [decide_eq_true hn]
                obtain ⟨x1, x2⟩ := idx_at hn
                refine (if_neg (by simp)).mpr (ix_tup (i := 0) rfl ⟨t_NAMES.idxOf z, x1, x2, trivial, ?_⟩)
                try dsimp only [wSeq, wIfS, wRet, wRetN, wDrop, wAsg, wPass, wBreak, wCont, wNot, wAnd, wOr, wTru, wB, wAndV, wOrV, wNotV, wIf, wOp, wUn, wC, wVar, wNil, wCons, wTup, wLst, wCall, wCb, wChain, wO0, wO1, wApp, wTidx, wTR2, wLS, wSS, wIt, wItT, wR1, wR2, wR3, wLc, wGA, wFor, wAug, wDp, gN, gT, gsC, gs0, gIx, dNeg, dU, startD, List.getElem?_cons_zero, List.getElem?_cons_succ, List.set_cons_zero, List.set_cons_succ, keyD, wSl, wYes, dSub, dMul, dDiv, dMod, dPow, dLe, dGt, dGe, dI, dAdd, dLt, dCmp, reduceIte, Bool.false_eq_true]
                by_cases h3 : last < (t_NAMES.idxOf z : Nat)
                · have e3 : decide (((t_NAMES.idxOf z : Nat) : Int) ≤ last) = false := decide_eq_false (by omega)
                  rw [e3]
                  show w_fine_lists_b1 _ _ _
                  unfold w_fine_lists_b1
                  try dsimp only [wSeq, wIfS, wRet, wRetN, wDrop, wAsg, wPass, wBreak, wCont, wNot, wAnd, wOr, wTru, wB, wAndV, wOrV, wNotV, wIf, wOp, wUn, wC, wVar, wNil, wCons, wTup, wLst, wCall, wCb, wChain, wO0, wO1, wApp, wTidx, wTR2, wLS, wSS, wIt, wItT, wR1, wR2, wR3, wLc, wGA, wFor, wAug, wDp, gN, gT, gsC, gs0, gIx, dNeg, dU, startD, List.getElem?_cons_zero, List.getElem?_cons_succ, List.set_cons_zero, List.set_cons_succ, keyD, wSl, wYes, dSub, dMul, dDiv, dMod, dPow, dLe, dGt, dGe, dI, dAdd, dLt, dCmp, reduceIte, Bool.false_eq_true]
                  refine ix_tup (i := 0) rfl ⟨t_NAMES.idxOf z, x1, x2, ?_⟩
                  try dsimp only [wSeq, wIfS, wRet, wRetN, wDrop, wAsg, wPass, wBreak, wCont, wNot, wAnd, wOr, wTru, wB, wAndV, wOrV, wNotV, wIf, wOp, wUn, wC, wVar, wNil, wCons, wTup, wLst, wCall, wCb, wChain, wO0, wO1, wApp, wTidx, wTR2, wLS, wSS, wIt, wItT, wR1, wR2, wR3, wLc, wGA, wFor, wAug, wDp, gN, gT, gsC, gs0, gIx, dNeg, dU, startD, List.getElem?_cons_zero, List.getElem?_cons_succ, List.set_cons_zero, List.set_cons_succ, keyD, wSl, wYes, dSub, dMul, dDiv, dMod, dPow, dLe, dGt, dGe, dI, dAdd, dLt, dCmp, reduceIte, Bool.false_eq_true]
                  unfold w_fine_lists_b2
                  try dsimp only [wSeq, wIfS, wRet, wRetN, wDrop, wAsg, wPass, wBreak, wCont, wNot, wAnd, wOr, wTru, wB, wAndV, wOrV, wNotV, wIf, wOp, wUn, wC, wVar, wNil, wCons, wTup, wLst, wCall, wCb, wChain, wO0, wO1, wApp, wTidx, wTR2, wLS, wSS, wIt, wItT, wR1, wR2, wR3, wLc, wGA, wFor, wAug, wDp, gN, gT, gsC, gs0, gIx, dNeg, dU, startD, List.getElem?_cons_zero, List.getElem?_cons_succ, List.set_cons_zero, List.set_cons_succ, keyD, wSl, wYes, dSub, dMul, dDiv, dMod, dPow, dLe, dGt, dGe, dI, dAdd, dLt, dCmp, reduceIte, Bool.false_eq_true]
                  refine ix_tup (i := 1) rfl (isi_tup kb (tru_bl ?_))
                  cases h4 : isTupD b with
                  | false => exact bad (by cases b <;> first | rfl | cases h4)
                  | true =>
                    cases b with
                    | tup ms =>
                      have km := km ms rfl
                      have eg : fineGo last (D.tup [D.str z, D.tup ms] :: ls.drop (i + 1)) = (decide (1 ≤ ms.length ∧ ms.length ≤ 60) && (ms.all (fineM z) && (nodupD ms && fineGo (t_NAMES.idxOf z : Nat) (ls.drop (i + 1))))) := by
                        show (decide (z ∈ t_NAMES) && (decide (last < (t_NAMES.idxOf z : Nat)) && _)) = _
                        rw [decide_eq_true hn, decide_eq_true h3, Bool.true_and, Bool.true_and]
                      rw [eg] at bad hg
                      refine (if_neg (by decide)).mpr (ix_tup (i := 1) rfl (len_tup ⟨trivial, ?_⟩))
                      try dsimp only [wSeq, wIfS, wRet, wRetN, wDrop, wAsg, wPass, wBreak, wCont, wNot, wAnd, wOr, wTru, wB, wAndV, wOrV, wNotV, wIf, wOp, wUn, wC, wVar, wNil, wCons, wTup, wLst, wCall, wCb, wChain, wO0, wO1, wApp, wTidx, wTR2, wLS, wSS, wIt, wItT, wR1, wR2, wR3, wLc, wGA, wFor, wAug, wDp, gN, gT, gsC, gs0, gIx, dNeg, dU, startD, List.getElem?_cons_zero, List.getElem?_cons_succ, List.set_cons_zero, List.set_cons_succ, keyD, wSl, wYes, dSub, dMul, dDiv, dMod, dPow, dLe, dGt, dGe, dI, dAdd, dLt, dCmp, reduceIte, Bool.false_eq_true]
                      by_cases h5 : 1 ≤ ms.length
                      · have e5 : decide ((1 : Int) ≤ ms.length) = true := decide_eq_true (by omega)
                        rw [e5]
                        refine ⟨trivial, ?_⟩
                        try dsimp only [wSeq, wIfS, wRet, wRetN, wDrop, wAsg, wPass, wBreak, wCont, wNot, wAnd, wOr, wTru, wB, wAndV, wOrV, wNotV, wIf, wOp, wUn, wC, wVar, wNil, wCons, wTup, wLst, wCall, wCb, wChain, wO0, wO1, wApp, wTidx, wTR2, wLS, wSS, wIt, wItT, wR1, wR2, wR3, wLc, wGA, wFor, wAug, wDp, gN, gT, gsC, gs0, gIx, dNeg, dU, startD, List.getElem?_cons_zero, List.getElem?_cons_succ, List.set_cons_zero, List.set_cons_succ, keyD, wSl, wYes, dSub, dMul, dDiv, dMod, dPow, dLe, dGt, dGe, dI, dAdd, dLt, dCmp, reduceIte, Bool.false_eq_true]
                        by_cases h6 : ms.length ≤ 60
                        · have e6 : decide ((ms.length : Int) ≤ 60) = true := decide_eq_true (by omega)
                          rw [e6]
                          rw [decide_eq_true ⟨h5, h6⟩, Bool.true_and] at bad hg
                          show w_fine_lists_b3 _ _ _
                          unfold w_fine_lists_b3
                          try dsimp only [wSeq, wIfS, wRet, wRetN, wDrop, wAsg, wPass, wBreak, wCont, wNot, wAnd, wOr, wTru, wB, wAndV, wOrV, wNotV, wIf, wOp, wUn, wC, wVar, wNil, wCons, wTup, wLst, wCall, wCb, wChain, wO0, wO1, wApp, wTidx, wTR2, wLS, wSS, wIt, wItT, wR1, wR2, wR3, wLc, wGA, wFor, wAug, wDp, gN, gT, gsC, gs0, gIx, dNeg, dU, startD, List.getElem?_cons_zero, List.getElem?_cons_succ, List.set_cons_zero, List.set_cons_succ, keyD, wSl, wYes, dSub, dMul, dDiv, dMod, dPow, dLe, dGt, dGe, dI, dAdd, dLt, dCmp, reduceIte, Bool.false_eq_true]
                          refine ix_tup (i := 1) rfl (gaL_pure (fineM z) trivial ms (fun x hx M hM => ?_) gN_mono (tru_bl ?_))
                          · try dsimp only [wSeq, wIfS, wRet, wRetN, wDrop, wAsg, wPass, wBreak, wCont, wNot, wAnd, wOr, wTru, wB, wAndV, wOrV, wNotV, wIf, wOp, wUn, wC, wVar, wNil, wCons, wTup, wLst, wCall, wCb, wChain, wO0, wO1, wApp, wTidx, wTR2, wLS, wSS, wIt, wItT, wR1, wR2, wR3, wLc, wGA, wFor, wAug, wDp, gN, gT, gsC, gs0, gIx, dNeg, dU, startD, List.getElem?_cons_zero, List.getElem?_cons_succ, List.set_cons_zero, List.set_cons_succ, keyD, wSl, wYes, dSub, dMul, dDiv, dMod, dPow, dLe, dGt, dGe, dI, dAdd, dLt, dCmp, reduceIte, Bool.false_eq_true]
                            exact ix_tup (i := 0) rfl ⟨z, x, rfl, hz, km x hx, hM⟩
                          · try dsimp only [wSeq, wIfS, wRet, wRetN, wDrop, wAsg, wPass, wBreak, wCont, wNot, wAnd, wOr, wTru, wB, wAndV, wOrV, wNotV, wIf, wOp, wUn, wC, wVar, wNil, wCons, wTup, wLst, wCall, wCb, wChain, wO0, wO1, wApp, wTidx, wTR2, wLS, wSS, wIt, wItT, wR1, wR2, wR3, wLc, wGA, wFor, wAug, wDp, gN, gT, gsC, gs0, gIx, dNeg, dU, startD, List.getElem?_cons_zero, List.getElem?_cons_succ, List.set_cons_zero, List.set_cons_succ, keyD, wSl, wYes, dSub, dMul, dDiv, dMod, dPow, dLe, dGt, dGe, dI, dAdd, dLt, dCmp, reduceIte, Bool.false_eq_true]
                            cases ha : ms.all (fineM z) with
                            | false =>
                              rw [ha] at bad
                              exact bad rfl
                            | true =>
                              rw [ha, Bool.true_and] at bad hg
                              refine (if_neg (by simp)).mpr (ix_tup (i := 1) rfl (ls_tup (fineM_set fun m hm => List.all_eq_true.mp ha m hm) (by omega) fun n y1 y2 => ix_tup (i := 1) rfl (len_tup ?_)))
                              try dsimp only [wSeq, wIfS, wRet, wRetN, wDrop, wAsg, wPass, wBreak, wCont, wNot, wAnd, wOr, wTru, wB, wAndV, wOrV, wNotV, wIf, wOp, wUn, wC, wVar, wNil, wCons, wTup, wLst, wCall, wCb, wChain, wO0, wO1, wApp, wTidx, wTR2, wLS, wSS, wIt, wItT, wR1, wR2, wR3, wLc, wGA, wFor, wAug, wDp, gN, gT, gsC, gs0, gIx, dNeg, dU, startD, List.getElem?_cons_zero, List.getElem?_cons_succ, List.set_cons_zero, List.set_cons_succ, keyD, wSl, wYes, dSub, dMul, dDiv, dMod, dPow, dLe, dGt, dGe, dI, dAdd, dLt, dCmp, reduceIte, Bool.false_eq_true]
                              cases hd : nodupD ms with
                              | false =>
                                rw [hd] at bad y2
                                rw [decide_eq_true (by have := y2.mpr rfl; omega : (n : Int) < ms.length)]
                                exact bad rfl
                              | true =>
                                rw [hd, Bool.true_and] at hg
                                rw [hd] at y2
                                have : ¬ n < ms.length := fun z => by cases y2.mp z
                                rw [decide_eq_false (by omega : ¬ (n : Int) < ms.length)]
                                exact hN _ _ ⟨rfl, _, _, rfl, hg⟩
                        · have e6 : decide ((ms.length : Int) ≤ 60) = false := decide_eq_false (by omega)
                          rw [e6]
                          exact bad (by rw [decide_eq_false (fun z => h6 z.2)]; rfl)
                      · have e5 : decide ((1 : Int) ≤ ms.length) = false := decide_eq_false (by omega)
                        rw [e5]
                        exact bad (by rw [decide_eq_false (fun z => h5 z.1)]; rfl)
                    | _ => cases h4
                · have e3 : decide (((t_NAMES.idxOf z : Nat) : Int) ≤ last) = true := decide_eq_true (by omega)
                  rw [e3]
                  refine bad ?_
                  unfold fineGo
                  split
                  · rename_i z' ms e
                    cases e
                    rw [decide_eq_false h3]
                    simp
                  · rfl
              · rw [decide_eq_false hn]
                refine bad ?_
                unfold fineGo
                split
                · rename_i z' ms e
                  cases e
                  rw [decide_eq_false hn]
                  rfl
                · rfl
            · have e2 : ((xs.length : Int) == 2) = false := beq_eq_false_iff_ne.mpr (by omega)
              rw [e2]
              refine bad ?_
              unfold fineGo
              split
              · rename_i z' ms e
                cases e
                exact absurd rfl hl
              · rfl
          | _ => cases h1
      · obtain ⟨rfl, last, o2, rfl, hg⟩ := hI
        rw [List.drop_length] at hg
        have hg : true = fineGo (-1) ls := hg
        rw [← hg] at q
        exact rq q
    | _ => cases ht

/-! ### rule_fault -/
def faultD (z : Str) (i a l p s u n : D) : D :=
  if ¬ z ∈ t_UNITS then .str "unit" else if isIntD 1 1000 i = false then .str "interval" else if isNumD a = false then .str "anchor" else if fineLs l = false then .str "lists" else if finePl p = false then .str "places"
  else if isNonD s = false ∧ isNumD s = false then .str "since" else if isNonD u = false ∧ isNumD u = false then .str "until" else if isNonD n = false ∧ (isNonD s = true ∨ isIntD 1 1000000000 n = false) then .str "number" else .non
structure RuleOk (S : Sto) (i a l p s u n : D) : Prop where
  i : okTy S i
  a : okTy S a
  l : okLs S l
  p : okPl S p
  s : okTy S s
  u : okTy S u
  n : okTy S n
def sp_rule_fault : Spec := fun ds S Q _ => ∃ z i a l p s u n, ds = [.tup [.str z, i, a, l, p, s, u, n]] ∧ RuleOk S i a l p s u n ∧ Q (faultD z i a l p s u n) S
def N_rule_fault : List Str := ["rule", "unit", "interval", "anchor", "lists", "places", "since", "until", "number"]
def w_rule_fault_9 : WS :=
  (wRet (wC .non))
def w_rule_fault_8 : WS :=
  (wSeq (wIfS (wAnd (wB (wOp (dIs true) (wVar 8) (wC .non))) (wOr (wB (wOp (dIs false) (wVar 6) (wC .non))) (wNot (wTru (wCall sp_is_integer (wCons (wVar 8) (wCons (wC (.int 1)) (wCons (wOp dPow (wC (.int 10)) (wC (.int 9))) wNil)))))))) (wRet (wC (.str "number"))) wPass) w_rule_fault_9)
def w_rule_fault_7 : WS :=
  (wSeq (wIfS (wAnd (wB (wOp (dIs true) (wVar 7) (wC .non))) (wNot (wTru (wCall sp_is_number (wCons (wVar 7) wNil))))) (wRet (wC (.str "until"))) wPass) w_rule_fault_8)
def w_rule_fault_6 : WS :=
  (wSeq (wIfS (wAnd (wB (wOp (dIs true) (wVar 6) (wC .non))) (wNot (wTru (wCall sp_is_number (wCons (wVar 6) wNil))))) (wRet (wC (.str "since"))) wPass) w_rule_fault_7)
def w_rule_fault_5 : WS :=
  (wSeq (wIfS (wNot (wTru (wCall sp_fine_places (wCons (wVar 5) wNil)))) (wRet (wC (.str "places"))) wPass) w_rule_fault_6)
def w_rule_fault_4 : WS :=
  (wSeq (wIfS (wNot (wTru (wCall sp_fine_lists (wCons (wVar 4) wNil)))) (wRet (wC (.str "lists"))) wPass) w_rule_fault_5)
def w_rule_fault_3 : WS :=
  (wSeq (wIfS (wNot (wTru (wCall sp_is_number (wCons (wVar 3) wNil)))) (wRet (wC (.str "anchor"))) wPass) w_rule_fault_4)
def w_rule_fault_2 : WS :=
  (wSeq (wIfS (wNot (wTru (wCall sp_is_integer (wCons (wVar 2) (wCons (wC (.int 1)) (wCons (wC (.int 1000)) wNil)))))) (wRet (wC (.str "interval"))) wPass) w_rule_fault_3)
def w_rule_fault_1 : WS :=
  (wSeq (wIfS (wB (wOp (dIn true) (wVar 1) (wC (.tup (t_UNITS.map D.str))))) (wRet (wC (.str "unit"))) wPass) w_rule_fault_2)
def w_rule_fault : WS :=
  (wSeq (wAsg (wVar 0) (gT (gsC (gN 1) (gsC (gN 2) (gsC (gN 3) (gsC (gN 4) (gsC (gN 5) (gsC (gN 6) (gsC (gN 7) (gsC (gN 8) gs0)))))))))) w_rule_fault_1)
theorem p_rule_fault (ds : List D) (S : Sto) (Q : VKd) (E : XKd) (_ : wfS S) (_ : blws S.length ds = true) (h : sp_rule_fault ds S Q E) : w_rule_fault (bodyE S.length Q) (startD N_rule_fault ds) S := by
  obtain ⟨z, i, a, l, p, s, u, n, rfl, k, q⟩ := h
  show w_rule_fault (bodyE S.length Q) [some _, none, none, none, none, none, none, none, none] S
  have q := rq (n := S.length) q
  unfold w_rule_fault
  try dsimp only [wSeq, wIfS, wRet, wRetN, wDrop, wAsg, wPass, wBreak, wCont, wNot, wAnd, wOr, wTru, wB, wAndV, wOrV, wNotV, wIf, wOp, wUn, wC, wVar, wNil, wCons, wTup, wLst, wCall, wCb, wChain, wO0, wO1, wApp, wTidx, wTR2, wLS, wSS, wIt, wItT, wR1, wR2, wR3, wLc, wGA, wFor, wAug, wDp, gN, gT, gsC, gs0, gIx, dNeg, dU, startD, List.getElem?_cons_zero, List.getElem?_cons_succ, List.set_cons_zero, List.set_cons_succ, keyD, wSl, wYes, dSub, dMul, dDiv, dMod, dPow, dLe, dGt, dGe, dI, dAdd, dLt, dCmp, reduceIte, Bool.false_eq_true]
  unfold w_rule_fault_1
  try dsimp only [wSeq, wIfS, wRet, wRetN, wDrop, wAsg, wPass, wBreak, wCont, wNot, wAnd, wOr, wTru, wB, wAndV, wOrV, wNotV, wIf, wOp, wUn, wC, wVar, wNil, wCons, wTup, wLst, wCall, wCb, wChain, wO0, wO1, wApp, wTidx, wTR2, wLS, wSS, wIt, wItT, wR1, wR2, wR3, wLc, wGA, wFor, wAug, wDp, gN, gT, gsC, gs0, gIx, dNeg, dU, startD, List.getElem?_cons_zero, List.getElem?_cons_succ, List.set_cons_zero, List.set_cons_succ, keyD, wSl, wYes, dSub, dMul, dDiv, dMod, dPow, dLe, dGt, dGe, dI, dAdd, dLt, dCmp, reduceIte, Bool.false_eq_true]
  refine nin_str ?_
  try dsimp only [wSeq, wIfS, wRet, wRetN, wDrop, wAsg, wPass, wBreak, wCont, wNot, wAnd, wOr, wTru, wB, wAndV, wOrV, wNotV, wIf, wOp, wUn, wC, wVar, wNil, wCons, wTup, wLst, wCall, wCb, wChain, wO0, wO1, wApp, wTidx, wTR2, wLS, wSS, wIt, wItT, wR1, wR2, wR3, wLc, wGA, wFor, wAug, wDp, gN, gT, gsC, gs0, gIx, dNeg, dU, startD, List.getElem?_cons_zero, List.getElem?_cons_succ, List.set_cons_zero, List.set_cons_succ, keyD, wSl, wYes, dSub, dMul, dDiv, dMod, dPow, dLe, dGt, dGe, dI, dAdd, dLt, dCmp, reduceIte, Bool.false_eq_true]
  by_cases h1 : z ∈ t_UNITS
  case neg =>
    rw [decide_eq_false h1]
    rw [faultD, if_pos h1] at q
    exact q
  rw [faultD, if_neg (fun z => z h1)] at q
  rw [decide_eq_true h1]
  show w_rule_fault_2 _ _ _
  unfold w_rule_fault_2
  try dsimp only [wSeq, wIfS, wRet, wRetN, wDrop, wAsg, wPass, wBreak, wCont, wNot, wAnd, wOr, wTru, wB, wAndV, wOrV, wNotV, wIf, wOp, wUn, wC, wVar, wNil, wCons, wTup, wLst, wCall, wCb, wChain, wO0, wO1, wApp, wTidx, wTR2, wLS, wSS, wIt, wItT, wR1, wR2, wR3, wLc, wGA, wFor, wAug, wDp, gN, gT, gsC, gs0, gIx, dNeg, dU, startD, List.getElem?_cons_zero, List.getElem?_cons_succ, List.set_cons_zero, List.set_cons_succ, keyD, wSl, wYes, dSub, dMul, dDiv, dMod, dPow, dLe, dGt, dGe, dI, dAdd, dLt, dCmp, reduceIte, Bool.false_eq_true]
  refine ⟨i, 1, 1000, rfl, k.i, tru_bl ?_⟩
  cases h2 : isIntD 1 1000 i
  case false =>
    rw [h2, if_pos rfl] at q
    exact q
  rw [h2, if_neg (by simp)] at q
  show w_rule_fault_3 _ _ _
  unfold w_rule_fault_3
  try dsimp only [wSeq, wIfS, wRet, wRetN, wDrop, wAsg, wPass, wBreak, wCont, wNot, wAnd, wOr, wTru, wB, wAndV, wOrV, wNotV, wIf, wOp, wUn, wC, wVar, wNil, wCons, wTup, wLst, wCall, wCb, wChain, wO0, wO1, wApp, wTidx, wTR2, wLS, wSS, wIt, wItT, wR1, wR2, wR3, wLc, wGA, wFor, wAug, wDp, gN, gT, gsC, gs0, gIx, dNeg, dU, startD, List.getElem?_cons_zero, List.getElem?_cons_succ, List.set_cons_zero, List.set_cons_succ, keyD, wSl, wYes, dSub, dMul, dDiv, dMod, dPow, dLe, dGt, dGe, dI, dAdd, dLt, dCmp, reduceIte, Bool.false_eq_true]
  refine ⟨a, rfl, k.a, tru_bl ?_⟩
  cases h3 : isNumD a
  case false =>
    rw [h3, if_pos rfl] at q
    exact q
  rw [h3, if_neg (by simp)] at q
  show w_rule_fault_4 _ _ _
  unfold w_rule_fault_4
  try dsimp only [wSeq, wIfS, wRet, wRetN, wDrop, wAsg, wPass, wBreak, wCont, wNot, wAnd, wOr, wTru, wB, wAndV, wOrV, wNotV, wIf, wOp, wUn, wC, wVar, wNil, wCons, wTup, wLst, wCall, wCb, wChain, wO0, wO1, wApp, wTidx, wTR2, wLS, wSS, wIt, wItT, wR1, wR2, wR3, wLc, wGA, wFor, wAug, wDp, gN, gT, gsC, gs0, gIx, dNeg, dU, startD, List.getElem?_cons_zero, List.getElem?_cons_succ, List.set_cons_zero, List.set_cons_succ, keyD, wSl, wYes, dSub, dMul, dDiv, dMod, dPow, dLe, dGt, dGe, dI, dAdd, dLt, dCmp, reduceIte, Bool.false_eq_true]
  refine ⟨l, rfl, k.l, tru_bl ?_⟩
  cases h4 : fineLs l
  case false =>
    rw [h4, if_pos rfl] at q
    exact q
  rw [h4, if_neg (by simp)] at q
  show w_rule_fault_5 _ _ _
  unfold w_rule_fault_5
  try dsimp only [wSeq, wIfS, wRet, wRetN, wDrop, wAsg, wPass, wBreak, wCont, wNot, wAnd, wOr, wTru, wB, wAndV, wOrV, wNotV, wIf, wOp, wUn, wC, wVar, wNil, wCons, wTup, wLst, wCall, wCb, wChain, wO0, wO1, wApp, wTidx, wTR2, wLS, wSS, wIt, wItT, wR1, wR2, wR3, wLc, wGA, wFor, wAug, wDp, gN, gT, gsC, gs0, gIx, dNeg, dU, startD, List.getElem?_cons_zero, List.getElem?_cons_succ, List.set_cons_zero, List.set_cons_succ, keyD, wSl, wYes, dSub, dMul, dDiv, dMod, dPow, dLe, dGt, dGe, dI, dAdd, dLt, dCmp, reduceIte, Bool.false_eq_true]
  refine ⟨p, rfl, k.p, tru_bl ?_⟩
  cases h5 : finePl p
  case false =>
    rw [h5, if_pos rfl] at q
    exact q
  rw [h5, if_neg (by simp)] at q
  show w_rule_fault_6 _ _ _
  have st7 : (¬ (isNonD s = false ∧ isNumD s = false)) → w_rule_fault_7 (bodyE S.length Q) [some (D.tup [D.str z, i, a, l, p, s, u, n]), some (.str z), some i, some a, some l, some p, some s, some u, some n] S := fun h6 => by
    rw [if_neg h6] at q
    have st8 : (¬ (isNonD u = false ∧ isNumD u = false)) → w_rule_fault_8 (bodyE S.length Q) [some (D.tup [D.str z, i, a, l, p, s, u, n]), some (.str z), some i, some a, some l, some p, some s, some u, some n] S := fun h7 => by
      rw [if_neg h7] at q
      unfold w_rule_fault_8
      try dsimp only [wSeq, wIfS, wRet, wRetN, wDrop, wAsg, wPass, wBreak, wCont, wNot, wAnd, wOr, wTru, wB, wAndV, wOrV, wNotV, wIf, wOp, wUn, wC, wVar, wNil, wCons, wTup, wLst, wCall, wCb, wChain, wO0, wO1, wApp, wTidx, wTR2, wLS, wSS, wIt, wItT, wR1, wR2, wR3, wLc, wGA, wFor, wAug, wDp, gN, gT, gsC, gs0, gIx, dNeg, dU, startD, List.getElem?_cons_zero, List.getElem?_cons_succ, List.set_cons_zero, List.set_cons_succ, keyD, wSl, wYes, dSub, dMul, dDiv, dMod, dPow, dLe, dGt, dGe, dI, dAdd, dLt, dCmp, reduceIte, Bool.false_eq_true]
      show (if (if true = true then !isNonD n else isNonD n) = true then _ else _)
      cases h8 : isNonD n
      case true =>
        rw [h8, if_neg (by simp)] at q
        exact q
      rw [h8] at q
      show (if isNonD s = true then _ else _)
      cases h9 : isNonD s
      case true =>
        rw [h9, if_pos ⟨rfl, .inl rfl⟩] at q
        exact q
      rw [h9] at q
      refine ⟨(⟨by decide, by decide, by decide⟩ : CPow 10 9), n, 1, 1000000000, rfl, k.n, tru_bl ?_⟩
      cases h10 : isIntD 1 1000000000 n
      case false =>
        rw [h10, if_pos ⟨rfl, .inr rfl⟩] at q
        exact q
      rw [h10, if_neg (by simp)] at q
      exact q
    unfold w_rule_fault_7
    try dsimp only [wSeq, wIfS, wRet, wRetN, wDrop, wAsg, wPass, wBreak, wCont, wNot, wAnd, wOr, wTru, wB, wAndV, wOrV, wNotV, wIf, wOp, wUn, wC, wVar, wNil, wCons, wTup, wLst, wCall, wCb, wChain, wO0, wO1, wApp, wTidx, wTR2, wLS, wSS, wIt, wItT, wR1, wR2, wR3, wLc, wGA, wFor, wAug, wDp, gN, gT, gsC, gs0, gIx, dNeg, dU, startD, List.getElem?_cons_zero, List.getElem?_cons_succ, List.set_cons_zero, List.set_cons_succ, keyD, wSl, wYes, dSub, dMul, dDiv, dMod, dPow, dLe, dGt, dGe, dI, dAdd, dLt, dCmp, reduceIte, Bool.false_eq_true]
    show (if (if true = true then !isNonD u else isNonD u) = true then _ else _)
    cases h8 : isNonD u
    case true => exact st8 (by rw [h8]; simp)
    refine ⟨u, rfl, k.u, tru_bl ?_⟩
    cases h9 : isNumD u
    case false =>
      rw [h8, h9, if_pos ⟨rfl, rfl⟩] at q
      exact q
    exact st8 (by rw [h9]; simp)
  unfold w_rule_fault_6
  try dsimp only [wSeq, wIfS, wRet, wRetN, wDrop, wAsg, wPass, wBreak, wCont, wNot, wAnd, wOr, wTru, wB, wAndV, wOrV, wNotV, wIf, wOp, wUn, wC, wVar, wNil, wCons, wTup, wLst, wCall, wCb, wChain, wO0, wO1, wApp, wTidx, wTR2, wLS, wSS, wIt, wItT, wR1, wR2, wR3, wLc, wGA, wFor, wAug, wDp, gN, gT, gsC, gs0, gIx, dNeg, dU, startD, List.getElem?_cons_zero, List.getElem?_cons_succ, List.set_cons_zero, List.set_cons_succ, keyD, wSl, wYes, dSub, dMul, dDiv, dMod, dPow, dLe, dGt, dGe, dI, dAdd, dLt, dCmp, reduceIte, Bool.false_eq_true]
  show (if (if true = true then !isNonD s else isNonD s) = true then _ else _)
  cases h8 : isNonD s
  case true => exact st7 (by rw [h8]; simp)
  refine ⟨s, rfl, k.s, tru_bl ?_⟩
  cases h9 : isNumD s
  case false =>
    rw [h8, h9, if_pos ⟨rfl, rfl⟩] at q
    exact q
  exact st7 (by rw [h9]; simp)
end Px
/-! k16, the pure parts: the law's own defs. -/
namespace Px
open PySem PySem.Spec PyProof.Rows L2

/-! ### the draws -/
def sp__law_draws : Spec := fun ds S Q _ => ∃ cell m c : Int, ds = [.int cell, .int m, .int c] ∧ (0 < m ∧ m < 1073741824) ∧ (0 ≤ c ∧ c ≤ 1000) ∧ ∀ ns : List Int, ns.length = c.toNat → Q (.obj S.length) (S ++ [.lst (ns.map D.int)])
def N__law_draws : List Str := ["cell", "modulus", "count", "number", "row", "k", "mixed"]
def w__law_draws_c1 : WS :=
  (wAsg (wOp dDiv (wVar 3) (wVar 1)) (gN 3))
def w__law_draws_l0 : WS :=
  (wSeq (wDrop (wApp (wVar 4) (wOp dMod (wCb fInt (wCons (wVar 3) wNil)) (wVar 1)))) w__law_draws_c1)
def w__law_draws_b1 : WS :=
  (wRet (wVar 4))
def w__law_draws_d2 : WS :=
  (wDrop (wApp (wVar 4) (wOp dMod (wCb fInt (wCons (wOp dDiv (wVar 6) (wC (.int 7))) wNil)) (wVar 1))))
def w__law_draws_d1 : WS :=
  (wSeq (wAsg (wOp dMod (wCb fInt (wCons (wOp dAdd (wOp dMul (wVar 6) (wC (.int 69621))) (wOp dMul (wC (.int 31)) (wVar 5))) wNil)) (wC (.int 2147483629))) (gN 6)) w__law_draws_d2)
def w__law_draws_l1 : WS :=
  (wSeq (wAsg (wOp dMod (wCb fInt (wCons (wOp dMul (wOp dAdd (wOp dAdd (wVar 3) (wOp dMul (wC (.int 7)) (wVar 5))) (wC (.int 1))) (wC (.int 48271))) wNil)) (wC (.int 2147483647))) (gN 6)) w__law_draws_d1)
def w__law_draws_5 : WS :=
  (wRet (wVar 4))
def w__law_draws_4 : WS :=
  (wSeq (wFor (wR1 (wVar 2)) (gN 5) w__law_draws_l1) w__law_draws_5)
def w__law_draws_3 : WS :=
  (wSeq (wIfS (wB (wOp dGe (wVar 3) (wOp dPow (wC (.int 10)) (wC (.int 18))))) (wSeq (wFor (wR1 (wVar 2)) (gN 5) w__law_draws_l0) w__law_draws_b1) wPass) w__law_draws_4)
def w__law_draws_2 : WS :=
  (wSeq (wAsg (wLst wNil) (gN 4)) w__law_draws_3)
def w__law_draws_1 : WS :=
  (wSeq (wIfS (wB (wOp dLt (wVar 3) (wC (.int 0)))) (wAsg (wOp dSub (wOp dSub (wC (.int 0)) (wC (.int 1))) (wVar 3)) (gN 3)) wPass) w__law_draws_2)
def w__law_draws : WS :=
  (wSeq (wAsg (wVar 0) (gN 3)) w__law_draws_1)
theorem p__law_draws (ds : List D) (S : Sto) (Q : VKd) (E : XKd) (_ : wfS S) (_ : blws S.length ds = true) (h : sp__law_draws ds S Q E) : w__law_draws (bodyE S.length Q) (startD N__law_draws ds) S := by
  obtain ⟨cell, m, c, rfl, hm, hc, q⟩ := h
  show w__law_draws (bodyE S.length Q) [some (.int cell), some (.int m), some (.int c), none, none, none, none] S
  unfold w__law_draws
  try dsimp only [wSeq, wIfS, wRet, wRetN, wDrop, wAsg, wPass, wBreak, wCont, wNot, wAnd, wOr, wTru, wB, wAndV, wOrV, wNotV, wIf, wOp, wUn, wC, wVar, wNil, wCons, wTup, wLst, wCall, wCb, wChain, wO0, wO1, wApp, wTidx, wTR2, wLS, wSS, wIt, wItT, wR1, wR2, wR3, wLc, wGA, wFor, wAug, wDp, gN, gT, gsC, gs0, gIx, dNeg, dU, startD, List.getElem?_cons_zero, List.getElem?_cons_succ, List.set_cons_zero, List.set_cons_succ, keyD, wSl, wYes, dSub, dMul, dDiv, dMod, dPow, dLe, dGt, dGe, dI, dAdd, dLt, dCmp, reduceIte, Bool.false_eq_true]
  have key : ∀ num : Int, w__law_draws_2 (bodyE S.length Q) [some (.int cell), some (.int m), some (.int c), some (.int num), none, none, none] S := fun num => by
    have snoc : ∀ (ns : List Int) (v : Int), (ns.map D.int) ++ [D.int v] = (ns ++ [v]).map D.int := fun ns v => by rw [List.map_append]; rfl
    have lenm : ∀ ns : List Int, (ns.map D.int).length = ns.length := fun ns => List.length_map ..
    unfold w__law_draws_2
    try dsimp only [wSeq, wIfS, wRet, wRetN, wDrop, wAsg, wPass, wBreak, wCont, wNot, wAnd, wOr, wTru, wB, wAndV, wOrV, wNotV, wIf, wOp, wUn, wC, wVar, wNil, wCons, wTup, wLst, wCall, wCb, wChain, wO0, wO1, wApp, wTidx, wTR2, wLS, wSS, wIt, wItT, wR1, wR2, wR3, wLc, wGA, wFor, wAug, wDp, gN, gT, gsC, gs0, gIx, dNeg, dU, startD, List.getElem?_cons_zero, List.getElem?_cons_succ, List.set_cons_zero, List.set_cons_succ, keyD, wSl, wYes, dSub, dMul, dDiv, dMod, dPow, dLe, dGt, dGe, dI, dAdd, dLt, dCmp, reduceIte, Bool.false_eq_true]
    refine ⟨by show 0 ≤ sizeLine; decide, ?_⟩
    unfold w__law_draws_3
    try dsimp only [wSeq, wIfS, wRet, wRetN, wDrop, wAsg, wPass, wBreak, wCont, wNot, wAnd, wOr, wTru, wB, wAndV, wOrV, wNotV, wIf, wOp, wUn, wC, wVar, wNil, wCons, wTup, wLst, wCall, wCb, wChain, wO0, wO1, wApp, wTidx, wTR2, wLS, wSS, wIt, wItT, wR1, wR2, wR3, wLc, wGA, wFor, wAug, wDp, gN, gT, gsC, gs0, gIx, dNeg, dU, startD, List.getElem?_cons_zero, List.getElem?_cons_succ, List.set_cons_zero, List.set_cons_succ, keyD, wSl, wYes, dSub, dMul, dDiv, dMod, dPow, dLe, dGt, dGe, dI, dAdd, dLt, dCmp, reduceIte, Bool.false_eq_true]
    refine ⟨(⟨by decide, by decide, by decide⟩ : CPow 10 18), ?_⟩
    have size : ∀ k : Nat, k < c.toNat → k < sizeLine := fun k hk => by rw [sizeLine_eq]; omega
    by_cases hb : (1000000000000000000 : Int) ≤ num
    · rw [decide_eq_true (show ((10 : Int) ^ (Int.toNat 18)) ≤ num from hb)]
      refine ⟨trivial, (if_pos rfl).mpr ?_⟩
      refine ⟨⟨by omega, by omega⟩, ?_⟩
      refine forL_inv (fun i σ S' => ∃ (nu : Int) (k : Option D) (ns : List Int), σ = [some (.int cell), some (.int m), some (.int c), some (.int nu), some (.obj S.length), k, none] ∧ ns.length = i ∧ S' = S ++ [.lst (ns.map D.int)]) (fun _ _ _ _ _ => trivial) (fun i x σ S' N hi hN hI => ?_) (fun σ S' hI => ?_) ⟨num, none, [], rfl, rfl, rfl⟩
      · obtain ⟨nu, k, ns, rfl, hl, rfl⟩ := hI
        obtain ⟨hi2, rfl⟩ := rng_get hi
        try dsimp only [wSeq, wIfS, wRet, wRetN, wDrop, wAsg, wPass, wBreak, wCont, wNot, wAnd, wOr, wTru, wB, wAndV, wOrV, wNotV, wIf, wOp, wUn, wC, wVar, wNil, wCons, wTup, wLst, wCall, wCb, wChain, wO0, wO1, wApp, wTidx, wTR2, wLS, wSS, wIt, wItT, wR1, wR2, wR3, wLc, wGA, wFor, wAug, wDp, gN, gT, gsC, gs0, gIx, dNeg, dU, startD, List.getElem?_cons_zero, List.getElem?_cons_succ, List.set_cons_zero, List.set_cons_succ, keyD, wSl, wYes, dSub, dMul, dDiv, dMod, dPow, dLe, dGt, dGe, dI, dAdd, dLt, dCmp, reduceIte, Bool.false_eq_true]
        unfold w__law_draws_l0
        try dsimp only [wSeq, wIfS, wRet, wRetN, wDrop, wAsg, wPass, wBreak, wCont, wNot, wAnd, wOr, wTru, wB, wAndV, wOrV, wNotV, wIf, wOp, wUn, wC, wVar, wNil, wCons, wTup, wLst, wCall, wCb, wChain, wO0, wO1, wApp, wTidx, wTR2, wLS, wSS, wIt, wItT, wR1, wR2, wR3, wLc, wGA, wFor, wAug, wDp, gN, gT, gsC, gs0, gIx, dNeg, dU, startD, List.getElem?_cons_zero, List.getElem?_cons_succ, List.set_cons_zero, List.set_cons_succ, keyD, wSl, wYes, dSub, dMul, dDiv, dMod, dPow, dLe, dGt, dGe, dI, dAdd, dLt, dCmp, reduceIte, Bool.false_eq_true]
        refine ⟨⟨_, _, rfl, get_new _ _⟩, hm.1, ?_⟩
        simp only [get_new, set_new, snoc]
        refine ⟨by rw [lenm, hl]; exact size i hi2, ?_⟩
        unfold w__law_draws_c1
        try dsimp only [wSeq, wIfS, wRet, wRetN, wDrop, wAsg, wPass, wBreak, wCont, wNot, wAnd, wOr, wTru, wB, wAndV, wOrV, wNotV, wIf, wOp, wUn, wC, wVar, wNil, wCons, wTup, wLst, wCall, wCb, wChain, wO0, wO1, wApp, wTidx, wTR2, wLS, wSS, wIt, wItT, wR1, wR2, wR3, wLc, wGA, wFor, wAug, wDp, gN, gT, gsC, gs0, gIx, dNeg, dU, startD, List.getElem?_cons_zero, List.getElem?_cons_succ, List.set_cons_zero, List.set_cons_succ, keyD, wSl, wYes, dSub, dMul, dDiv, dMod, dPow, dLe, dGt, dGe, dI, dAdd, dLt, dCmp, reduceIte, Bool.false_eq_true]
        exact ⟨⟨hm.1, hm.2⟩, hN _ _ ⟨_, _, _, rfl, by rw [List.length_append, hl]; rfl, rfl⟩⟩
      · obtain ⟨nu, k, ns, rfl, hl, rfl⟩ := hI
        rw [rng_len] at hl
        unfold w__law_draws_b1
        try dsimp only [wSeq, wIfS, wRet, wRetN, wDrop, wAsg, wPass, wBreak, wCont, wNot, wAnd, wOr, wTru, wB, wAndV, wOrV, wNotV, wIf, wOp, wUn, wC, wVar, wNil, wCons, wTup, wLst, wCall, wCb, wChain, wO0, wO1, wApp, wTidx, wTR2, wLS, wSS, wIt, wItT, wR1, wR2, wR3, wLc, wGA, wFor, wAug, wDp, gN, gT, gsC, gs0, gIx, dNeg, dU, startD, List.getElem?_cons_zero, List.getElem?_cons_succ, List.set_cons_zero, List.set_cons_succ, keyD, wSl, wYes, dSub, dMul, dDiv, dMod, dPow, dLe, dGt, dGe, dI, dAdd, dLt, dCmp, reduceIte, Bool.false_eq_true]
        exact rq (q ns hl)
    · have hb2 : ¬ ((10 : Int) ^ (Int.toNat 18) ≤ num) := hb
      rw [decide_eq_false hb2]
      refine ⟨trivial, (if_neg (by simp)).mpr ?_⟩
      unfold w__law_draws_4
      try dsimp only [wSeq, wIfS, wRet, wRetN, wDrop, wAsg, wPass, wBreak, wCont, wNot, wAnd, wOr, wTru, wB, wAndV, wOrV, wNotV, wIf, wOp, wUn, wC, wVar, wNil, wCons, wTup, wLst, wCall, wCb, wChain, wO0, wO1, wApp, wTidx, wTR2, wLS, wSS, wIt, wItT, wR1, wR2, wR3, wLc, wGA, wFor, wAug, wDp, gN, gT, gsC, gs0, gIx, dNeg, dU, startD, List.getElem?_cons_zero, List.getElem?_cons_succ, List.set_cons_zero, List.set_cons_succ, keyD, wSl, wYes, dSub, dMul, dDiv, dMod, dPow, dLe, dGt, dGe, dI, dAdd, dLt, dCmp, reduceIte, Bool.false_eq_true]
      refine ⟨⟨by omega, by omega⟩, ?_⟩
      refine forL_inv (fun i σ S' => ∃ (k mx : Option D) (ns : List Int), σ = [some (.int cell), some (.int m), some (.int c), some (.int num), some (.obj S.length), k, mx] ∧ ns.length = i ∧ S' = S ++ [.lst (ns.map D.int)]) (fun _ _ _ _ _ => trivial) (fun i x σ S' N hi hN hI => ?_) (fun σ S' hI => ?_) ⟨none, none, [], rfl, rfl, rfl⟩
      · obtain ⟨k, mx, ns, rfl, hl, rfl⟩ := hI
        obtain ⟨hi2, rfl⟩ := rng_get hi
        try dsimp only [wSeq, wIfS, wRet, wRetN, wDrop, wAsg, wPass, wBreak, wCont, wNot, wAnd, wOr, wTru, wB, wAndV, wOrV, wNotV, wIf, wOp, wUn, wC, wVar, wNil, wCons, wTup, wLst, wCall, wCb, wChain, wO0, wO1, wApp, wTidx, wTR2, wLS, wSS, wIt, wItT, wR1, wR2, wR3, wLc, wGA, wFor, wAug, wDp, gN, gT, gsC, gs0, gIx, dNeg, dU, startD, List.getElem?_cons_zero, List.getElem?_cons_succ, List.set_cons_zero, List.set_cons_succ, keyD, wSl, wYes, dSub, dMul, dDiv, dMod, dPow, dLe, dGt, dGe, dI, dAdd, dLt, dCmp, reduceIte, Bool.false_eq_true]
        unfold w__law_draws_l1
        try dsimp only [wSeq, wIfS, wRet, wRetN, wDrop, wAsg, wPass, wBreak, wCont, wNot, wAnd, wOr, wTru, wB, wAndV, wOrV, wNotV, wIf, wOp, wUn, wC, wVar, wNil, wCons, wTup, wLst, wCall, wCb, wChain, wO0, wO1, wApp, wTidx, wTR2, wLS, wSS, wIt, wItT, wR1, wR2, wR3, wLc, wGA, wFor, wAug, wDp, gN, gT, gsC, gs0, gIx, dNeg, dU, startD, List.getElem?_cons_zero, List.getElem?_cons_succ, List.set_cons_zero, List.set_cons_succ, keyD, wSl, wYes, dSub, dMul, dDiv, dMod, dPow, dLe, dGt, dGe, dI, dAdd, dLt, dCmp, reduceIte, Bool.false_eq_true]
        refine ⟨.inl ⟨by decide, by decide⟩, .inr ⟨by decide, by decide⟩, by decide, ?_⟩
        unfold w__law_draws_d1
        try dsimp only [wSeq, wIfS, wRet, wRetN, wDrop, wAsg, wPass, wBreak, wCont, wNot, wAnd, wOr, wTru, wB, wAndV, wOrV, wNotV, wIf, wOp, wUn, wC, wVar, wNil, wCons, wTup, wLst, wCall, wCb, wChain, wO0, wO1, wApp, wTidx, wTR2, wLS, wSS, wIt, wItT, wR1, wR2, wR3, wLc, wGA, wFor, wAug, wDp, gN, gT, gsC, gs0, gIx, dNeg, dU, startD, List.getElem?_cons_zero, List.getElem?_cons_succ, List.set_cons_zero, List.set_cons_succ, keyD, wSl, wYes, dSub, dMul, dDiv, dMod, dPow, dLe, dGt, dGe, dI, dAdd, dLt, dCmp, reduceIte, Bool.false_eq_true]
        refine ⟨.inr ⟨by decide, by decide⟩, .inl ⟨by decide, by decide⟩, by decide, ?_⟩
        unfold w__law_draws_d2
        try dsimp only [wSeq, wIfS, wRet, wRetN, wDrop, wAsg, wPass, wBreak, wCont, wNot, wAnd, wOr, wTru, wB, wAndV, wOrV, wNotV, wIf, wOp, wUn, wC, wVar, wNil, wCons, wTup, wLst, wCall, wCb, wChain, wO0, wO1, wApp, wTidx, wTR2, wLS, wSS, wIt, wItT, wR1, wR2, wR3, wLc, wGA, wFor, wAug, wDp, gN, gT, gsC, gs0, gIx, dNeg, dU, startD, List.getElem?_cons_zero, List.getElem?_cons_succ, List.set_cons_zero, List.set_cons_succ, keyD, wSl, wYes, dSub, dMul, dDiv, dMod, dPow, dLe, dGt, dGe, dI, dAdd, dLt, dCmp, reduceIte, Bool.false_eq_true]
        refine ⟨⟨_, _, rfl, get_new _ _⟩, ⟨by decide, by decide⟩, hm.1, ?_⟩
        simp only [get_new, set_new, snoc]
        refine ⟨by rw [lenm, hl]; exact size i hi2, ?_⟩
        exact hN _ _ ⟨_, _, _, rfl, by rw [List.length_append, hl]; rfl, rfl⟩
      · obtain ⟨k, mx, ns, rfl, hl, rfl⟩ := hI
        rw [rng_len] at hl
        unfold w__law_draws_5
        try dsimp only [wSeq, wIfS, wRet, wRetN, wDrop, wAsg, wPass, wBreak, wCont, wNot, wAnd, wOr, wTru, wB, wAndV, wOrV, wNotV, wIf, wOp, wUn, wC, wVar, wNil, wCons, wTup, wLst, wCall, wCb, wChain, wO0, wO1, wApp, wTidx, wTR2, wLS, wSS, wIt, wItT, wR1, wR2, wR3, wLc, wGA, wFor, wAug, wDp, gN, gT, gsC, gs0, gIx, dNeg, dU, startD, List.getElem?_cons_zero, List.getElem?_cons_succ, List.set_cons_zero, List.set_cons_succ, keyD, wSl, wYes, dSub, dMul, dDiv, dMod, dPow, dLe, dGt, dGe, dI, dAdd, dLt, dCmp, reduceIte, Bool.false_eq_true]
        exact rq (q ns hl)
  unfold w__law_draws_1
  try dsimp only [wSeq, wIfS, wRet, wRetN, wDrop, wAsg, wPass, wBreak, wCont, wNot, wAnd, wOr, wTru, wB, wAndV, wOrV, wNotV, wIf, wOp, wUn, wC, wVar, wNil, wCons, wTup, wLst, wCall, wCb, wChain, wO0, wO1, wApp, wTidx, wTR2, wLS, wSS, wIt, wItT, wR1, wR2, wR3, wLc, wGA, wFor, wAug, wDp, gN, gT, gsC, gs0, gIx, dNeg, dU, startD, List.getElem?_cons_zero, List.getElem?_cons_succ, List.set_cons_zero, List.set_cons_succ, keyD, wSl, wYes, dSub, dMul, dDiv, dMod, dPow, dLe, dGt, dGe, dI, dAdd, dLt, dCmp, reduceIte, Bool.false_eq_true]
  by_cases h0 : cell < 0
  · rw [decide_eq_true h0]
    exact ⟨trivial, trivial, key _⟩
  · rw [decide_eq_false h0]
    exact key _

/-! ### the box -/
/-- b is a box of draws -/
def BoxAt (S : Sto) (b : Nat) : Prop := ∃ (r : Nat) (at_ : Int) (ns : List Int), S[b]? = some (.dct [(.inr "row", .obj r), (.inr "at", .int at_)]) ∧ S[r]? = some (.lst (ns.map D.int)) ∧ ns ≠ [] ∧ ns.length < 1000000 ∧ r ≠ b
theorem BoxAt.lt {S : Sto} {b : Nat} (h : BoxAt S b) : b < S.length := by
  obtain ⟨r, at_, ns, e, _⟩ := h
  exact getL_lt e
theorem BoxAt.ext {S S' : Sto} {b : Nat} (h : BoxAt S b) (e : Ext S S') : BoxAt S' b := by
  obtain ⟨r, at_, ns, h1, h2, h3⟩ := h
  exact ⟨r, at_, ns, e _ _ h1, e _ _ h2, h3⟩
theorem BoxAt.setn {S : Sto} {b n : Nat} {o : O} (h : BoxAt S b) (hb : n ≠ b) (hr : ∀ (r : Nat) (at_ : Int), S[b]? = some (.dct [(.inr "row", .obj r), (.inr "at", .int at_)]) → n ≠ r) : BoxAt (S.set n o) b := by
  obtain ⟨r, at_, ns, h1, h2, h3⟩ := h
  exact ⟨r, at_, ns, by rw [List.getElem?_set_ne hb]; exact h1, by rw [List.getElem?_set_ne (hr r at_ h1)]; exact h2, h3⟩
/-- a box stays one where an object made since is written -/
theorem BoxAt.snew {S0 S : Sto} {b n : Nat} {o : O} (h0 : BoxAt S0 b) (h : BoxAt S b) (f : Frm b S0 S) (hr : ∀ (r : Nat) (a : Int), S0[b]? = some (.dct [(.inr "row", .obj r), (.inr "at", .int a)]) → ∃ a', S[b]? = some (.dct [(.inr "row", .obj r), (.inr "at", .int a')])) (hn : S0.length ≤ n) : BoxAt (S.set n o) b := by
  obtain ⟨r, a, ns, h1, h2, h3⟩ := h0
  obtain ⟨a', e⟩ := hr r a h1
  refine h.setn (by have := getL_lt h1; omega) fun r' a'' e' => ?_
  rw [e] at e'
  injection e' with e'
  injection e' with e'
  injection e' with e1 e2
  injection e1 with e3 e4
  injection e4 with e5
  have := getL_lt h2
  omega
/-- all but the box is kept, the box is one with the same row -/
structure Bx (b : Nat) (S S' : Sto) : Prop where
  frm : Frm b S S'
  row : ∀ (r : Nat) (a : Int), S[b]? = some (.dct [(.inr "row", .obj r), (.inr "at", .int a)]) → ∃ a' : Int, S'[b]? = some (.dct [(.inr "row", .obj r), (.inr "at", .int a')])
theorem Bx.refl (b : Nat) (S : Sto) : Bx b S S := ⟨Frm.refl b S, fun _ a h => ⟨a, h⟩⟩
theorem Bx.trans {b : Nat} {S S1 S2 : Sto} (x : Bx b S S1) (y : Bx b S1 S2) : Bx b S S2 := ⟨x.frm.trans y.frm, fun r a h => by
  obtain ⟨a', e⟩ := x.row r a h
  exact y.row r a' e⟩
theorem Bx.ext {b : Nat} {S S' : Sto} (e : Ext S S') : Bx b S S' := ⟨Frm.ext e, fun _ a h => ⟨a, e _ _ h⟩⟩
theorem Bx.setn {b n : Nat} {S S' : Sto} {o : O} (f : Bx b S S') (hb : b < S.length) (h : S.length ≤ n) : Bx b S (S'.set n o) := ⟨f.frm.setn h, fun r a e => by
  obtain ⟨a', e'⟩ := f.row r a e
  exact ⟨a', by rw [List.getElem?_set_ne (by omega)]; exact e'⟩⟩
theorem Bx.box {b : Nat} {S S' : Sto} (f : Bx b S S') (h : BoxAt S b) : BoxAt S' b := by
  obtain ⟨r, a, ns, h1, h2, h3, h4, h5⟩ := h
  obtain ⟨a', e⟩ := f.row r a h1
  exact ⟨r, a', ns, e, f.frm.keep r _ h5 h2, h3, h4, h5⟩
theorem Bx.keep {b n : Nat} {S S' : Sto} {o : O} (f : Bx b S S') (hn : n ≠ b) (h : S[n]? = some o) : S'[n]? = some o := f.frm.keep n o hn h
def sp__law_next : Spec := fun ds S Q _ => ∃ (b : Nat) (m : Int), ds = [.obj b, .int m] ∧ 0 < m ∧ BoxAt S b ∧ ∀ (v : Int) S', 0 ≤ v → v < m → Bx b S S' → Q (.int v) S'
def N__law_next : List Str := ["box", "modulus", "at", "number"]
def w__law_next_3 : WS :=
  (wRet (wOp dMod (wCb fInt (wCons (wOp dAdd (wVar 3) (wOp dMul (wC (.int 7919)) (wOp dDiv (wVar 2) (wCb fLen (wCons (wOp dDg (wVar 0) (wC (.str "row"))) wNil))))) wNil)) (wVar 1)))
def w__law_next_2 : WS :=
  (wSeq (wAsg (wOp dIx (wOp dDg (wVar 0) (wC (.str "row"))) (wOp dMod (wVar 2) (wCb fLen (wCons (wOp dDg (wVar 0) (wC (.str "row"))) wNil)))) (gN 3)) w__law_next_3)
def w__law_next_1 : WS :=
  (wSeq (wDp (wVar 0) (wC (.str "at")) (wOp dAdd (wVar 2) (wC (.int 1)))) w__law_next_2)
def w__law_next : WS :=
  (wSeq (wAsg (wOp dDg (wVar 0) (wC (.str "at"))) (gN 2)) w__law_next_1)
theorem p__law_next (ds : List D) (S : Sto) (Q : VKd) (E : XKd) (_ : wfS S) (_ : blws S.length ds = true) (h : sp__law_next ds S Q E) : w__law_next (bodyE S.length Q) (startD N__law_next ds) S := by
  obtain ⟨b, m, rfl, hm, ⟨r, a, ns, h1, h2, h3, h4, h5⟩, q⟩ := h
  have hpos : 0 < ns.length := List.length_pos_iff.mpr h3
  show w__law_next (bodyE S.length Q) [some (.obj b), some (.int m), none, none] S
  unfold w__law_next
  try dsimp only [wSeq, wIfS, wRet, wRetN, wDrop, wAsg, wPass, wBreak, wCont, wNot, wAnd, wOr, wTru, wB, wAndV, wOrV, wNotV, wIf, wOp, wUn, wC, wVar, wNil, wCons, wTup, wLst, wCall, wCb, wChain, wO0, wO1, wApp, wTidx, wTR2, wLS, wSS, wIt, wItT, wR1, wR2, wR3, wLc, wGA, wFor, wAug, wDp, gN, gT, gsC, gs0, gIx, dNeg, dU, startD, List.getElem?_cons_zero, List.getElem?_cons_succ, List.set_cons_zero, List.set_cons_succ, keyD, wSl, wYes, dSub, dMul, dDiv, dMod, dPow, dLe, dGt, dGe, dI, dAdd, dLt, dCmp, reduceIte, Bool.false_eq_true]
  have lk : ∀ (S' : Sto) (k : Key) (x : D) (a' : Int) (Q' : VKd), S'[b]? = some (.dct [(.inr "row", .obj r), (.inr "at", .int a')]) → dLook [(.inr "row", .obj r), (.inr "at", .int a')] k = some x → Q' x S' → ∀ y, keyD y = some k → dDg (.obj b) y S' Q' := fun S' k x a' Q' e e2 q' y hy => by
    unfold dDg
    simp only [e, hy, e2]
    exact q'
  refine lk S (.inr "at") (.int a) a _ h1 rfl ?_ _ rfl
  unfold w__law_next_1
  try dsimp only [wSeq, wIfS, wRet, wRetN, wDrop, wAsg, wPass, wBreak, wCont, wNot, wAnd, wOr, wTru, wB, wAndV, wOrV, wNotV, wIf, wOp, wUn, wC, wVar, wNil, wCons, wTup, wLst, wCall, wCb, wChain, wO0, wO1, wApp, wTidx, wTR2, wLS, wSS, wIt, wItT, wR1, wR2, wR3, wLc, wGA, wFor, wAug, wDp, gN, gT, gsC, gs0, gIx, dNeg, dU, startD, List.getElem?_cons_zero, List.getElem?_cons_succ, List.set_cons_zero, List.set_cons_succ, keyD, wSl, wYes, dSub, dMul, dDiv, dMod, dPow, dLe, dGt, dGe, dI, dAdd, dLt, dCmp, reduceIte, Bool.false_eq_true]
  simp only [h1]
  refine ⟨by show 2 < sizeLine; decide, ?_⟩
  have g1 : (S.set b (.dct (dPut [(.inr "row", .obj r), (.inr "at", .int a)] (.inr "at") (.int (a + 1)))))[b]? = some (.dct [(.inr "row", .obj r), (.inr "at", .int (a + 1))]) := by
    rw [get_set (getL_lt h1)]
    rfl
  have g2 : (S.set b (.dct (dPut [(.inr "row", .obj r), (.inr "at", .int a)] (.inr "at") (.int (a + 1)))))[r]? = some (.lst (ns.map D.int)) := by
    rw [List.getElem?_set_ne (Ne.symm h5)]
    exact h2
  have f1 : Bx b S (S.set b (.dct (dPut [(.inr "row", .obj r), (.inr "at", .int a)] (.inr "at") (.int (a + 1))))) := ⟨Frm.setb, fun r' a' e => by
    rw [h1] at e
    injection e with e
    injection e with e
    injection e with e1 e2
    injection e1 with e3 e4
    rw [← e4]
    exact ⟨a + 1, g1⟩⟩
  generalize (S.set b (.dct (dPut [(.inr "row", .obj r), (.inr "at", .int a)] (.inr "at") (.int (a + 1))))) = S1 at g1 g2 f1
  have hlen : (ns.map D.int).length = ns.length := List.length_map ..
  unfold w__law_next_2
  try dsimp only [wSeq, wIfS, wRet, wRetN, wDrop, wAsg, wPass, wBreak, wCont, wNot, wAnd, wOr, wTru, wB, wAndV, wOrV, wNotV, wIf, wOp, wUn, wC, wVar, wNil, wCons, wTup, wLst, wCall, wCb, wChain, wO0, wO1, wApp, wTidx, wTR2, wLS, wSS, wIt, wItT, wR1, wR2, wR3, wLc, wGA, wFor, wAug, wDp, gN, gT, gsC, gs0, gIx, dNeg, dU, startD, List.getElem?_cons_zero, List.getElem?_cons_succ, List.set_cons_zero, List.set_cons_succ, keyD, wSl, wYes, dSub, dMul, dDiv, dMod, dPow, dLe, dGt, dGe, dI, dAdd, dLt, dCmp, reduceIte, Bool.false_eq_true]
  refine lk S1 (.inr "row") (.obj r) _ _ g1 rfl ?_ _ rfl
  refine lk S1 (.inr "row") (.obj r) _ _ g1 rfl ?_ _ rfl
  refine len_obj g2 ⟨by rw [hlen]; omega, ?_⟩
  have i0 : 0 ≤ a % ((ns.map D.int).length : Int) := Int.emod_nonneg _ (by rw [hlen]; omega)
  have i1 : a % ((ns.map D.int).length : Int) < ((ns.map D.int).length : Int) := Int.emod_lt_of_pos _ (by rw [hlen]; omega)
  obtain ⟨x, hx, hat⟩ := atI_int (xs := ns.map D.int) i0 i1
  rw [List.getElem?_map] at hx
  obtain ⟨nv, _, rfl⟩ := Option.map_eq_some_iff.mp hx
  refine ix_obj g2 hat ?_
  try dsimp only [wSeq, wIfS, wRet, wRetN, wDrop, wAsg, wPass, wBreak, wCont, wNot, wAnd, wOr, wTru, wB, wAndV, wOrV, wNotV, wIf, wOp, wUn, wC, wVar, wNil, wCons, wTup, wLst, wCall, wCb, wChain, wO0, wO1, wApp, wTidx, wTR2, wLS, wSS, wIt, wItT, wR1, wR2, wR3, wLc, wGA, wFor, wAug, wDp, gN, gT, gsC, gs0, gIx, dNeg, dU, startD, List.getElem?_cons_zero, List.getElem?_cons_succ, List.set_cons_zero, List.set_cons_succ, keyD, wSl, wYes, dSub, dMul, dDiv, dMod, dPow, dLe, dGt, dGe, dI, dAdd, dLt, dCmp, reduceIte, Bool.false_eq_true]
  unfold w__law_next_3
  try dsimp only [wSeq, wIfS, wRet, wRetN, wDrop, wAsg, wPass, wBreak, wCont, wNot, wAnd, wOr, wTru, wB, wAndV, wOrV, wNotV, wIf, wOp, wUn, wC, wVar, wNil, wCons, wTup, wLst, wCall, wCb, wChain, wO0, wO1, wApp, wTidx, wTR2, wLS, wSS, wIt, wItT, wR1, wR2, wR3, wLc, wGA, wFor, wAug, wDp, gN, gT, gsC, gs0, gIx, dNeg, dU, startD, List.getElem?_cons_zero, List.getElem?_cons_succ, List.set_cons_zero, List.set_cons_succ, keyD, wSl, wYes, dSub, dMul, dDiv, dMod, dPow, dLe, dGt, dGe, dI, dAdd, dLt, dCmp, reduceIte, Bool.false_eq_true]
  refine lk S1 (.inr "row") (.obj r) _ _ g1 rfl ?_ _ rfl
  refine len_obj g2 ⟨⟨by rw [hlen]; omega, by rw [hlen]; omega⟩, .inl ⟨by decide, by decide⟩, ?_⟩
  exact ⟨hm, rq (q _ _ (Int.emod_nonneg _ (by omega)) (Int.emod_lt_of_pos _ hm) f1)⟩
def sp__law_anchor : Spec := fun ds S Q _ => ∃ b : Nat, ds = [.obj b] ∧ BoxAt S b ∧ ∀ (v : Int) S', -20 ≤ v → v ≤ 20 → Bx b S S' → Q (.int v) S'
def N__law_anchor : List Str := ["box"]
def w__law_anchor : WS :=
  (wRet (wOp dSub (wCall sp__law_next (wCons (wVar 0) (wCons (wC (.int 41)) wNil))) (wC (.int 20))))
theorem p__law_anchor (ds : List D) (S : Sto) (Q : VKd) (E : XKd) (_ : wfS S) (_ : blws S.length ds = true) (h : sp__law_anchor ds S Q E) : w__law_anchor (bodyE S.length Q) (startD N__law_anchor ds) S := by
  obtain ⟨b, rfl, hb, q⟩ := h
  show w__law_anchor (bodyE S.length Q) [some (.obj b)] S
  unfold w__law_anchor
  try dsimp only [wSeq, wIfS, wRet, wRetN, wDrop, wAsg, wPass, wBreak, wCont, wNot, wAnd, wOr, wTru, wB, wAndV, wOrV, wNotV, wIf, wOp, wUn, wC, wVar, wNil, wCons, wTup, wLst, wCall, wCb, wChain, wO0, wO1, wApp, wTidx, wTR2, wLS, wSS, wIt, wItT, wR1, wR2, wR3, wLc, wGA, wFor, wAug, wDp, gN, gT, gsC, gs0, gIx, dNeg, dU, startD, List.getElem?_cons_zero, List.getElem?_cons_succ, List.set_cons_zero, List.set_cons_succ, keyD, wSl, wYes, dSub, dMul, dDiv, dMod, dPow, dLe, dGt, dGe, dI, dAdd, dLt, dCmp, reduceIte, Bool.false_eq_true]
  exact ⟨b, 41, rfl, by decide, hb, fun v S' h0 h1 f => ⟨trivial, rq (q _ _ (by omega) (by omega) f)⟩⟩
def sp__law_box : Spec := fun ds S Q _ => ∃ (d : D) (ns : List Int), ds = [d] ∧ ((d = .sll (ns.map D.int)) ∨ ∃ n, d = .obj n ∧ S[n]? = some (.lst (ns.map D.int))) ∧ ns.length ≤ 63 ∧ ∀ (b : Nat) S', Ext S S' → S.length ≤ b → BoxAt S' b → Q (.obj b) S'
def N__law_box : List Str := ["script", "row", "cell"]
def w__law_box_l0 : WS :=
  (wAsg (wOp dAdd (wVar 1) (wCall sp__law_draws (wCons (wVar 2) (wCons (wC (.int 1000003)) (wCons (wC (.int 6)) wNil))))) (gN 1))
def w__law_box_3 : WS :=
  (wRet (wDc [("row", (wVar 1)), ("at", (wC (.int 0)))]))
def w__law_box_2 : WS :=
  (wSeq (wIfS (wB (wOp (dEq false) (wCb fLen (wCons (wVar 1) wNil)) (wC (.int 0)))) (wAsg (wLst (wCons (wC (.int 11)) (wCons (wC (.int 5)) (wCons (wC (.int 2)) (wCons (wC (.int 7)) (wCons (wC (.int 31)) (wCons (wC (.int 101)) (wCons (wC (.int 997)) wNil)))))))) (gN 1)) wPass) w__law_box_3)
def w__law_box_1 : WS :=
  (wSeq (wFor (wIt (wVar 0)) (gN 2) w__law_box_l0) w__law_box_2)
def w__law_box : WS :=
  (wSeq (wAsg (wLst wNil) (gN 1)) w__law_box_1)
theorem p__law_box (ds : List D) (S : Sto) (Q : VKd) (E : XKd) (_ : wfS S) (_ : blws S.length ds = true) (h : sp__law_box ds S Q E) : w__law_box (bodyE S.length Q) (startD N__law_box ds) S := by
  obtain ⟨d, ns, rfl, hd, hl, q⟩ := h
  show w__law_box (bodyE S.length Q) [some d, none, none] S
  have lenm : ∀ ns : List Int, (ns.map D.int).length = ns.length := fun ns => List.length_map ..
  -- the end: a row of ints, some
  have fin : ∀ (S1 : Sto) (r : Nat) (c : Option D) (ms : List Int), Ext S S1 → S.length ≤ r → S1[r]? = some (.lst (ms.map D.int)) → ms ≠ [] → ms.length < 1000000 → w__law_box_3 (bodyE S.length Q) [some d, some (.obj r), c] S1 := fun S1 r c ms e hr g hne hz => by
    unfold w__law_box_3
    try dsimp only [wSeq, wIfS, wRet, wRetN, wDrop, wAsg, wPass, wBreak, wCont, wNot, wAnd, wOr, wTru, wB, wAndV, wOrV, wNotV, wIf, wOp, wUn, wC, wVar, wNil, wCons, wTup, wLst, wCall, wCb, wChain, wO0, wO1, wApp, wTidx, wTR2, wLS, wSS, wIt, wItT, wR1, wR2, wR3, wLc, wGA, wFor, wAug, wDp, gN, gT, gsC, gs0, gIx, dNeg, dU, startD, List.getElem?_cons_zero, List.getElem?_cons_succ, List.set_cons_zero, List.set_cons_succ, keyD, wSl, wYes, dSub, dMul, dDiv, dMod, dPow, dLe, dGt, dGe, dI, dAdd, dLt, dCmp, reduceIte, Bool.false_eq_true]
    show (match (S1 ++ [O.dct []])[S1.length]? with
      | some (.dct []) => _
      | _ => False)
    rw [get_new]
    refine rq (q _ _ ?_ (by have := e.len; omega) ?_)
    · exact (e.trans (Ext.app _ _)).set (by have := e.len; omega)
    · refine ⟨r, 0, ms, get_set (by simp), ?_, hne, hz, ?_⟩
      · rw [List.getElem?_set_ne (by have := getL_lt g; omega), List.getElem?_append_left (getL_lt g)]
        exact g
      · have := getL_lt g
        omega
  have rest : ∀ (S1 : Sto) (r : Nat) (c : Option D) (ms : List Int), Ext S S1 → S.length ≤ r → S1[r]? = some (.lst (ms.map D.int)) → ms.length < 1000000 → w__law_box_2 (bodyE S.length Q) [some d, some (.obj r), c] S1 := fun S1 r c ms e hr g hz => by
    unfold w__law_box_2
    try dsimp only [wSeq, wIfS, wRet, wRetN, wDrop, wAsg, wPass, wBreak, wCont, wNot, wAnd, wOr, wTru, wB, wAndV, wOrV, wNotV, wIf, wOp, wUn, wC, wVar, wNil, wCons, wTup, wLst, wCall, wCb, wChain, wO0, wO1, wApp, wTidx, wTR2, wLS, wSS, wIt, wItT, wR1, wR2, wR3, wLc, wGA, wFor, wAug, wDp, gN, gT, gsC, gs0, gIx, dNeg, dU, startD, List.getElem?_cons_zero, List.getElem?_cons_succ, List.set_cons_zero, List.set_cons_succ, keyD, wSl, wYes, dSub, dMul, dDiv, dMod, dPow, dLe, dGt, dGe, dI, dAdd, dLt, dCmp, reduceIte, Bool.false_eq_true]
    refine len_obj g (eq_int ?_)
    try dsimp only [wSeq, wIfS, wRet, wRetN, wDrop, wAsg, wPass, wBreak, wCont, wNot, wAnd, wOr, wTru, wB, wAndV, wOrV, wNotV, wIf, wOp, wUn, wC, wVar, wNil, wCons, wTup, wLst, wCall, wCb, wChain, wO0, wO1, wApp, wTidx, wTR2, wLS, wSS, wIt, wItT, wR1, wR2, wR3, wLc, wGA, wFor, wAug, wDp, gN, gT, gsC, gs0, gIx, dNeg, dU, startD, List.getElem?_cons_zero, List.getElem?_cons_succ, List.set_cons_zero, List.set_cons_succ, keyD, wSl, wYes, dSub, dMul, dDiv, dMod, dPow, dLe, dGt, dGe, dI, dAdd, dLt, dCmp, reduceIte, Bool.false_eq_true]
    by_cases h0 : ms.length = 0
    · rw [show (((ms.map D.int).length : Int) == 0) = true from beq_iff_eq.mpr (by rw [lenm]; omega)]
      refine ⟨by show 7 ≤ sizeLine; decide, ?_⟩
      exact fin (S1 ++ [.lst _]) S1.length c [11, 5, 2, 7, 31, 101, 997] (e.trans (Ext.app _ _)) e.len (get_new _ _) (by simp) (by decide)
    · rw [show (((ms.map D.int).length : Int) == 0) = false from beq_eq_false_iff_ne.mpr (by rw [lenm]; omega)]
      exact fin S1 r c ms e hr g (fun z => h0 (by rw [z]; rfl)) hz
  have loop : ∀ chk : Sto → Prop, (∀ S1, Ext S S1 → chk S1) → forL chk (gN 2) w__law_box_l0 { bodyE S.length Q with nx := w__law_box_2 (bodyE S.length Q) } (ns.map D.int) [some d, some (.obj S.length), none] (S ++ [.lst []]) := fun chk hchk => by
    refine forL_inv (fun i σ S1 => ∃ (r : Nat) (c : Option D) (ms : List Int), σ = [some d, some (.obj r), c] ∧ Ext S S1 ∧ S.length ≤ r ∧ S1[r]? = some (.lst (ms.map D.int)) ∧ ms.length = 6 * i) (fun i σ S1 _ ⟨r, c, ms, _, e, _⟩ => hchk S1 e) (fun i x σ S1 N hi hN hI => ?_) (fun σ S1 hI => ?_) ⟨S.length, none, [], rfl, Ext.app _ _, Nat.le_refl _, get_new _ _, rfl⟩
    · obtain ⟨r, c, ms, rfl, e, hr, g, hml⟩ := hI
      have hix := (List.getElem?_eq_some_iff.mp hi).1
      rw [lenm] at hix
      rw [List.getElem?_map] at hi
      obtain ⟨cell, _, rfl⟩ := Option.map_eq_some_iff.mp hi
      try dsimp only [wSeq, wIfS, wRet, wRetN, wDrop, wAsg, wPass, wBreak, wCont, wNot, wAnd, wOr, wTru, wB, wAndV, wOrV, wNotV, wIf, wOp, wUn, wC, wVar, wNil, wCons, wTup, wLst, wCall, wCb, wChain, wO0, wO1, wApp, wTidx, wTR2, wLS, wSS, wIt, wItT, wR1, wR2, wR3, wLc, wGA, wFor, wAug, wDp, gN, gT, gsC, gs0, gIx, dNeg, dU, startD, List.getElem?_cons_zero, List.getElem?_cons_succ, List.set_cons_zero, List.set_cons_succ, keyD, wSl, wYes, dSub, dMul, dDiv, dMod, dPow, dLe, dGt, dGe, dI, dAdd, dLt, dCmp, reduceIte, Bool.false_eq_true]
      unfold w__law_box_l0
      try dsimp only [wSeq, wIfS, wRet, wRetN, wDrop, wAsg, wPass, wBreak, wCont, wNot, wAnd, wOr, wTru, wB, wAndV, wOrV, wNotV, wIf, wOp, wUn, wC, wVar, wNil, wCons, wTup, wLst, wCall, wCb, wChain, wO0, wO1, wApp, wTidx, wTR2, wLS, wSS, wIt, wItT, wR1, wR2, wR3, wLc, wGA, wFor, wAug, wDp, gN, gT, gsC, gs0, gIx, dNeg, dU, startD, List.getElem?_cons_zero, List.getElem?_cons_succ, List.set_cons_zero, List.set_cons_succ, keyD, wSl, wYes, dSub, dMul, dDiv, dMod, dPow, dLe, dGt, dGe, dI, dAdd, dLt, dCmp, reduceIte, Bool.false_eq_true]
      refine ⟨cell, 1000003, 6, rfl, ⟨by decide, by decide⟩, ⟨by decide, by decide⟩, fun vs hv => ?_⟩
      have hlt := getL_lt g
      have ga : (S1 ++ [O.lst (vs.map D.int)])[r]? = some (.lst (ms.map D.int)) := by rw [List.getElem?_append_left hlt]; exact g
      simp only [ga, get_new]
      refine ⟨by rw [lenm, lenm, hv, hml, sizeLine_eq]; have : (6 : Int).toNat = 6 := rfl; omega, ?_⟩
      refine hN _ _ ⟨_, _, ms ++ vs, rfl, (e.trans (Ext.app _ _)).trans (Ext.app _ _), ?_, ?_, ?_⟩
      · have := e.len
        simp
        omega
      · rw [get_new, List.map_append]
      · rw [List.length_append, hv, hml]
        have : (6 : Int).toNat = 6 := rfl
        omega
    · obtain ⟨r, c, ms, rfl, e, hr, g, hml⟩ := hI
      rw [lenm] at hml
      exact rest S1 r c ms e hr g (by omega)
  unfold w__law_box
  try dsimp only [wSeq, wIfS, wRet, wRetN, wDrop, wAsg, wPass, wBreak, wCont, wNot, wAnd, wOr, wTru, wB, wAndV, wOrV, wNotV, wIf, wOp, wUn, wC, wVar, wNil, wCons, wTup, wLst, wCall, wCb, wChain, wO0, wO1, wApp, wTidx, wTR2, wLS, wSS, wIt, wItT, wR1, wR2, wR3, wLc, wGA, wFor, wAug, wDp, gN, gT, gsC, gs0, gIx, dNeg, dU, startD, List.getElem?_cons_zero, List.getElem?_cons_succ, List.set_cons_zero, List.set_cons_succ, keyD, wSl, wYes, dSub, dMul, dDiv, dMod, dPow, dLe, dGt, dGe, dI, dAdd, dLt, dCmp, reduceIte, Bool.false_eq_true]
  refine ⟨by show 0 ≤ sizeLine; decide, ?_⟩
  unfold w__law_box_1
  try dsimp only [wSeq, wIfS, wRet, wRetN, wDrop, wAsg, wPass, wBreak, wCont, wNot, wAnd, wOr, wTru, wB, wAndV, wOrV, wNotV, wIf, wOp, wUn, wC, wVar, wNil, wCons, wTup, wLst, wCall, wCb, wChain, wO0, wO1, wApp, wTidx, wTR2, wLS, wSS, wIt, wItT, wR1, wR2, wR3, wLc, wGA, wFor, wAug, wDp, gN, gT, gsC, gs0, gIx, dNeg, dU, startD, List.getElem?_cons_zero, List.getElem?_cons_succ, List.set_cons_zero, List.set_cons_succ, keyD, wSl, wYes, dSub, dMul, dDiv, dMod, dPow, dLe, dGt, dGe, dI, dAdd, dLt, dCmp, reduceIte, Bool.false_eq_true]
  rcases hd with rfl | ⟨n, rfl, hn⟩
  · exact loop _ fun _ _ => trivial
  · have hn2 : (S ++ [O.lst []])[n]? = some (.lst (ns.map D.int)) := by rw [List.getElem?_append_left (getL_lt hn)]; exact hn
    simp only [hn2]
    exact loop _ fun S1 e => e _ _ hn
end Px
/-! k16, the pure parts: the law's rules. -/
namespace Px
open PySem PySem.Spec PyProof.Rows L2

/-- a comprehension over a range whose elements draw from the box -/
theorem lc_draw {b k c : Nat} {e : WE} {σ : Sl} {S0 S1 : Sto} {Q : VKd} {lo : Int} (Py : D → Prop) (hb : b < S0.length) (f1 : Bx b S0 S1) (hc : c < 1000)
    (he : ∀ (x : D) S' (N : VKd), Bx b S0 S' → (∀ y S'', Py y → Bx b S' S'' → N y S'') → e ((wipeD σ [k]).set k (some x)) S' N)
    (hQ : ∀ ys S', ys.length = c → (∀ y ∈ ys, Py y) → Bx b S0 S' → S'[S1.length]? = some (.lst ys) → Q (.obj S1.length) S') :
    lcL (fun _ => True) S1.length (gN k) wYes e [k] σ Q (rng lo c 1) (S1 ++ [.lst []]) := by
  have hl1 := f1.frm.len
  refine lcL_inv (fun i S' => ∃ ys : List D, ys.length = i ∧ (∀ y ∈ ys, Py y) ∧ Bx b S0 S' ∧ S'[S1.length]? = some (.lst ys)) (fun _ _ _ _ => trivial) (fun i x S' N hi hN hI => ?_) (fun S' hI => ?_) ⟨[], rfl, fun y hy => (by cases hy), f1.trans (Bx.ext (Ext.app _ _)), get_new _ _⟩
  · obtain ⟨ys, h1, h2, h3, h4⟩ := hI
    obtain ⟨hi2, _⟩ := rng_get hi
    try dsimp only [wSeq, wIfS, wRet, wRetN, wDrop, wAsg, wPass, wBreak, wCont, wNot, wAnd, wOr, wTru, wB, wAndV, wOrV, wNotV, wIf, wOp, wUn, wC, wVar, wNil, wCons, wTup, wLst, wCall, wCb, wChain, wO0, wO1, wApp, wTidx, wTR2, wLS, wSS, wIt, wItT, wR1, wR2, wR3, wLc, wGA, wFor, wAug, wDp, gN, gT, gsC, gs0, gIx, dNeg, dU, startD, List.getElem?_cons_zero, List.getElem?_cons_succ, List.set_cons_zero, List.set_cons_succ, keyD, wSl, wYes, dSub, dMul, dDiv, dMod, dPow, dLe, dGt, dGe, dI, dAdd, dLt, dCmp, reduceIte, Bool.false_eq_true]
    show (if true = true then _ else _)
    rw [if_pos rfl]
    refine he x S' _ h3 fun y S'' hy f2 => ?_
    have h5 := f2.keep (n := S1.length) (by omega) h4
    rw [h5]
    refine ⟨by rw [h1, sizeLine_eq]; omega, hN _ ⟨ys ++ [y], by rw [List.length_append, h1]; rfl, fun z hz => ?_, (h3.trans f2).setn hb hl1, get_set (getL_lt h5)⟩⟩
    rcases List.mem_append.mp hz with hz | hz
    · exact h2 z hz
    · rw [List.mem_singleton.mp hz]; exact hy
  · obtain ⟨ys, h1, h2, h3, h4⟩ := hI
    exact hQ ys S' (by rw [h1, rng_len]) h2 h3 h4
structure MemOk (z : Str) (xs : List D) : Prop where
  lo : 1 ≤ xs.length
  hi : xs.length ≤ 60
  all : ∀ m ∈ xs, fineM z m = true
  nd : nodupD xs = true
theorem nodupD_ints {d : List Int} (h : d.Nodup) : nodupD (d.map D.int) = true := by
  unfold nodupD
  rw [ints_map]
  exact decide_eq_true h
theorem lt_nodup {d : List Int} (h : d.Pairwise (· < ·)) : d.Nodup := h.imp fun {a b} hab => Int.ne_of_lt hab
theorem all_ints {ys : List D} {P : Int → Prop} (h : ∀ y ∈ ys, ∃ i, y = .int i ∧ P i) : ∃ ns : List Int, ys = ns.map D.int ∧ ∀ i ∈ ns, P i := by
  induction ys with
  | nil => exact ⟨[], rfl, fun i hi => by cases hi⟩
  | cons y ys ih =>
    obtain ⟨i, rfl, hi⟩ := h y List.mem_cons_self
    obtain ⟨ns, e, hn⟩ := ih fun z hz => h z (List.mem_cons_of_mem _ hz)
    refine ⟨i :: ns, by rw [e]; rfl, fun j hj => ?_⟩
    rcases List.mem_cons.mp hj with z | z
    · rw [z]; exact hi
    · exact hn j z
/-- tuple(sorted(set(ints))) -/
theorem tss_ints {n : Nat} {ns : List Int} {S : Sto} {Q : VKd} (h : S[n]? = some (.lst (ns.map D.int))) (hl : ns.length < 1000) (q : ∀ (d : List Int) S', d.Pairwise (· < ·) → (∀ x, x ∈ d ↔ x ∈ ns) → d.length ≤ ns.length → Ext S S' → Q (.tup (d.map D.int)) S') :
    dSS S (.obj n) fun x S1 => fTup [x] S1 Q := by
  unfold dSS
  simp only [items, h, ints_map]
  refine ⟨hl, fun d hd hm => ?_⟩
  simp only [fTup, items, get_new]
  exact q d _ hd hm (nodup_le (lt_nodup hd) fun x hx => (hm x).mp hx) (Ext.app _ _)
theorem tups_map : ∀ ks : List (List Int), tupsI (ks.map fun k => D.tup (k.map D.int)) = some ks
  | [] => rfl
  | k :: ks => by simp [tupsI, ints_map, tups_map ks]
theorem ints_tups {k : List Int} {ks : List (List Int)} : intsD ((k :: ks).map fun k => D.tup (k.map D.int)) = none := rfl
/-- tuple(sorted(set(pairs))) -/
theorem tss_tups {n : Nat} {ks : List (List Int)} {S : Sto} {Q : VKd} (h : S[n]? = some (.lst (ks.map fun k => D.tup (k.map D.int)))) (h0 : ks ≠ []) (hl : ks.length < 64) (h2 : ∀ k ∈ ks, k.length = 2)
    (q : ∀ (d : List (List Int)) S', d.Nodup → (∀ x, x ∈ d ↔ x ∈ ks) → d.length ≤ ks.length → Ext S S' → Q (.tup (d.map fun k => D.tup (k.map D.int))) S') :
    dSS S (.obj n) fun x S1 => fTup [x] S1 Q := by
  unfold dSS
  have e : intsD (ks.map fun k => D.tup (k.map D.int)) = none := by
    cases ks with
    | nil => exact absurd rfl h0
    | cons k ks => rfl
  simp only [items, h, e, tups_map]
  refine ⟨hl, h2, fun d hd hm _ => ?_⟩
  simp only [fTup, items, get_new]
  exact q d _ hd hm (nodup_le hd fun x hx => (hm x).mp hx) (Ext.app _ _)
def sp__law_members : Spec := fun ds S Q _ => ∃ (b : Nat) (z : Str), ds = [.obj b, .str z] ∧ z ∈ t_NAMES ∧ BoxAt S b ∧ ∀ xs S', MemOk z xs → Bx b S S' → Q (.tup xs) S'
def N__law_members : List Str := ["box", "name", "row", "k"]
def w__law_members_b1 : WS :=
  (wRet (wCb fTup (wCons (wSS (wVar 2)) wNil)))
def w__law_members_2 : WS :=
  (wRet (wCb fTup (wCons (wSS (wLc (wR1 (wOp dAdd (wC (.int 1)) (wCall sp__law_next (wCons (wVar 0) (wCons (wC (.int 3)) wNil))))) (gN 3) wYes (wOp dIx (wLst (wCons (wC (.int 1)) (wCons (wC (.int 2)) (wCons (wC (.int 3)) (wCons (wC (.int 4)) (wCons (wC (.int 6)) (wCons (wC (.int 9)) (wCons (wUn dNeg (wC (.int 1))) (wCons (wUn dNeg (wC (.int 2))) (wCons (wUn dNeg (wC (.int 3))) wNil)))))))))) (wCall sp__law_next (wCons (wVar 0) (wCons (wC (.int 9)) wNil)))) [3])) wNil)))
def w__law_members_1 : WS :=
  (wSeq (wIfS (wB (wOp (dIn false) (wVar 1) (wTup (wCons (wC (.str "month weekdays")) (wCons (wC (.str "year weekdays")) wNil))))) (wSeq (wAsg (wLc (wR1 (wOp dAdd (wC (.int 1)) (wCall sp__law_next (wCons (wVar 0) (wCons (wC (.int 3)) wNil))))) (gN 3) wYes (wTup (wCons (wCall sp__law_next (wCons (wVar 0) (wCons (wC (.int 6)) wNil))) (wCons (wOp dIx (wLst (wCons (wC (.int 1)) (wCons (wC (.int 2)) (wCons (wC (.int 3)) (wCons (wUn dNeg (wC (.int 1))) (wCons (wUn dNeg (wC (.int 2))) (wCons (wC (.int 5)) wNil))))))) (wCall sp__law_next (wCons (wVar 0) (wCons (wC (.int 6)) wNil)))) wNil))) [3]) (gN 2)) w__law_members_b1) wPass) w__law_members_2)
def w__law_members : WS :=
  (wSeq (wIfS (wB (wOp (dEq false) (wVar 1) (wC (.str "weekdays")))) (wRet (wCb fTup (wCons (wSS (wLc (wR1 (wOp dAdd (wC (.int 1)) (wCall sp__law_next (wCons (wVar 0) (wCons (wC (.int 3)) wNil))))) (gN 3) wYes (wCall sp__law_next (wCons (wVar 0) (wCons (wC (.int 6)) wNil))) [3])) wNil))) wPass) w__law_members_1)
theorem nm_ok {z : Str} (h : z ∈ t_NAMES) : PyData.strOk z = true := by
  have : t_NAMES.all PyData.strOk = true := by decide +kernel
  exact List.all_eq_true.mp this z h
theorem rng_ok {v : Int} (h0 : 0 ≤ v) (h1 : v < 1000) : (-(2 ^ 62) ≤ 1 + v ∧ 1 + v < 2 ^ 62) := by omega
theorem mem_ints {z : Str} {ns d : List Int} (h0 : ns ≠ []) (hl : ns.length ≤ 60) (hf : ∀ i ∈ ns, fineM z (.int i) = true) (hd : d.Pairwise (· < ·)) (hm : ∀ x, x ∈ d ↔ x ∈ ns) (hdl : d.length ≤ ns.length) : MemOk z (d.map D.int) := by
  refine ⟨?_, by rw [List.length_map]; omega, fun m hm' => ?_, nodupD_ints (lt_nodup hd)⟩
  · rw [List.length_map]
    cases ns with
    | nil => exact absurd rfl h0
    | cons a ns => exact List.length_pos_of_mem ((hm a).mpr List.mem_cons_self)
  · obtain ⟨i, hi, rfl⟩ := List.mem_map.mp hm'
    exact hf i ((hm i).mp hi)
theorem p__law_members (ds : List D) (S : Sto) (Q : VKd) (E : XKd) (_ : wfS S) (_ : blws S.length ds = true) (h : sp__law_members ds S Q E) : w__law_members (bodyE S.length Q) (startD N__law_members ds) S := by
  obtain ⟨b, z, rfl, hz, hb, q⟩ := h
  have hbl := hb.lt
  show w__law_members (bodyE S.length Q) [some (.obj b), some (.str z), none, none] S
  have lenm : ∀ ns : List Int, (ns.map D.int).length = ns.length := fun ns => List.length_map ..
  unfold w__law_members
  try dsimp only [wSeq, wIfS, wRet, wRetN, wDrop, wAsg, wPass, wBreak, wCont, wNot, wAnd, wOr, wTru, wB, wAndV, wOrV, wNotV, wIf, wOp, wUn, wC, wVar, wNil, wCons, wTup, wLst, wCall, wCb, wChain, wO0, wO1, wApp, wTidx, wTR2, wLS, wSS, wIt, wItT, wR1, wR2, wR3, wLc, wGA, wFor, wAug, wDp, gN, gT, gsC, gs0, gIx, dNeg, dU, startD, List.getElem?_cons_zero, List.getElem?_cons_succ, List.set_cons_zero, List.set_cons_succ, keyD, wSl, wYes, dSub, dMul, dDiv, dMod, dPow, dLe, dGt, dGe, dI, dAdd, dLt, dCmp, reduceIte, Bool.false_eq_true]
  refine eq_str (nm_ok hz) sok1 ?_
  try dsimp only [wSeq, wIfS, wRet, wRetN, wDrop, wAsg, wPass, wBreak, wCont, wNot, wAnd, wOr, wTru, wB, wAndV, wOrV, wNotV, wIf, wOp, wUn, wC, wVar, wNil, wCons, wTup, wLst, wCall, wCb, wChain, wO0, wO1, wApp, wTidx, wTR2, wLS, wSS, wIt, wItT, wR1, wR2, wR3, wLc, wGA, wFor, wAug, wDp, gN, gT, gsC, gs0, gIx, dNeg, dU, startD, List.getElem?_cons_zero, List.getElem?_cons_succ, List.set_cons_zero, List.set_cons_succ, keyD, wSl, wYes, dSub, dMul, dDiv, dMod, dPow, dLe, dGt, dGe, dI, dAdd, dLt, dCmp, reduceIte, Bool.false_eq_true]
  by_cases h1 : z = ("weekdays" : Str)
  · rw [show (z == ("weekdays" : Str)) = true from beq_iff_eq.mpr h1]
    refine (if_pos rfl).mpr ⟨b, 3, rfl, by decide, hb, fun v S1 v0 v1 f1 => ⟨by omega, ?_⟩⟩
    refine lc_draw (fun y => ∃ i, y = .int i ∧ (0 ≤ i ∧ i < 6)) hbl f1 (by omega) (fun x S' N f N' => ?_) (fun ys S' hl hP f g => ?_)
    · exact ⟨b, 6, rfl, by decide, f.box hb, fun w S'' w0 w1 f2 => N' _ _ ⟨w, rfl, w0, w1⟩ f2⟩
    · obtain ⟨ns, rfl, hP2⟩ := all_ints hP
      rw [lenm] at hl
      refine tss_ints g (by omega) fun d S'' hd hm hdl e => rq (q _ _ ?_ (f.trans (Bx.ext e)))
      refine mem_ints (fun z => by rw [z] at hl; simp at hl; omega) (by omega) (fun i hi => ?_) hd hm hdl
      obtain ⟨i0, i1⟩ := hP2 i hi
      unfold fineM
      rw [if_pos h1]
      simp [isIntD]
      omega
  · rw [show (z == ("weekdays" : Str)) = false from beq_eq_false_iff_ne.mpr h1]
    refine (if_neg (by simp)).mpr ?_
    unfold w__law_members_1
    try dsimp only [wSeq, wIfS, wRet, wRetN, wDrop, wAsg, wPass, wBreak, wCont, wNot, wAnd, wOr, wTru, wB, wAndV, wOrV, wNotV, wIf, wOp, wUn, wC, wVar, wNil, wCons, wTup, wLst, wCall, wCb, wChain, wO0, wO1, wApp, wTidx, wTR2, wLS, wSS, wIt, wItT, wR1, wR2, wR3, wLc, wGA, wFor, wAug, wDp, gN, gT, gsC, gs0, gIx, dNeg, dU, startD, List.getElem?_cons_zero, List.getElem?_cons_succ, List.set_cons_zero, List.set_cons_succ, keyD, wSl, wYes, dSub, dMul, dDiv, dMod, dPow, dLe, dGt, dGe, dI, dAdd, dLt, dCmp, reduceIte, Bool.false_eq_true]
    refine ⟨by show 2 ≤ sizeLine; decide, in_str (ys := wkN) ?_⟩
    try dsimp only [wSeq, wIfS, wRet, wRetN, wDrop, wAsg, wPass, wBreak, wCont, wNot, wAnd, wOr, wTru, wB, wAndV, wOrV, wNotV, wIf, wOp, wUn, wC, wVar, wNil, wCons, wTup, wLst, wCall, wCb, wChain, wO0, wO1, wApp, wTidx, wTR2, wLS, wSS, wIt, wItT, wR1, wR2, wR3, wLc, wGA, wFor, wAug, wDp, gN, gT, gsC, gs0, gIx, dNeg, dU, startD, List.getElem?_cons_zero, List.getElem?_cons_succ, List.set_cons_zero, List.set_cons_succ, keyD, wSl, wYes, dSub, dMul, dDiv, dMod, dPow, dLe, dGt, dGe, dI, dAdd, dLt, dCmp, reduceIte, Bool.false_eq_true]
    by_cases h2 : z ∈ wkN
    · rw [decide_eq_true h2]
      refine (if_pos rfl).mpr ⟨b, 3, rfl, by decide, hb, fun v S1 v0 v1 f1 => ⟨by omega, ?_⟩⟩
      refine lc_draw (fun y => ∃ i j, y = .tup [.int i, .int j] ∧ (0 ≤ i ∧ i < 6) ∧ (j ∈ ([1, 2, 3, -1, -2, 5] : List Int))) hbl f1 (by omega) (fun x S' N f N' => ?_) (fun ys S' hl hP f g => ?_)
      · refine ⟨b, 6, rfl, by decide, f.box hb, fun w S2 w0 w1 f2 => ?_⟩
        refine ⟨by show 6 ≤ sizeLine; decide, b, 6, rfl, by decide, ((f.trans f2).trans (Bx.ext (Ext.app _ _))).box hb, fun u S3 u0 u1 f3 => ?_⟩
        obtain ⟨y, hy, hat⟩ := atI_int (xs := ([1, 2, 3, -1, -2, 5] : List Int).map D.int) u0 u1
        have hg := f3.keep (n := S2.length) (by have := f.frm.len; have := f2.frm.len; omega) (get_new S2 _)
        refine ix_obj hg hat ?_
        rw [List.getElem?_map] at hy
        obtain ⟨j, hj, rfl⟩ := Option.map_eq_some_iff.mp hy
        exact ⟨by show 2 ≤ sizeLine; decide, N' _ _ ⟨w, j, rfl, ⟨w0, w1⟩, List.mem_of_getElem? hj⟩ ((f2.trans (Bx.ext (Ext.app _ _))).trans f3)⟩
      · have key : ∃ ks : List (List Int), ys = ks.map (fun k => D.tup (k.map D.int)) ∧ ∀ k ∈ ks, ∃ i j, k = [i, j] ∧ (0 ≤ i ∧ i < 6) ∧ (j ∈ ([1, 2, 3, -1, -2, 5] : List Int)) := by
          clear g hl
          induction ys with
          | nil => exact ⟨[], rfl, fun k hk => by cases hk⟩
          | cons y ys ih =>
            obtain ⟨i, j, rfl, h⟩ := hP y List.mem_cons_self
            obtain ⟨ks, e, hk⟩ := ih fun y hy => hP y (List.mem_cons_of_mem _ hy)
            refine ⟨[i, j] :: ks, by rw [e]; rfl, fun k hk' => ?_⟩
            rcases List.mem_cons.mp hk' with z | z
            · exact ⟨i, j, z, h⟩
            · exact hk k z
        obtain ⟨ks, rfl, hk⟩ := key
        rw [List.length_map] at hl
        show w__law_members_b1 _ _ _
        unfold w__law_members_b1
        try dsimp only [wSeq, wIfS, wRet, wRetN, wDrop, wAsg, wPass, wBreak, wCont, wNot, wAnd, wOr, wTru, wB, wAndV, wOrV, wNotV, wIf, wOp, wUn, wC, wVar, wNil, wCons, wTup, wLst, wCall, wCb, wChain, wO0, wO1, wApp, wTidx, wTR2, wLS, wSS, wIt, wItT, wR1, wR2, wR3, wLc, wGA, wFor, wAug, wDp, gN, gT, gsC, gs0, gIx, dNeg, dU, startD, List.getElem?_cons_zero, List.getElem?_cons_succ, List.set_cons_zero, List.set_cons_succ, keyD, wSl, wYes, dSub, dMul, dDiv, dMod, dPow, dLe, dGt, dGe, dI, dAdd, dLt, dCmp, reduceIte, Bool.false_eq_true]
        refine tss_tups g (fun z => by rw [z] at hl; simp at hl; omega) (by omega) (fun k hk' => ?_) fun d S'' hd hm hdl e => rq (q _ _ ?_ (f.trans (Bx.ext e)))
        · obtain ⟨i, j, rfl, _⟩ := hk k hk'
          rfl
        · refine ⟨?_, by rw [List.length_map]; omega, fun m hm' => ?_, ?_⟩
          · rw [List.length_map]
            cases ks with
            | nil => simp at hl; omega
            | cons a ns => exact List.length_pos_of_mem ((hm a).mpr List.mem_cons_self)
          · obtain ⟨k, hk1, rfl⟩ := List.mem_map.mp hm'
            obtain ⟨i, j, rfl, hi, hj⟩ := hk k ((hm k).mp hk1)
            unfold fineM
            rw [if_neg h1, if_pos h2]
            have e1 : isIntD 0 13 (.int i) = true := by simp [isIntD]; omega
            have e2 : (isIntD (-400) 400 (.int j) && ne0D (.int j)) = true := by
              have : ∀ j ∈ ([1, 2, 3, -1, -2, 5] : List Int), (isIntD (-400) 400 (.int j) && ne0D (.int j)) = true := by decide
              exact this j hj
            show (isIntD 0 13 (.int i) && (isIntD (-400) 400 (.int j) && ne0D (.int j))) = true
            rw [e1, e2]
            rfl
          · unfold nodupD
            have e : intsD (d.map fun k => D.tup (k.map D.int)) = none ∨ d = [] := by
              cases d with
              | nil => exact .inr rfl
              | cons k ks => exact .inl rfl
            rcases e with e | e
            · simp only [e, tups_map]
              exact decide_eq_true hd
            · rw [e]
              rfl
    · rw [decide_eq_false h2]
      refine (if_neg (by simp)).mpr ?_
      unfold w__law_members_2
      try dsimp only [wSeq, wIfS, wRet, wRetN, wDrop, wAsg, wPass, wBreak, wCont, wNot, wAnd, wOr, wTru, wB, wAndV, wOrV, wNotV, wIf, wOp, wUn, wC, wVar, wNil, wCons, wTup, wLst, wCall, wCb, wChain, wO0, wO1, wApp, wTidx, wTR2, wLS, wSS, wIt, wItT, wR1, wR2, wR3, wLc, wGA, wFor, wAug, wDp, gN, gT, gsC, gs0, gIx, dNeg, dU, startD, List.getElem?_cons_zero, List.getElem?_cons_succ, List.set_cons_zero, List.set_cons_succ, keyD, wSl, wYes, dSub, dMul, dDiv, dMod, dPow, dLe, dGt, dGe, dI, dAdd, dLt, dCmp, reduceIte, Bool.false_eq_true]
      refine ⟨b, 3, rfl, by decide, hb, fun v S1 v0 v1 f1 => ⟨by omega, ?_⟩⟩
      refine lc_draw (fun y => ∃ i, y = .int i ∧ i ∈ ([1, 2, 3, 4, 6, 9, -1, -2, -3] : List Int)) hbl f1 (by omega) (fun x S' N f N' => ?_) (fun ys S' hl hP f g => ?_)
      · refine ⟨by show 9 ≤ sizeLine; decide, b, 9, rfl, by decide, (f.trans (Bx.ext (Ext.app _ _))).box hb, fun u S3 u0 u1 f3 => ?_⟩
        obtain ⟨y, hy, hat⟩ := atI_int (xs := ([1, 2, 3, 4, 6, 9, -1, -2, -3] : List Int).map D.int) u0 u1
        have hg := f3.keep (n := S'.length) (by have := f.frm.len; omega) (get_new S' _)
        refine ix_obj hg hat ?_
        rw [List.getElem?_map] at hy
        obtain ⟨j, hj, rfl⟩ := Option.map_eq_some_iff.mp hy
        exact N' _ _ ⟨j, rfl, List.mem_of_getElem? hj⟩ ((Bx.ext (Ext.app _ _)).trans f3)
      · obtain ⟨ns, rfl, hP2⟩ := all_ints hP
        rw [lenm] at hl
        refine tss_ints g (by omega) fun d S'' hd hm hdl e => rq (q _ _ ?_ (f.trans (Bx.ext e)))
        refine mem_ints (fun z => by rw [z] at hl; simp at hl; omega) (by omega) (fun i hi => ?_) hd hm hdl
        unfold fineM
        rw [if_neg h1, if_neg h2]
        have : ∀ j ∈ ([1, 2, 3, 4, 6, 9, -1, -2, -3] : List Int), (isIntD (-2000) 2000 (.int j) && ne0D (.int j)) = true := by decide
        exact this i (hP2 i hi)
end Px
/-! k16, the pure parts: the law's rules, made whole. -/
namespace Px
open PySem PySem.Spec PyProof.Rows L2

/-- a name stands for a written value (a step of its own: the tail is not looked into) -/
theorem st_c {d : D} {i : Nat} {u : WS} {E : WEnds} {σ : Sl} {S : Sto} (h : u E (σ.set i (some d)) S) : wSeq (wAsg (wC d) (gN i)) u E σ S := h
theorem fineM_ok {z : Str} {m : D} (S : Sto) (h : fineM z m = true) : okM S m := by
  have one : ∀ {lo hi : Int} {d : D}, isIntD lo hi d = true → okTy S d := fun h => by
    obtain ⟨i, rfl⟩ := isIntD_int h
    rfl
  unfold fineM at h
  split at h
  · obtain ⟨i, rfl⟩ := isIntD_int h
    exact ⟨rfl, trivial⟩
  · split at h
    · unfold pairM at h
      split at h
      · rename_i a b
        simp only [Bool.and_eq_true] at h
        refine ⟨rfl, fun x hx => ?_⟩
        rcases List.mem_cons.mp hx with e | hx
        · rw [e]; exact one h.1
        · rw [List.mem_singleton.mp hx]; exact one h.2.1
      · cases h
    · rw [Bool.and_eq_true] at h
      obtain ⟨i, rfl⟩ := isIntD_int h.1
      exact ⟨rfl, trivial⟩
/-- one list of a rule, fine -/
def GOne (one : D) : Prop := ∃ z ms, one = .tup [.str z, .tup ms] ∧ z ∈ t_NAMES ∧ MemOk z ms
def idxOne : D → Nat
  | .tup [.str z, _] => t_NAMES.idxOf z
  | _ => 0
theorem GOne.ok {one : D} (S : Sto) (h : GOne one) : okOne S one := by
  obtain ⟨z, ms, rfl, hz, hm⟩ := h
  refine ⟨rfl, fun xs e hl => ?_⟩
  cases e
  exact ⟨z, _, rfl, nm_ok hz, rfl, fun ms' e m hm' => by cases e; exact fineM_ok S (hm.all m hm')⟩
theorem go_of' : ∀ {ls : List D} {last : Int}, (∀ one ∈ ls, GOne one) → (ls.map idxOne).Pairwise (· < ·) → (∀ one ∈ ls, last < (idxOne one : Nat)) → fineGo last ls = true
  | [], _, _, _, _ => rfl
  | one :: ls, last, hG, hP, hL => by
    obtain ⟨z, ms, rfl, hz, hm⟩ := hG one List.mem_cons_self
    have h1 := hL _ List.mem_cons_self
    have h1 : last < (t_NAMES.idxOf z : Nat) := h1
    rw [List.map_cons, List.pairwise_cons] at hP
    have ih := go_of' (ls := ls) (last := (t_NAMES.idxOf z : Nat)) (fun o ho => hG o (List.mem_cons_of_mem _ ho)) hP.2 fun o ho => by
      have := hP.1 (idxOne o) (List.mem_map.mpr ⟨o, ho, rfl⟩)
      have : t_NAMES.idxOf z < idxOne o := this
      omega
    show (decide (z ∈ t_NAMES) && (decide (last < (t_NAMES.idxOf z : Nat)) && (decide (1 ≤ ms.length ∧ ms.length ≤ 60) && (ms.all (fineM z) && (nodupD ms && fineGo (t_NAMES.idxOf z : Nat) ls))))) = true
    rw [decide_eq_true hz, decide_eq_true h1, decide_eq_true ⟨hm.lo, hm.hi⟩, List.all_eq_true.mpr hm.all, hm.nd, ih]
    rfl
/-- what _law_rule makes -/
structure RuleG (z : Str) (i a : Int) (ls ps : List D) (s u n : D) : Prop where
  hz : z ∈ t_UNITS
  hi : 1 ≤ i ∧ i ≤ 4
  hls : ∀ one ∈ ls, GOne one
  hlp : (ls.map idxOne).Pairwise (· < ·)
  hps : finePl (.tup ps) = true ∧ ∀ p ∈ ps, ∃ j : Int, p = .int j
  hs : s = .non ∨ ∃ j : Int, s = .int j
  hu : u = .non ∨ ∃ j : Int, u = .int j
  hn : n = .non ∨ ((∃ j : Int, s = .int j) ∧ ∃ j : Int, n = .int j ∧ 1 ≤ j ∧ j ≤ 12)
def sp__law_rule : Spec := fun ds S Q _ => ∃ b : Nat, ds = [.obj b] ∧ BoxAt S b ∧ ∀ z i a ls ps s u n S', RuleG z i a ls ps s u n → Bx b S S' → Q (.tup [.str z, .int i, .int a, .tup ls, .tup ps, s, u, n]) S'
def N__law_rule : List Str := ["box", "unit", "lists", "name", "places", "since", "until", "number", "k"]
def w__law_rule_l0 : WS :=
  (wIfS (wB (wOp (dEq false) (wCall sp__law_next (wCons (wVar 0) (wCons (wC (.int 4)) wNil))) (wC (.int 0)))) (wDrop (wApp (wVar 2) (wTup (wCons (wVar 3) (wCons (wCall sp__law_members (wCons (wVar 0) (wCons (wVar 3) wNil))) wNil))))) wPass)
def w__law_rule_d1 : WS :=
  (wIfS (wB (wOp (dEq false) (wCall sp__law_next (wCons (wVar 0) (wCons (wC (.int 3)) wNil))) (wC (.int 0)))) (wAsg (wOp dAdd (wC (.int 1)) (wCall sp__law_next (wCons (wVar 0) (wCons (wC (.int 12)) wNil)))) (gN 7)) wPass)
def w__law_rule_10 : WS :=
  (wRet (wTup (wCons (wVar 1) (wCons (wOp dAdd (wC (.int 1)) (wCall sp__law_next (wCons (wVar 0) (wCons (wC (.int 4)) wNil)))) (wCons (wCall sp__law_anchor (wCons (wVar 0) wNil)) (wCons (wCb fTup (wCons (wVar 2) wNil)) (wCons (wVar 4) (wCons (wVar 5) (wCons (wVar 6) (wCons (wVar 7) wNil))))))))))
def w__law_rule_9 : WS :=
  (wSeq (wIfS (wB (wOp (dEq false) (wCall sp__law_next (wCons (wVar 0) (wCons (wC (.int 3)) wNil))) (wC (.int 0)))) (wAsg (wOp dAdd (wCall sp__law_anchor (wCons (wVar 0) wNil)) (wC (.int 20))) (gN 6)) wPass) w__law_rule_10)
def w__law_rule_8 : WS :=
  (wSeq (wIfS (wB (wOp (dEq false) (wCall sp__law_next (wCons (wVar 0) (wCons (wC (.int 2)) wNil))) (wC (.int 0)))) (wSeq (wAsg (wCall sp__law_anchor (wCons (wVar 0) wNil)) (gN 5)) w__law_rule_d1) wPass) w__law_rule_9)
def w__law_rule_7 : WS :=
  (wSeq (wAsg (wC .non) (gN 7)) w__law_rule_8)
def w__law_rule_6 : WS :=
  (wSeq (wAsg (wC .non) (gN 6)) w__law_rule_7)
def w__law_rule_5 : WS :=
  (wSeq (wAsg (wC .non) (gN 5)) w__law_rule_6)
def w__law_rule_4 : WS :=
  (wSeq (wIfS (wB (wOp (dEq false) (wCall sp__law_next (wCons (wVar 0) (wCons (wC (.int 3)) wNil))) (wC (.int 0)))) (wAsg (wCb fTup (wCons (wSS (wLc (wR1 (wOp dAdd (wC (.int 1)) (wCall sp__law_next (wCons (wVar 0) (wCons (wC (.int 2)) wNil))))) (gN 8) wYes (wOp dIx (wLst (wCons (wC (.int 1)) (wCons (wC (.int 2)) (wCons (wUn dNeg (wC (.int 1))) (wCons (wUn dNeg (wC (.int 2))) (wCons (wC (.int 3)) wNil)))))) (wCall sp__law_next (wCons (wVar 0) (wCons (wC (.int 5)) wNil)))) [8])) wNil)) (gN 4)) wPass) w__law_rule_5)
def w__law_rule_3 : WS :=
  (wSeq (wAsg (wTup wNil) (gN 4)) w__law_rule_4)
def w__law_rule_2 : WS :=
  (wSeq (wFor (wIt (wLst (wCons (wC (.str "months")) (wCons (wC (.str "days")) (wCons (wC (.str "year days")) (wCons (wC (.str "weekdays")) (wCons (wC (.str "month weekdays")) (wCons (wC (.str "year weekdays")) (wCons (wC (.str "weeks")) wNil))))))))) (gN 3) w__law_rule_l0) w__law_rule_3)
def w__law_rule_1 : WS :=
  (wSeq (wAsg (wLst wNil) (gN 2)) w__law_rule_2)
def w__law_rule : WS :=
  (wSeq (wAsg (wOp dIx (wLst (wCons (wC (.str "day")) (wCons (wC (.str "week")) (wCons (wC (.str "month")) (wCons (wC (.str "year")) wNil))))) (wCall sp__law_next (wCons (wVar 0) (wCons (wC (.int 4)) wNil)))) (gN 1)) w__law_rule_1)
theorem units_at {v : Int} (h0 : 0 ≤ v) (h1 : v < 4) : ∃ z, z ∈ t_UNITS ∧ atI [D.str "day", .str "week", .str "month", .str "year"] v = some (.str z) := by
  obtain ⟨x, hx, hat⟩ := atI_int (xs := t_UNITS.map D.str) h0 h1
  rw [List.getElem?_map] at hx
  obtain ⟨z, hz, rfl⟩ := Option.map_eq_some_iff.mp hx
  exact ⟨z, List.mem_of_getElem? hz, hat⟩
section
variable {b : Nat} {S : Sto} {Q : VKd} (hb : BoxAt S b) (q : ∀ z i a ls ps s u n S', RuleG z i a ls ps s u n → Bx b S S' → Q (.tup [.str z, .int i, .int a, .tup ls, .tup ps, s, u, n]) S')
include hb
theorem rnx {S1 : Sto} {m : Int} {R : VKd} (f : Bx b S S1) (hm : 0 < m) (k : ∀ (v : Int) S', 0 ≤ v → v < m → Bx b S S' → Bx b S1 S' → R (.int v) S') : sp__law_next [.obj b, .int m] S1 R noX := ⟨b, m, rfl, hm, f.box hb, fun v S' v0 v1 f' => k v S' v0 v1 (f.trans f') f'⟩
theorem ran {S1 : Sto} {R : VKd} (f : Bx b S S1) (k : ∀ (v : Int) S', Bx b S S' → Bx b S1 S' → R (.int v) S') : sp__law_anchor [.obj b] S1 R noX := ⟨b, rfl, f.box hb, fun v S' _ _ f' => k v S' (f.trans f') f'⟩
include q
theorem rt10 : ∀ (z : Str) (L : Nat) (ls ps : List D) (s u n : D) (c k : Option D) S', z ∈ t_UNITS → (∀ one ∈ ls, GOne one) → (ls.map idxOne).Pairwise (· < ·) → (finePl (.tup ps) = true ∧ ∀ p ∈ ps, ∃ j : Int, p = .int j) → (s = .non ∨ ∃ j, s = .int j) → (u = .non ∨ ∃ j, u = .int j) → (n = .non ∨ ((∃ j, s = .int j) ∧ ∃ j, n = .int j ∧ 1 ≤ j ∧ j ≤ 12)) →
      Bx b S S' → L ≠ b → S'[L]? = some (.lst ls) → w__law_rule_10 (bodyE S.length Q) [some (.obj b), some (.str z), some (.obj L), c, some (.tup ps), some s, some u, some n, k] S' := by
  intro z L ls ps s u n c k S' h1 h2 h3 h4 h5 h6 h7 f hL g
  have hbl := hb.lt
  unfold w__law_rule_10
  try dsimp only [wSeq, wIfS, wRet, wRetN, wDrop, wAsg, wPass, wBreak, wCont, wNot, wAnd, wOr, wTru, wB, wAndV, wOrV, wNotV, wIf, wOp, wUn, wC, wVar, wNil, wCons, wTup, wLst, wCall, wCb, wChain, wO0, wO1, wApp, wTidx, wTR2, wLS, wSS, wIt, wItT, wR1, wR2, wR3, wLc, wGA, wFor, wAug, wDp, gN, gT, gsC, gs0, gIx, dNeg, dU, startD, List.getElem?_cons_zero, List.getElem?_cons_succ, List.set_cons_zero, List.set_cons_succ, keyD, wSl, wYes, dSub, dMul, dDiv, dMod, dPow, dLe, dGt, dGe, dI, dAdd, dLt, dCmp, reduceIte, Bool.false_eq_true]
  refine rnx hb f (by decide) fun v S2 v0 v1 f2 f2' => ran hb f2 fun a S3 f3 f3' => ?_
  simp only [fTup, items, f3'.keep hL (f2'.keep hL g)]
  exact ⟨by show 8 ≤ sizeLine; decide, rq (q z _ _ ls ps s u n S3 ⟨h1, ⟨by omega, by omega⟩, h2, h3, h4, h5, h6, h7⟩ f3)⟩
theorem rt9 : ∀ (z : Str) (L : Nat) (ls ps : List D) (s n : D) (c k : Option D) S', z ∈ t_UNITS → (∀ one ∈ ls, GOne one) → (ls.map idxOne).Pairwise (· < ·) → (finePl (.tup ps) = true ∧ ∀ p ∈ ps, ∃ j : Int, p = .int j) → (s = .non ∨ ∃ j, s = .int j) → (n = .non ∨ ((∃ j, s = .int j) ∧ ∃ j, n = .int j ∧ 1 ≤ j ∧ j ≤ 12)) →
      Bx b S S' → L ≠ b → S'[L]? = some (.lst ls) → w__law_rule_9 (bodyE S.length Q) [some (.obj b), some (.str z), some (.obj L), c, some (.tup ps), some s, some .non, some n, k] S' := by
  intro z L ls ps s n c k S' h1 h2 h3 h4 h5 h7 f hL g
  have hbl := hb.lt
  unfold w__law_rule_9
  try dsimp only [wSeq, wIfS, wRet, wRetN, wDrop, wAsg, wPass, wBreak, wCont, wNot, wAnd, wOr, wTru, wB, wAndV, wOrV, wNotV, wIf, wOp, wUn, wC, wVar, wNil, wCons, wTup, wLst, wCall, wCb, wChain, wO0, wO1, wApp, wTidx, wTR2, wLS, wSS, wIt, wItT, wR1, wR2, wR3, wLc, wGA, wFor, wAug, wDp, gN, gT, gsC, gs0, gIx, dNeg, dU, startD, List.getElem?_cons_zero, List.getElem?_cons_succ, List.set_cons_zero, List.set_cons_succ, keyD, wSl, wYes, dSub, dMul, dDiv, dMod, dPow, dLe, dGt, dGe, dI, dAdd, dLt, dCmp, reduceIte, Bool.false_eq_true]
  refine rnx hb f (by decide) fun v S2 v0 v1 f2 f2' => eq_int ?_
  try dsimp only [wSeq, wIfS, wRet, wRetN, wDrop, wAsg, wPass, wBreak, wCont, wNot, wAnd, wOr, wTru, wB, wAndV, wOrV, wNotV, wIf, wOp, wUn, wC, wVar, wNil, wCons, wTup, wLst, wCall, wCb, wChain, wO0, wO1, wApp, wTidx, wTR2, wLS, wSS, wIt, wItT, wR1, wR2, wR3, wLc, wGA, wFor, wAug, wDp, gN, gT, gsC, gs0, gIx, dNeg, dU, startD, List.getElem?_cons_zero, List.getElem?_cons_succ, List.set_cons_zero, List.set_cons_succ, keyD, wSl, wYes, dSub, dMul, dDiv, dMod, dPow, dLe, dGt, dGe, dI, dAdd, dLt, dCmp, reduceIte, Bool.false_eq_true]
  by_cases hv : v = 0
  · rw [show (v == 0) = true from beq_iff_eq.mpr hv]
    refine (if_pos rfl).mpr (ran hb f2 fun a S3 f3 f3' => ?_)
    exact rt10 hb q z L ls ps s _ n c k S3 h1 h2 h3 h4 h5 (.inr ⟨_, rfl⟩) h7 f3 hL (f3'.keep hL (f2'.keep hL g))
  · rw [show (v == 0) = false from beq_eq_false_iff_ne.mpr hv]
    exact (if_neg (by simp)).mpr (rt10 hb q z L ls ps s _ n c k S2 h1 h2 h3 h4 h5 (.inl rfl) h7 f2 hL (f2'.keep hL g))
theorem rt8 : ∀ (z : Str) (L : Nat) (ls ps : List D) (c k : Option D) S', z ∈ t_UNITS → (∀ one ∈ ls, GOne one) → (ls.map idxOne).Pairwise (· < ·) → (finePl (.tup ps) = true ∧ ∀ p ∈ ps, ∃ j : Int, p = .int j) →
      Bx b S S' → L ≠ b → S'[L]? = some (.lst ls) → w__law_rule_8 (bodyE S.length Q) [some (.obj b), some (.str z), some (.obj L), c, some (.tup ps), some .non, some .non, some .non, k] S' := by
  intro z L ls ps c k S' h1 h2 h3 h4 f hL g
  have hbl := hb.lt
  unfold w__law_rule_8
  try dsimp only [wSeq, wIfS, wRet, wRetN, wDrop, wAsg, wPass, wBreak, wCont, wNot, wAnd, wOr, wTru, wB, wAndV, wOrV, wNotV, wIf, wOp, wUn, wC, wVar, wNil, wCons, wTup, wLst, wCall, wCb, wChain, wO0, wO1, wApp, wTidx, wTR2, wLS, wSS, wIt, wItT, wR1, wR2, wR3, wLc, wGA, wFor, wAug, wDp, gN, gT, gsC, gs0, gIx, dNeg, dU, startD, List.getElem?_cons_zero, List.getElem?_cons_succ, List.set_cons_zero, List.set_cons_succ, keyD, wSl, wYes, dSub, dMul, dDiv, dMod, dPow, dLe, dGt, dGe, dI, dAdd, dLt, dCmp, reduceIte, Bool.false_eq_true]
  refine rnx hb f (by decide) fun v S2 v0 v1 f2 f2' => eq_int ?_
  try dsimp only [wSeq, wIfS, wRet, wRetN, wDrop, wAsg, wPass, wBreak, wCont, wNot, wAnd, wOr, wTru, wB, wAndV, wOrV, wNotV, wIf, wOp, wUn, wC, wVar, wNil, wCons, wTup, wLst, wCall, wCb, wChain, wO0, wO1, wApp, wTidx, wTR2, wLS, wSS, wIt, wItT, wR1, wR2, wR3, wLc, wGA, wFor, wAug, wDp, gN, gT, gsC, gs0, gIx, dNeg, dU, startD, List.getElem?_cons_zero, List.getElem?_cons_succ, List.set_cons_zero, List.set_cons_succ, keyD, wSl, wYes, dSub, dMul, dDiv, dMod, dPow, dLe, dGt, dGe, dI, dAdd, dLt, dCmp, reduceIte, Bool.false_eq_true]
  by_cases hv : v = 0
  · rw [show (v == 0) = true from beq_iff_eq.mpr hv]
    refine (if_pos rfl).mpr (ran hb f2 fun a S3 f3 f3' => ?_)
    unfold w__law_rule_d1
    try dsimp only [wSeq, wIfS, wRet, wRetN, wDrop, wAsg, wPass, wBreak, wCont, wNot, wAnd, wOr, wTru, wB, wAndV, wOrV, wNotV, wIf, wOp, wUn, wC, wVar, wNil, wCons, wTup, wLst, wCall, wCb, wChain, wO0, wO1, wApp, wTidx, wTR2, wLS, wSS, wIt, wItT, wR1, wR2, wR3, wLc, wGA, wFor, wAug, wDp, gN, gT, gsC, gs0, gIx, dNeg, dU, startD, List.getElem?_cons_zero, List.getElem?_cons_succ, List.set_cons_zero, List.set_cons_succ, keyD, wSl, wYes, dSub, dMul, dDiv, dMod, dPow, dLe, dGt, dGe, dI, dAdd, dLt, dCmp, reduceIte, Bool.false_eq_true]
    refine rnx hb f3 (by decide) fun w S4 w0 w1 f4 f4' => eq_int ?_
    try dsimp only [wSeq, wIfS, wRet, wRetN, wDrop, wAsg, wPass, wBreak, wCont, wNot, wAnd, wOr, wTru, wB, wAndV, wOrV, wNotV, wIf, wOp, wUn, wC, wVar, wNil, wCons, wTup, wLst, wCall, wCb, wChain, wO0, wO1, wApp, wTidx, wTR2, wLS, wSS, wIt, wItT, wR1, wR2, wR3, wLc, wGA, wFor, wAug, wDp, gN, gT, gsC, gs0, gIx, dNeg, dU, startD, List.getElem?_cons_zero, List.getElem?_cons_succ, List.set_cons_zero, List.set_cons_succ, keyD, wSl, wYes, dSub, dMul, dDiv, dMod, dPow, dLe, dGt, dGe, dI, dAdd, dLt, dCmp, reduceIte, Bool.false_eq_true]
    by_cases hw : w = 0
    · rw [show (w == 0) = true from beq_iff_eq.mpr hw]
      refine (if_pos rfl).mpr (rnx hb f4 (by decide) fun x S5 x0 x1 f5 f5' => ?_)
      exact rt9 hb q z L ls ps _ _ c k S5 h1 h2 h3 h4 (.inr ⟨_, rfl⟩) (.inr ⟨⟨_, rfl⟩, _, rfl, by omega, by omega⟩) f5 hL (f5'.keep hL (f4'.keep hL (f3'.keep hL (f2'.keep hL g))))
    · rw [show (w == 0) = false from beq_eq_false_iff_ne.mpr hw]
      exact (if_neg (by simp)).mpr (rt9 hb q z L ls ps _ _ c k S4 h1 h2 h3 h4 (.inr ⟨_, rfl⟩) (.inl rfl) f4 hL (f4'.keep hL (f3'.keep hL (f2'.keep hL g))))
  · rw [show (v == 0) = false from beq_eq_false_iff_ne.mpr hv]
    exact (if_neg (by simp)).mpr (rt9 hb q z L ls ps _ _ c k S2 h1 h2 h3 h4 (.inl rfl) (.inl rfl) f2 hL (f2'.keep hL g))
theorem rt5 : ∀ (z : Str) (L : Nat) (ls ps : List D) (c k : Option D) S', z ∈ t_UNITS → (∀ one ∈ ls, GOne one) → (ls.map idxOne).Pairwise (· < ·) → (finePl (.tup ps) = true ∧ ∀ p ∈ ps, ∃ j : Int, p = .int j) →
      Bx b S S' → L ≠ b → S'[L]? = some (.lst ls) → w__law_rule_5 (bodyE S.length Q) [some (.obj b), some (.str z), some (.obj L), c, some (.tup ps), none, none, none, k] S' := by
  intro z L ls ps c k S' h1 h2 h3 h4 f hL g
  have hbl := hb.lt
  unfold w__law_rule_5
  refine st_c ?_
  show w__law_rule_6 _ [some (.obj b), some (.str z), some (.obj L), c, some (.tup ps), some .non, none, none, k] _
  unfold w__law_rule_6
  refine st_c ?_
  show w__law_rule_7 _ [some (.obj b), some (.str z), some (.obj L), c, some (.tup ps), some .non, some .non, none, k] _
  unfold w__law_rule_7
  refine st_c ?_
  show w__law_rule_8 _ [some (.obj b), some (.str z), some (.obj L), c, some (.tup ps), some .non, some .non, some .non, k] _
  exact rt8 hb q z L ls ps c k S' h1 h2 h3 h4 f hL g
theorem rt3 : ∀ (z : Str) (L : Nat) (ls : List D) (c : Option D) S', z ∈ t_UNITS → (∀ one ∈ ls, GOne one) → (ls.map idxOne).Pairwise (· < ·) →
      Bx b S S' → L ≠ b → S'[L]? = some (.lst ls) → w__law_rule_3 (bodyE S.length Q) [some (.obj b), some (.str z), some (.obj L), c, none, none, none, none, none] S' := by
  intro z L ls c S' h1 h2 h3 f hL g
  have hbl := hb.lt
  have lenm : ∀ ns : List Int, (ns.map D.int).length = ns.length := fun ns => List.length_map ..
  unfold w__law_rule_3
  try dsimp only [wSeq, wIfS, wRet, wRetN, wDrop, wAsg, wPass, wBreak, wCont, wNot, wAnd, wOr, wTru, wB, wAndV, wOrV, wNotV, wIf, wOp, wUn, wC, wVar, wNil, wCons, wTup, wLst, wCall, wCb, wChain, wO0, wO1, wApp, wTidx, wTR2, wLS, wSS, wIt, wItT, wR1, wR2, wR3, wLc, wGA, wFor, wAug, wDp, gN, gT, gsC, gs0, gIx, dNeg, dU, startD, List.getElem?_cons_zero, List.getElem?_cons_succ, List.set_cons_zero, List.set_cons_succ, keyD, wSl, wYes, dSub, dMul, dDiv, dMod, dPow, dLe, dGt, dGe, dI, dAdd, dLt, dCmp, reduceIte, Bool.false_eq_true]
  refine ⟨by show 0 ≤ sizeLine; decide, ?_⟩
  unfold w__law_rule_4
  try dsimp only [wSeq, wIfS, wRet, wRetN, wDrop, wAsg, wPass, wBreak, wCont, wNot, wAnd, wOr, wTru, wB, wAndV, wOrV, wNotV, wIf, wOp, wUn, wC, wVar, wNil, wCons, wTup, wLst, wCall, wCb, wChain, wO0, wO1, wApp, wTidx, wTR2, wLS, wSS, wIt, wItT, wR1, wR2, wR3, wLc, wGA, wFor, wAug, wDp, gN, gT, gsC, gs0, gIx, dNeg, dU, startD, List.getElem?_cons_zero, List.getElem?_cons_succ, List.set_cons_zero, List.set_cons_succ, keyD, wSl, wYes, dSub, dMul, dDiv, dMod, dPow, dLe, dGt, dGe, dI, dAdd, dLt, dCmp, reduceIte, Bool.false_eq_true]
  refine rnx hb f (by decide) fun v S2 v0 v1 f2 f2' => eq_int ?_
  try dsimp only [wSeq, wIfS, wRet, wRetN, wDrop, wAsg, wPass, wBreak, wCont, wNot, wAnd, wOr, wTru, wB, wAndV, wOrV, wNotV, wIf, wOp, wUn, wC, wVar, wNil, wCons, wTup, wLst, wCall, wCb, wChain, wO0, wO1, wApp, wTidx, wTR2, wLS, wSS, wIt, wItT, wR1, wR2, wR3, wLc, wGA, wFor, wAug, wDp, gN, gT, gsC, gs0, gIx, dNeg, dU, startD, List.getElem?_cons_zero, List.getElem?_cons_succ, List.set_cons_zero, List.set_cons_succ, keyD, wSl, wYes, dSub, dMul, dDiv, dMod, dPow, dLe, dGt, dGe, dI, dAdd, dLt, dCmp, reduceIte, Bool.false_eq_true]
  have g2 := f2'.keep hL g
  by_cases hv : v = 0
  · rw [show (v == 0) = true from beq_iff_eq.mpr hv]
    refine (if_pos rfl).mpr (rnx hb f2 (by decide) fun w S3 w0 w1 f3 f3' => ⟨by omega, ?_⟩)
    refine lc_draw (S0 := S2) (fun y => ∃ i, y = .int i ∧ i ∈ ([1, 2, -1, -2, 3] : List Int)) (by have := f2.frm.len; omega) f3' (by omega) (fun x S' N f N' => ?_) (fun ys S' hl hP f g' => ?_)
    · refine ⟨by show 5 ≤ sizeLine; decide, b, 5, rfl, by decide, ((f2.trans f).trans (Bx.ext (Ext.app _ _))).box hb, fun u S4 u0 u1 f4 => ?_⟩
      obtain ⟨y, hy, hat⟩ := atI_int (xs := ([1, 2, -1, -2, 3] : List Int).map D.int) u0 u1
      have hg := f4.keep (n := S'.length) (by have := (f2.trans f).frm.len; omega) (get_new S' _)
      refine ix_obj hg hat ?_
      rw [List.getElem?_map] at hy
      obtain ⟨j, hj, rfl⟩ := Option.map_eq_some_iff.mp hy
      exact N' _ _ ⟨j, rfl, List.mem_of_getElem? hj⟩ ((Bx.ext (Ext.app _ _)).trans f4)
    · obtain ⟨ns, rfl, hP2⟩ := all_ints hP
      rw [lenm] at hl
      refine tss_ints g' (by omega) fun d S'' hd hm hdl e => ?_
      refine rt5 hb q z L ls (d.map D.int) c none S'' h1 h2 h3 ⟨?_, fun p hp => ?_⟩ ((f2.trans f).trans (Bx.ext e)) hL (e _ _ (f.keep hL g2))
      · show (decide ((d.map D.int).length ≤ 12) && ((d.map D.int).all plM && nodupD (d.map D.int))) = true
        rw [nodupD_ints (lt_nodup hd), decide_eq_true (by rw [lenm]; omega)]
        have : (d.map D.int).all plM = true := by
          rw [List.all_map]
          refine List.all_eq_true.mpr fun i hi => ?_
          have : ∀ j ∈ ([1, 2, -1, -2, 3] : List Int), plM (.int j) = true := by decide
          exact this i (hP2 i ((hm i).mp hi))
        rw [this]
        rfl
      · obtain ⟨j, _, rfl⟩ := List.mem_map.mp hp
        exact ⟨j, rfl⟩
  · rw [show (v == 0) = false from beq_eq_false_iff_ne.mpr hv]
    exact (if_neg (by simp)).mpr (rt5 hb q z L ls [] c none S2 h1 h2 h3 ⟨by decide, fun p hp => by cases hp⟩ f2 hL g2)
end
theorem p__law_rule (ds : List D) (S : Sto) (Q : VKd) (E : XKd) (_ : wfS S) (_ : blws S.length ds = true) (h : sp__law_rule ds S Q E) : w__law_rule (bodyE S.length Q) (startD N__law_rule ds) S := by
  obtain ⟨b, rfl, hb, q⟩ := h
  have hbl := hb.lt
  show w__law_rule (bodyE S.length Q) [some (.obj b), none, none, none, none, none, none, none, none] S
  have lenm : ∀ ns : List Int, (ns.map D.int).length = ns.length := fun ns => List.length_map ..
  unfold w__law_rule
  try dsimp only [wSeq, wIfS, wRet, wRetN, wDrop, wAsg, wPass, wBreak, wCont, wNot, wAnd, wOr, wTru, wB, wAndV, wOrV, wNotV, wIf, wOp, wUn, wC, wVar, wNil, wCons, wTup, wLst, wCall, wCb, wChain, wO0, wO1, wApp, wTidx, wTR2, wLS, wSS, wIt, wItT, wR1, wR2, wR3, wLc, wGA, wFor, wAug, wDp, gN, gT, gsC, gs0, gIx, dNeg, dU, startD, List.getElem?_cons_zero, List.getElem?_cons_succ, List.set_cons_zero, List.set_cons_succ, keyD, wSl, wYes, dSub, dMul, dDiv, dMod, dPow, dLe, dGt, dGe, dI, dAdd, dLt, dCmp, reduceIte, Bool.false_eq_true]
  refine ⟨by show 4 ≤ sizeLine; decide, rnx hb (Bx.ext (Ext.app _ _)) (by decide) fun v S1 v0 v1 f1 f1' => ?_⟩
  obtain ⟨z, hz, hat⟩ := units_at v0 v1
  refine ix_obj (f1'.keep (n := S.length) (by omega) (get_new S _)) hat ?_
  try dsimp only [wSeq, wIfS, wRet, wRetN, wDrop, wAsg, wPass, wBreak, wCont, wNot, wAnd, wOr, wTru, wB, wAndV, wOrV, wNotV, wIf, wOp, wUn, wC, wVar, wNil, wCons, wTup, wLst, wCall, wCb, wChain, wO0, wO1, wApp, wTidx, wTR2, wLS, wSS, wIt, wItT, wR1, wR2, wR3, wLc, wGA, wFor, wAug, wDp, gN, gT, gsC, gs0, gIx, dNeg, dU, startD, List.getElem?_cons_zero, List.getElem?_cons_succ, List.set_cons_zero, List.set_cons_succ, keyD, wSl, wYes, dSub, dMul, dDiv, dMod, dPow, dLe, dGt, dGe, dI, dAdd, dLt, dCmp, reduceIte, Bool.false_eq_true]
  unfold w__law_rule_1
  try dsimp only [wSeq, wIfS, wRet, wRetN, wDrop, wAsg, wPass, wBreak, wCont, wNot, wAnd, wOr, wTru, wB, wAndV, wOrV, wNotV, wIf, wOp, wUn, wC, wVar, wNil, wCons, wTup, wLst, wCall, wCb, wChain, wO0, wO1, wApp, wTidx, wTR2, wLS, wSS, wIt, wItT, wR1, wR2, wR3, wLc, wGA, wFor, wAug, wDp, gN, gT, gsC, gs0, gIx, dNeg, dU, startD, List.getElem?_cons_zero, List.getElem?_cons_succ, List.set_cons_zero, List.set_cons_succ, keyD, wSl, wYes, dSub, dMul, dDiv, dMod, dPow, dLe, dGt, dGe, dI, dAdd, dLt, dCmp, reduceIte, Bool.false_eq_true]
  refine ⟨by show 0 ≤ sizeLine; decide, ?_⟩
  unfold w__law_rule_2
  try dsimp only [wSeq, wIfS, wRet, wRetN, wDrop, wAsg, wPass, wBreak, wCont, wNot, wAnd, wOr, wTru, wB, wAndV, wOrV, wNotV, wIf, wOp, wUn, wC, wVar, wNil, wCons, wTup, wLst, wCall, wCb, wChain, wO0, wO1, wApp, wTidx, wTR2, wLS, wSS, wIt, wItT, wR1, wR2, wR3, wLc, wGA, wFor, wAug, wDp, gN, gT, gsC, gs0, gIx, dNeg, dU, startD, List.getElem?_cons_zero, List.getElem?_cons_succ, List.set_cons_zero, List.set_cons_succ, keyD, wSl, wYes, dSub, dMul, dDiv, dMod, dPow, dLe, dGt, dGe, dI, dAdd, dLt, dCmp, reduceIte, Bool.false_eq_true]
  refine ⟨by show 7 ≤ sizeLine; decide, ?_⟩
  have hl1 := f1.frm.len
  simp only [get_new]
  have gL : ((S1 ++ [O.lst []]) ++ [O.lst (t_NAMES.map D.str)])[S1.length]? = some (.lst []) := by rw [List.getElem?_append_left (by simp)]; exact get_new _ _
  have fN : Bx b S ((S1 ++ [O.lst []]) ++ [O.lst (t_NAMES.map D.str)]) := (f1.trans (Bx.ext (Ext.app _ _))).trans (Bx.ext (Ext.app _ _))
  have hnn : (S1 ++ [O.lst []]).length = S1.length + 1 := by simp
  refine forL_inv (xs := t_NAMES.map D.str) (fun i σ S' => ∃ (c : Option D) (ls : List D), σ = [some (.obj b), some (.str z), some (.obj S1.length), c, none, none, none, none, none] ∧ Bx b S S' ∧ S'[S1.length]? = some (.lst ls) ∧ S'[(S1 ++ [O.lst []]).length]? = some (.lst (t_NAMES.map D.str)) ∧ (∀ one ∈ ls, GOne one ∧ idxOne one < i) ∧ (ls.map idxOne).Pairwise (· < ·))
    (fun i σ S' _ ⟨_, _, _, _, _, hh, _⟩ => hh) (fun i x σ S' N hi hN hI => ?_) (fun σ S' hI => ?_) ⟨none, [], rfl, fN, gL, get_new _ _, fun one h => (by cases h), List.Pairwise.nil⟩
  · obtain ⟨c, ls, rfl, f, g, g2, hG, hP⟩ := hI
    rw [List.getElem?_map] at hi
    obtain ⟨nm, hnm, rfl⟩ := Option.map_eq_some_iff.mp hi
    try dsimp only [wSeq, wIfS, wRet, wRetN, wDrop, wAsg, wPass, wBreak, wCont, wNot, wAnd, wOr, wTru, wB, wAndV, wOrV, wNotV, wIf, wOp, wUn, wC, wVar, wNil, wCons, wTup, wLst, wCall, wCb, wChain, wO0, wO1, wApp, wTidx, wTR2, wLS, wSS, wIt, wItT, wR1, wR2, wR3, wLc, wGA, wFor, wAug, wDp, gN, gT, gsC, gs0, gIx, dNeg, dU, startD, List.getElem?_cons_zero, List.getElem?_cons_succ, List.set_cons_zero, List.set_cons_succ, keyD, wSl, wYes, dSub, dMul, dDiv, dMod, dPow, dLe, dGt, dGe, dI, dAdd, dLt, dCmp, reduceIte, Bool.false_eq_true]
    unfold w__law_rule_l0
    try dsimp only [wSeq, wIfS, wRet, wRetN, wDrop, wAsg, wPass, wBreak, wCont, wNot, wAnd, wOr, wTru, wB, wAndV, wOrV, wNotV, wIf, wOp, wUn, wC, wVar, wNil, wCons, wTup, wLst, wCall, wCb, wChain, wO0, wO1, wApp, wTidx, wTR2, wLS, wSS, wIt, wItT, wR1, wR2, wR3, wLc, wGA, wFor, wAug, wDp, gN, gT, gsC, gs0, gIx, dNeg, dU, startD, List.getElem?_cons_zero, List.getElem?_cons_succ, List.set_cons_zero, List.set_cons_succ, keyD, wSl, wYes, dSub, dMul, dDiv, dMod, dPow, dLe, dGt, dGe, dI, dAdd, dLt, dCmp, reduceIte, Bool.false_eq_true]
    refine rnx hb f (by decide) fun v S2 v0 v1 f2 f2' => eq_int ?_
    try dsimp only [wSeq, wIfS, wRet, wRetN, wDrop, wAsg, wPass, wBreak, wCont, wNot, wAnd, wOr, wTru, wB, wAndV, wOrV, wNotV, wIf, wOp, wUn, wC, wVar, wNil, wCons, wTup, wLst, wCall, wCb, wChain, wO0, wO1, wApp, wTidx, wTR2, wLS, wSS, wIt, wItT, wR1, wR2, wR3, wLc, wGA, wFor, wAug, wDp, gN, gT, gsC, gs0, gIx, dNeg, dU, startD, List.getElem?_cons_zero, List.getElem?_cons_succ, List.set_cons_zero, List.set_cons_succ, keyD, wSl, wYes, dSub, dMul, dDiv, dMod, dPow, dLe, dGt, dGe, dI, dAdd, dLt, dCmp, reduceIte, Bool.false_eq_true]
    have hL : S1.length ≠ b := by omega
    have hL2 : (S1 ++ [O.lst []]).length ≠ b := by omega
    by_cases hv : v = 0
    · rw [show (v == 0) = true from beq_iff_eq.mpr hv]
      refine (if_pos rfl).mpr ⟨⟨_, _, rfl, f2'.keep hL g⟩, b, nm, rfl, List.mem_of_getElem? hnm, f2.box hb, fun xs S3 hM f3 => ⟨by show 2 ≤ sizeLine; decide, ?_⟩⟩
      have g3 := f3.keep hL (f2'.keep hL g)
      simp only [g3]
      have hsz : ls.length ≤ i := by
        have h1 : (ls.map idxOne).Nodup := hP.imp fun {a b} h => Nat.ne_of_lt h
        have h2 := nodup_le (ns := List.range i) h1 fun x hx => by
          obtain ⟨o, ho, rfl⟩ := List.mem_map.mp hx
          exact List.mem_range.mpr (hG o ho).2
        rwa [List.length_map, List.length_range] at h2
      have hi7 : i < 7 := (List.getElem?_eq_some_iff.mp hnm).1
      have hidx : t_NAMES.idxOf nm = i := by
        have : ∀ j : Fin 7, t_NAMES.idxOf (t_NAMES[j.val]?.getD "") = j.val := by decide +kernel
        have z := this ⟨i, hi7⟩
        simp only [hnm] at z
        exact z
      refine ⟨by rw [sizeLine_eq]; omega, hN _ _ ⟨_, ls ++ [.tup [.str nm, .tup xs]], rfl, (f2.trans f3).setn hbl hl1, get_set (getL_lt g3), ?_, fun one ho => ?_, ?_⟩⟩
      · rw [List.getElem?_set_ne (by omega)]
        exact f3.keep hL2 (f2'.keep hL2 g2)
      · rcases List.mem_append.mp ho with ho | ho
        · exact ⟨(hG one ho).1, by have := (hG one ho).2; omega⟩
        · rw [List.mem_singleton.mp ho]
          refine ⟨⟨nm, xs, rfl, List.mem_of_getElem? hnm, hM⟩, ?_⟩
          show t_NAMES.idxOf nm < i + 1
          omega
      · rw [List.map_append, List.pairwise_append]
        refine ⟨hP, List.pairwise_singleton _ _, fun a ha c hc => ?_⟩
        obtain ⟨o, ho, rfl⟩ := List.mem_map.mp ha
        have e : c = t_NAMES.idxOf nm := List.mem_singleton.mp hc
        rw [e, hidx]
        exact (hG o ho).2
    · rw [show (v == 0) = false from beq_eq_false_iff_ne.mpr hv]
      exact (if_neg (by simp)).mpr (hN _ _ ⟨_, ls, rfl, f2, f2'.keep hL g, f2'.keep hL2 g2, fun one ho => ⟨(hG one ho).1, by have := (hG one ho).2; omega⟩, hP⟩)
  · obtain ⟨c, ls, rfl, f, g, g2, hG, hP⟩ := hI
    exact rt3 hb q z S1.length ls c S' hz (fun one ho => (hG one ho).1) hP f (by omega) g
end Px
/-! k16, the pure parts: what is spoilt, the law. -/
namespace Px
open PySem PySem.Spec PyProof.Rows L2

/-! ### kinds, kept -/
theorem tyD_obj (S : Sto) (n : Nat) : tyD S (.obj n) = (match S[n]? with
  | some (.lst _) => some "list"
  | some (.dct _) => some "dict"
  | _ => none) := rfl
theorem okTy_ext {S S' : Sto} {d : D} (e : Ext S S') (h : okTy S d) : okTy S' d := by
  rcases tyD_cases h with z | ⟨b, z⟩ | ⟨b, z⟩ | ⟨b, z⟩ | ⟨b, z⟩ | ⟨n, z, _⟩ <;> subst z
  · rfl
  · rfl
  · rfl
  · rfl
  · rfl
  · unfold okTy at h ⊢
    rw [tyD_obj] at h ⊢
    cases q : S[n]? with
    | none => rw [q] at h; cases h
    | some o => rw [q] at h; rw [e n o q]; exact h
theorem okTy_bx {b : Nat} {S S' : Sto} {d : D} (hb : BoxAt S b) (f : Bx b S S') (h : okTy S d) : okTy S' d := by
  rcases tyD_cases h with z | ⟨b', z⟩ | ⟨b', z⟩ | ⟨b', z⟩ | ⟨b', z⟩ | ⟨n, z, _⟩ <;> subst z
  · rfl
  · rfl
  · rfl
  · rfl
  · rfl
  · by_cases hn : n = b
    · subst hn
      obtain ⟨r, a, ns, e, _⟩ := f.box hb
      unfold okTy
      rw [tyD_obj, e]
      rfl
    · unfold okTy at h ⊢
      rw [tyD_obj] at h ⊢
      cases q : S[n]? with
      | none => rw [q] at h; cases h
      | some o => rw [q] at h; rw [f.keep hn q]; exact h
/-- kinds are kept from S to S' -/
def Kd (S S' : Sto) : Prop := ∀ d, okTy S d → okTy S' d
theorem okM_kd {S S' : Sto} {d : D} (k : Kd S S') (h : okM S d) : okM S' d := by
  refine ⟨k _ h.1, ?_⟩
  cases d with
  | tup xs => exact fun x hx => k _ (h.2 x hx)
  | _ => trivial
theorem okLs_kd {S S' : Sto} {d : D} (k : Kd S S') (h : okLs S d) : okLs S' d := ⟨k _ h.1, fun xs e one ho => by
  obtain ⟨h1, h2⟩ := h.2 xs e one ho
  refine ⟨k _ h1, fun ys ey hl => ?_⟩
  obtain ⟨z, b, e1, e2, e3, e4⟩ := h2 ys ey hl
  exact ⟨z, b, e1, e2, k _ e3, fun ms em m hm => okM_kd k (e4 ms em m hm)⟩⟩
theorem okPl_kd {S S' : Sto} {d : D} (k : Kd S S') (h : okPl S d) : okPl S' d := by
  refine ⟨k _ h.1, ?_⟩
  cases d with
  | tup xs => exact fun x hx => k _ (h.2 x hx)
  | _ => trivial
/-- well-kinded at the place p -/
def okAt (S : Sto) : Nat → D → Prop
  | 0, x => ∃ z, x = .str z
  | 3, x => okLs S x
  | 4, x => okPl S x
  | _, x => okTy S x
/-- what is right at the place p -/
def good : Nat → D → Bool
  | 0, x => (match x with
    | .str z => decide (z ∈ t_UNITS)
    | _ => false)
  | 1, x => isIntD 1 1000 x
  | 2, x => isNumD x
  | 3, x => fineLs x
  | 4, x => finePl x
  | 5, x => isNonD x || isNumD x
  | 6, x => isNonD x || isNumD x
  | _, x => isNonD x || isIntD 1 1000000000 x
theorem okAt_kd {S S' : Sto} (k : Kd S S') : ∀ (p : Nat) (d : D), okAt S p d → okAt S' p d
  | 0, _, h => h
  | 1, _, h => k _ h
  | 2, _, h => k _ h
  | 3, _, h => okLs_kd k h
  | 4, _, h => okPl_kd k h
  | 5, _, h => k _ h
  | 6, _, h => k _ h
  | 7, _, h => k _ h
  | _ + 8, _, h => k _ h
def wordsL : List Str := ["unit", "interval", "anchor", "lists", "places", "since", "until", "number"]
/-- the first that is wrong -/
theorem fault_first {z : Str} {i a l p s u n : D} {k : Nat} (hk : k < 8) (hg : ∀ j, j < k → good j ([D.str z, i, a, l, p, s, u, n][j]?.getD .non) = true) (hb : good k ([D.str z, i, a, l, p, s, u, n][k]?.getD .non) = false) :
    ∃ x, wordsL[k]? = some x ∧ faultD z i a l p s u n = .str x := by
  have g0 : 0 < k → z ∈ t_UNITS := fun h => of_decide_eq_true (hg 0 h)
  have g1 : 1 < k → isIntD 1 1000 i = true := fun h => hg 1 h
  have g2 : 2 < k → isNumD a = true := fun h => hg 2 h
  have g3 : 3 < k → fineLs l = true := fun h => hg 3 h
  have g4 : 4 < k → finePl p = true := fun h => hg 4 h
  have g5 : 5 < k → (isNonD s || isNumD s) = true := fun h => hg 5 h
  have g6 : 6 < k → (isNonD u || isNumD u) = true := fun h => hg 6 h
  have n5 : 5 < k → ¬ (isNonD s = false ∧ isNumD s = false) := fun h q => by have := g5 h; rw [q.1, q.2] at this; cases this
  have n6 : 6 < k → ¬ (isNonD u = false ∧ isNumD u = false) := fun h q => by have := g6 h; rw [q.1, q.2] at this; cases this
  unfold faultD
  match k, hk, hb with
  | 0, _, hb =>
    have hb : decide (z ∈ t_UNITS) = false := hb
    refine ⟨_, rfl, ?_⟩
    rw [if_pos (of_decide_eq_false hb)]
  | 1, _, hb =>
    have hb : isIntD 1 1000 i = false := hb
    refine ⟨_, rfl, ?_⟩
    rw [if_neg (fun c => c (g0 (by omega))), if_pos hb]
  | 2, _, hb =>
    have hb : isNumD a = false := hb
    refine ⟨_, rfl, ?_⟩
    rw [if_neg (fun c => c (g0 (by omega))), if_neg (by rw [g1 (by omega)]; simp), if_pos hb]
  | 3, _, hb =>
    have hb : fineLs l = false := hb
    refine ⟨_, rfl, ?_⟩
    rw [if_neg (fun c => c (g0 (by omega))), if_neg (by rw [g1 (by omega)]; simp), if_neg (by rw [g2 (by omega)]; simp), if_pos hb]
  | 4, _, hb =>
    have hb : finePl p = false := hb
    refine ⟨_, rfl, ?_⟩
    rw [if_neg (fun c => c (g0 (by omega))), if_neg (by rw [g1 (by omega)]; simp), if_neg (by rw [g2 (by omega)]; simp), if_neg (by rw [g3 (by omega)]; simp), if_pos hb]
  | 5, _, hb =>
    have hb : (isNonD s || isNumD s) = false := hb
    rw [Bool.or_eq_false_iff] at hb
    refine ⟨_, rfl, ?_⟩
    rw [if_neg (fun c => c (g0 (by omega))), if_neg (by rw [g1 (by omega)]; simp), if_neg (by rw [g2 (by omega)]; simp), if_neg (by rw [g3 (by omega)]; simp), if_neg (by rw [g4 (by omega)]; simp), if_pos hb]
  | 6, _, hb =>
    have hb : (isNonD u || isNumD u) = false := hb
    rw [Bool.or_eq_false_iff] at hb
    refine ⟨_, rfl, ?_⟩
    rw [if_neg (fun c => c (g0 (by omega))), if_neg (by rw [g1 (by omega)]; simp), if_neg (by rw [g2 (by omega)]; simp), if_neg (by rw [g3 (by omega)]; simp), if_neg (by rw [g4 (by omega)]; simp), if_neg (n5 (by omega)), if_pos hb]
  | 7, _, hb =>
    have hb : (isNonD n || isIntD 1 1000000000 n) = false := hb
    rw [Bool.or_eq_false_iff] at hb
    refine ⟨_, rfl, ?_⟩
    rw [if_neg (fun c => c (g0 (by omega))), if_neg (by rw [g1 (by omega)]; simp), if_neg (by rw [g2 (by omega)]; simp), if_neg (by rw [g3 (by omega)]; simp), if_neg (by rw [g4 (by omega)]; simp), if_neg (n5 (by omega)), if_neg (n6 (by omega)), if_pos ⟨hb.1, .inr hb.2⟩]

/-! ### checkers for written values -/
def okd : D → Bool
  | .non => true
  | .bl _ => true
  | .int _ => true
  | .str _ => true
  | .tup _ => true
  | _ => false
theorem okd_ok {d : D} (S : Sto) (h : okd d = true) : okTy S d := by cases d <;> first | rfl | cases h
def okMB (d : D) : Bool := okd d && match d with
  | .tup xs => xs.all okd
  | _ => true
theorem okMB_ok {d : D} (S : Sto) (h : okMB d = true) : okM S d := by
  unfold okMB at h
  rw [Bool.and_eq_true] at h
  refine ⟨okd_ok S h.1, ?_⟩
  cases d with
  | tup xs => exact fun x hx => okd_ok S (List.all_eq_true.mp h.2 x hx)
  | _ => trivial
def strB : D → Bool
  | .str z => PyData.strOk z
  | _ => false
def memsB : D → Bool
  | .tup ms => ms.all okMB
  | _ => true
def twoB : D → Bool
  | .tup [a, b] => strB a && (okd b && memsB b)
  | _ => true
def okOneB (one : D) : Bool := okd one && twoB one
theorem okOneB_ok {one : D} (S : Sto) (h : okOneB one = true) : okOne S one := by
  unfold okOneB at h
  rw [Bool.and_eq_true] at h
  refine ⟨okd_ok S h.1, fun xs e hl => ?_⟩
  subst e
  match xs, hl with
  | [a, b], _ =>
    have h2 : (strB a && (okd b && memsB b)) = true := h.2
    rw [Bool.and_eq_true, Bool.and_eq_true] at h2
    obtain ⟨h3, h4, h5⟩ := h2
    cases a with
    | str z => exact ⟨z, b, rfl, h3, okd_ok S h4, fun ms em m hm => by subst em; exact okMB_ok S (List.all_eq_true.mp h5 m hm)⟩
    | _ => cases h3
def okLsB (d : D) : Bool := okd d && match d with
  | .tup xs => xs.all okOneB
  | _ => true
theorem okLsB_ok {d : D} (S : Sto) (h : okLsB d = true) : okLs S d := by
  unfold okLsB at h
  rw [Bool.and_eq_true] at h
  exact ⟨okd_ok S h.1, fun xs e one ho => by subst e; exact okOneB_ok S (List.all_eq_true.mp h.2 one ho)⟩
def okPlB (d : D) : Bool := okd d && match d with
  | .tup xs => xs.all okd
  | _ => true
theorem okPlB_ok {d : D} (S : Sto) (h : okPlB d = true) : okPl S d := by
  unfold okPlB at h
  rw [Bool.and_eq_true] at h
  refine ⟨okd_ok S h.1, ?_⟩
  cases d with
  | tup xs => exact fun x hx => okd_ok S (List.all_eq_true.mp h.2 x hx)
  | _ => trivial

/-! ### _law_spoilt -/
/-- x is of a kind that may stand at p, and wrong there -/
def Bad (S : Sto) (p : Nat) (x : D) : Prop := okAt S p x ∧ good p x = false
theorem Bad.kd {S S' : Sto} {p : Nat} {x : D} (k : Kd S S') (h : Bad S p x) : Bad S' p x := ⟨okAt_kd k p x h.1, h.2⟩
def sp__law_spoilt : Spec := fun ds S Q _ => ∃ (b : Nat) (rs : List D) (p : Nat), ds = [.obj b, .tup rs, .int p] ∧ rs.length = 8 ∧ p < 8 ∧ BoxAt S b ∧ ∀ x S', Bad S' p x → Bx b S S' → Q (.tup (rs.set p x)) S'
def N__law_spoilt : List Str := ["box", "rule", "place", "lists", "places", "wrong"]
def w__law_spoilt_5 : WS :=
  (wRet (wOp dAdd (wOp dAdd (wSl (wVar 1) wO0 (wO1 (wVar 2))) (wTup (wCons (wOp dIx (wVar 5) (wCall sp__law_next (wCons (wVar 0) (wCons (wCb fLen (wCons (wVar 5) wNil)) wNil)))) wNil))) (wSl (wVar 1) (wO1 (wOp dAdd (wVar 2) (wC (.int 1)))) wO0)))
def w__law_spoilt_4 : WS :=
  (wSeq (wAsg (wOp dIx (wLst (wCons (wLst (wCons (wC (.str "hour")) (wCons (wC (.str "")) (wCons (wC (.str "Day")) wNil)))) (wCons (wLst (wCons (wC (.int 0)) (wCons (wC (.int 1001)) (wCons (wC (.bl true)) wNil)))) (wCons (wLst (wCons (wC (.bl true)) (wCons (wTup (wCons (wC (.int 1)) wNil)) wNil))) (wCons (wVar 3) (wCons (wVar 4) (wCons (wLst (wCons (wC (.bl true)) (wCons (wTup (wCons (wC (.int 1)) wNil)) wNil))) (wCons (wLst (wCons (wC (.bl false)) (wCons (wTup (wCons (wC (.int 2)) wNil)) wNil))) (wCons (wLst (wCons (wC (.int 0)) (wCons (wOp dAdd (wOp dPow (wC (.int 10)) (wC (.int 9))) (wC (.int 1))) (wCons (wC (.bl true)) wNil)))) wNil))))))))) (wVar 2)) (gN 5)) w__law_spoilt_5)
def w__law_spoilt_3 : WS :=
  (wSeq (wAsg (wLst (wCons (wLst (wCons (wC (.int 1)) wNil)) (wCons (wTup (wCons (wC (.int 0)) wNil)) (wCons (wTup (wCons (wC (.int 1)) (wCons (wC (.int 1)) wNil))) (wCons (wTup (wCons (wC (.int 401)) wNil)) (wCons (wTup (wCons (wC (.bl true)) wNil)) (wCons (wTR2 (wC (.int 1)) (wC (.int 14))) (wCons (wTup (wCons (wUn dNeg (wC (.int 401))) wNil)) wNil)))))))) (gN 4)) w__law_spoilt_4)
def w__law_spoilt_2 : WS :=
  (wSeq (wAsg (wOp dAdd (wVar 3) (wLst (wCons (wTup (wCons (wTup (wCons (wC (.str "days")) (wCons (wTup (wCons (wC (.int 1)) wNil)) wNil))) (wCons (wTup (wCons (wC (.str "days")) (wCons (wTup (wCons (wC (.int 2)) wNil)) wNil))) wNil))) (wCons (wTup (wCons (wTup (wCons (wC (.str "hours")) (wCons (wTup (wCons (wC (.int 1)) wNil)) wNil))) wNil)) (wCons (wTup (wCons (wTup (wCons (wC (.str "year weekdays")) (wCons (wTup (wCons (wTup (wCons (wC (.int 14)) (wCons (wC (.int 1)) wNil))) wNil)) wNil))) wNil)) (wCons (wTup (wCons (wTup (wCons (wC (.str "weeks")) (wCons (wTR2 (wC (.int 1)) (wC (.int 62))) wNil))) wNil)) wNil)))))) (gN 3)) w__law_spoilt_3)
def w__law_spoilt_1 : WS :=
  (wSeq (wAsg (wOp dAdd (wVar 3) (wLst (wCons (wTup (wCons (wTup (wCons (wC (.str "weekdays")) (wCons (wTup (wCons (wUn dNeg (wC (.int 1))) wNil)) wNil))) wNil)) (wCons (wTup (wCons (wTup (wCons (wC (.str "month weekdays")) (wCons (wTup (wCons (wTup (wCons (wC (.int 1)) (wCons (wC (.int 0)) wNil))) wNil)) wNil))) wNil)) (wCons (wTup (wCons (wTup (wCons (wC (.str "month weekdays")) (wCons (wTup (wCons (wC (.int 1)) wNil)) wNil))) wNil)) (wCons (wTup (wCons (wTup (wCons (wC (.str "days")) (wCons (wTup (wCons (wC (.int 1)) wNil)) wNil))) (wCons (wTup (wCons (wC (.str "months")) (wCons (wTup (wCons (wC (.int 1)) wNil)) wNil))) wNil))) wNil)))))) (gN 3)) w__law_spoilt_2)
def w__law_spoilt : WS :=
  (wSeq (wAsg (wLst (wCons (wLst wNil) (wCons (wTup (wCons (wTup (wCons (wC (.str "days")) wNil)) wNil)) (wCons (wTup (wCons (wTup (wCons (wC (.str "days")) (wCons (wTup wNil) wNil))) wNil)) (wCons (wTup (wCons (wTup (wCons (wC (.str "days")) (wCons (wTup (wCons (wC (.int 0)) wNil)) wNil))) wNil)) (wCons (wTup (wCons (wTup (wCons (wC (.str "days")) (wCons (wTup (wCons (wC (.int 1)) (wCons (wC (.int 1)) wNil))) wNil))) wNil)) (wCons (wTup (wCons (wTup (wCons (wC (.str "days")) (wCons (wTup (wCons (wC (.int 2001)) wNil)) wNil))) wNil)) (wCons (wTup (wCons (wTup (wCons (wC (.str "weekdays")) (wCons (wTup (wCons (wC (.int 14)) wNil)) wNil))) wNil)) wNil)))))))) (gN 3)) w__law_spoilt_1)
theorem cut_lo {xs : List D} {p : Nat} (h : p ≤ xs.length) : cutD xs none (some (p : Int)) = xs.take p := by
  unfold cutD
  rw [show HT.sIx xs.length 0 none = 0 from rfl, HT.sIx_nat, Nat.min_eq_left h, List.drop_zero, Nat.sub_zero]
theorem cut_hi {xs : List D} {p : Nat} (h : p ≤ xs.length) : cutD xs (some (p : Int)) none = xs.drop p := by
  unfold cutD
  rw [show HT.sIx xs.length xs.length none = xs.length from rfl, HT.sIx_nat, Nat.min_eq_left h]
  exact List.take_of_length_le (by rw [List.length_drop]; exact Nat.le_refl _)
theorem le_sz {n : Nat} (h : n ≤ 64) : n ≤ sizeLine := by rw [sizeLine_eq]; omega
section
variable {b : Nat} {rs : List D} {pl : Int} {S : Sto} {E : WEnds}
theorem sp0 (h : ∀ S1 L xs, Ext S S1 → S1[L]? = some (.lst xs) → (∀ x ∈ xs, Bad S1 3 x) → xs.length ≤ 20 → S.length ≤ L → w__law_spoilt_1 E [some (.obj b), some (.tup rs), some (.int pl), some (.obj L), none, none] S1) :
    w__law_spoilt E [some (.obj b), some (.tup rs), some (.int pl), none, none, none] S := by
  unfold w__law_spoilt
  try dsimp only [wSeq, wIfS, wRet, wRetN, wDrop, wAsg, wPass, wBreak, wCont, wNot, wAnd, wOr, wTru, wB, wAndV, wOrV, wNotV, wIf, wOp, wUn, wC, wVar, wNil, wCons, wTup, wLst, wCall, wCb, wChain, wO0, wO1, wApp, wTidx, wTR2, wLS, wSS, wIt, wItT, wR1, wR2, wR3, wLc, wGA, wFor, wAug, wDp, gN, gT, gsC, gs0, gIx, dNeg, dU, startD, List.getElem?_cons_zero, List.getElem?_cons_succ, List.set_cons_zero, List.set_cons_succ, keyD, wSl, wYes, dSub, dMul, dDiv, dMod, dPow, dLe, dGt, dGe, dI, dAdd, dLt, dCmp, reduceIte, Bool.false_eq_true]
  repeat (with_reducible refine And.intro ?_ ?_; · exact le_sz (by simp))
  refine h _ _ ?ys ?e1 ?e2 ?e3 ?e4 ?e5
  case e1 => exact (Ext.app _ _).trans (Ext.app _ _)
  case e2 => exact get_new _ _
  case e4 => simp
  case e5 => simp
  intro x hx
  rcases List.mem_cons.mp hx with e | hx
  · subst e
    refine ⟨⟨?_, fun xs e => by cases e⟩, rfl⟩
    unfold okTy
    rw [tyD_obj, List.getElem?_append_left (by simp), get_new]
    rfl
  · have : ∀ x ∈ _, okLsB x = true ∧ good 3 x = false := (by decide +kernel : ∀ x ∈ [D.tup [D.tup [D.str "days"]], D.tup [D.tup [D.str "days", D.tup []]], D.tup [D.tup [D.str "days", D.tup [D.int 0]]], D.tup [D.tup [D.str "days", D.tup [D.int 1, D.int 1]]], D.tup [D.tup [D.str "days", D.tup [D.int 2001]]], D.tup [D.tup [D.str "weekdays", D.tup [D.int 14]]]], okLsB x = true ∧ good 3 x = false)
    obtain ⟨h1, h2⟩ := this x hx
    exact ⟨okLsB_ok _ h1, h2⟩
theorem bad_app {S S1 : Sto} {p : Nat} {xs ys : List D} (e : Ext S S1) (hx : ∀ x ∈ xs, Bad S p x) (hy : ∀ x ∈ ys, Bad S1 p x) : ∀ x ∈ xs ++ ys, Bad S1 p x := fun x h => by
  rcases List.mem_append.mp h with h | h
  · exact (hx x h).kd fun d hd => okTy_ext e hd
  · exact hy x h
theorem sp1 {L : Nat} {xs : List D} (g : S[L]? = some (.lst xs)) (hx : ∀ x ∈ xs, Bad S 3 x) (hl : xs.length ≤ 20) (h : ∀ S1 L1 ys, Ext S S1 → S1[L1]? = some (.lst ys) → (∀ x ∈ ys, Bad S1 3 x) → ys.length ≤ 30 → S.length ≤ L1 → w__law_spoilt_2 E [some (.obj b), some (.tup rs), some (.int pl), some (.obj L1), none, none] S1) :
    w__law_spoilt_1 E [some (.obj b), some (.tup rs), some (.int pl), some (.obj L), none, none] S := by
  unfold w__law_spoilt_1
  try dsimp only [wSeq, wIfS, wRet, wRetN, wDrop, wAsg, wPass, wBreak, wCont, wNot, wAnd, wOr, wTru, wB, wAndV, wOrV, wNotV, wIf, wOp, wUn, wC, wVar, wNil, wCons, wTup, wLst, wCall, wCb, wChain, wO0, wO1, wApp, wTidx, wTR2, wLS, wSS, wIt, wItT, wR1, wR2, wR3, wLc, wGA, wFor, wAug, wDp, gN, gT, gsC, gs0, gIx, dNeg, dU, startD, List.getElem?_cons_zero, List.getElem?_cons_succ, List.set_cons_zero, List.set_cons_succ, keyD, wSl, wYes, dSub, dMul, dDiv, dMod, dPow, dLe, dGt, dGe, dI, dAdd, dLt, dCmp, reduceIte, Bool.false_eq_true]
  repeat (with_reducible refine And.intro ?_ ?_; · exact le_sz (by simp))
  have g1 : ∀ o, (S ++ [o])[L]? = some (.lst xs) := fun o => by rw [List.getElem?_append_left (getL_lt g)]; exact g
  simp only [g1, get_new]
  refine ⟨le_sz (by simp; omega), ?_⟩
  refine h _ _ ?ys ?e1 ?e2 ?e3 ?e4 ?e5
  case e1 => exact (Ext.app _ _).trans (Ext.app _ _)
  case e2 => exact get_new _ _
  case e4 => simp; omega
  case e5 => simp
  refine bad_app ((Ext.app _ _).trans (Ext.app _ _)) hx fun x hx => ?_
  have : ∀ x ∈ _, okLsB x = true ∧ good 3 x = false := (by decide +kernel : ∀ x ∈ [D.tup [D.tup [D.str "weekdays", D.tup [D.int (-1)]]], D.tup [D.tup [D.str "month weekdays", D.tup [D.tup [D.int 1, D.int 0]]]], D.tup [D.tup [D.str "month weekdays", D.tup [D.int 1]]], D.tup [D.tup [D.str "days", D.tup [D.int 1]], D.tup [D.str "months", D.tup [D.int 1]]]], okLsB x = true ∧ good 3 x = false)
  obtain ⟨h1, h2⟩ := this x hx
  exact ⟨okLsB_ok _ h1, h2⟩
theorem sp2 {L : Nat} {xs : List D} (g : S[L]? = some (.lst xs)) (hx : ∀ x ∈ xs, Bad S 3 x) (hl : xs.length ≤ 30) (h : ∀ S1 L1 ys, Ext S S1 → S1[L1]? = some (.lst ys) → (∀ x ∈ ys, Bad S1 3 x) → ys ≠ [] → ys.length ≤ 60 → S.length ≤ L1 → w__law_spoilt_3 E [some (.obj b), some (.tup rs), some (.int pl), some (.obj L1), none, none] S1) :
    w__law_spoilt_2 E [some (.obj b), some (.tup rs), some (.int pl), some (.obj L), none, none] S := by
  unfold w__law_spoilt_2
  try dsimp only [wSeq, wIfS, wRet, wRetN, wDrop, wAsg, wPass, wBreak, wCont, wNot, wAnd, wOr, wTru, wB, wAndV, wOrV, wNotV, wIf, wOp, wUn, wC, wVar, wNil, wCons, wTup, wLst, wCall, wCb, wChain, wO0, wO1, wApp, wTidx, wTR2, wLS, wSS, wIt, wItT, wR1, wR2, wR3, wLc, wGA, wFor, wAug, wDp, gN, gT, gsC, gs0, gIx, dNeg, dU, startD, List.getElem?_cons_zero, List.getElem?_cons_succ, List.set_cons_zero, List.set_cons_succ, keyD, wSl, wYes, dSub, dMul, dDiv, dMod, dPow, dLe, dGt, dGe, dI, dAdd, dLt, dCmp, reduceIte, Bool.false_eq_true]
  repeat (with_reducible refine And.intro ?_ ?_; · exact le_sz (by simp))
  refine ⟨(RgOk.of_le (by decide) (by decide) (by decide) (by decide) : RgOk 1 62), ?_⟩
  repeat (with_reducible refine And.intro ?_ ?_; · exact le_sz (by simp))
  have g1 : ∀ o, (S ++ [o])[L]? = some (.lst xs) := fun o => by rw [List.getElem?_append_left (getL_lt g)]; exact g
  simp only [g1, get_new]
  refine ⟨le_sz (by simp; omega), ?_⟩
  refine h _ _ ?ys ?e1 ?e2 ?e3 ?e4 ?e5 ?e6
  case e1 => exact (Ext.app _ _).trans (Ext.app _ _)
  case e2 => exact get_new _ _
  case e4 => simp
  case e5 => simp; omega
  case e6 => simp
  refine bad_app ((Ext.app _ _).trans (Ext.app _ _)) hx fun x hx => ?_
  have : ∀ x ∈ _, okLsB x = true ∧ good 3 x = false := (by decide +kernel : ∀ x ∈ [D.tup [D.tup [D.str "days", D.tup [D.int 1]], D.tup [D.str "days", D.tup [D.int 2]]], D.tup [D.tup [D.str "hours", D.tup [D.int 1]]], D.tup [D.tup [D.str "year weekdays", D.tup [D.tup [D.int 14, D.int 1]]]], D.tup [D.tup [D.str "weeks", D.tup (rng 1 (62 - 1 : Int).toNat 1)]]], okLsB x = true ∧ good 3 x = false)
  obtain ⟨h1, h2⟩ := this x hx
  exact ⟨okLsB_ok _ h1, h2⟩
theorem sp3 {L : Nat} (h : ∀ S1 M ys, Ext S S1 → S1[M]? = some (.lst ys) → (∀ x ∈ ys, Bad S1 4 x) → ys ≠ [] → ys.length ≤ 60 → S.length ≤ M → w__law_spoilt_4 E [some (.obj b), some (.tup rs), some (.int pl), some (.obj L), some (.obj M), none] S1) :
    w__law_spoilt_3 E [some (.obj b), some (.tup rs), some (.int pl), some (.obj L), none, none] S := by
  unfold w__law_spoilt_3
  try dsimp only [wSeq, wIfS, wRet, wRetN, wDrop, wAsg, wPass, wBreak, wCont, wNot, wAnd, wOr, wTru, wB, wAndV, wOrV, wNotV, wIf, wOp, wUn, wC, wVar, wNil, wCons, wTup, wLst, wCall, wCb, wChain, wO0, wO1, wApp, wTidx, wTR2, wLS, wSS, wIt, wItT, wR1, wR2, wR3, wLc, wGA, wFor, wAug, wDp, gN, gT, gsC, gs0, gIx, dNeg, dU, startD, List.getElem?_cons_zero, List.getElem?_cons_succ, List.set_cons_zero, List.set_cons_succ, keyD, wSl, wYes, dSub, dMul, dDiv, dMod, dPow, dLe, dGt, dGe, dI, dAdd, dLt, dCmp, reduceIte, Bool.false_eq_true]
  repeat (with_reducible refine And.intro ?_ ?_; · exact le_sz (by simp))
  refine ⟨(RgOk.of_le (by decide) (by decide) (by decide) (by decide) : RgOk 1 14), ?_⟩
  repeat (with_reducible refine And.intro ?_ ?_; · exact le_sz (by simp))
  refine h _ _ ?ys ?e1 ?e2 ?e3 ?e4 ?e5 ?e6
  case e1 => exact (Ext.app _ _).trans (Ext.app _ _)
  case e2 => exact get_new _ _
  case e4 => simp
  case e5 => simp
  case e6 => simp
  intro x hx
  rcases List.mem_cons.mp hx with e | hx
  · subst e
    refine ⟨⟨?_, trivial⟩, rfl⟩
    unfold okTy
    rw [tyD_obj, List.getElem?_append_left (by simp), get_new]
    rfl
  · have : ∀ x ∈ _, okPlB x = true ∧ good 4 x = false := (by decide +kernel : ∀ x ∈ [D.tup [D.int 0], D.tup [D.int 1, D.int 1], D.tup [D.int 401], D.tup [D.bl true], D.tup (rng 1 (14 - 1 : Int).toNat 1), D.tup [D.int (-401)]], okPlB x = true ∧ good 4 x = false)
    obtain ⟨h1, h2⟩ := this x hx
    exact ⟨okPlB_ok _ h1, h2⟩
theorem sp5 {W : Nat} {ws : List D} {Lx Mx : Option D} {p : Nat} {Q : VKd} {n : Nat} {S0 : Sto} (hrs : rs.length = 8) (hp : p < 8) (hb0 : b < S0.length) (f : Bx b S0 S) (hb : BoxAt S b) (g : S[W]? = some (.lst ws)) (hW : W ≠ b) (hws : ∀ x ∈ ws, Bad S p x) (h0 : ws ≠ []) (q : ∀ x S', Bad S' p x → Bx b S0 S' → Q (.tup (rs.set p x)) S') :
    w__law_spoilt_5 (bodyE n Q) [some (.obj b), some (.tup rs), some (.int p), Lx, Mx, some (.obj W)] S := by
  unfold w__law_spoilt_5
  try dsimp only [wSeq, wIfS, wRet, wRetN, wDrop, wAsg, wPass, wBreak, wCont, wNot, wAnd, wOr, wTru, wB, wAndV, wOrV, wNotV, wIf, wOp, wUn, wC, wVar, wNil, wCons, wTup, wLst, wCall, wCb, wChain, wO0, wO1, wApp, wTidx, wTR2, wLS, wSS, wIt, wItT, wR1, wR2, wR3, wLc, wGA, wFor, wAug, wDp, gN, gT, gsC, gs0, gIx, dNeg, dU, startD, List.getElem?_cons_zero, List.getElem?_cons_succ, List.set_cons_zero, List.set_cons_succ, keyD, wSl, wYes, dSub, dMul, dDiv, dMod, dPow, dLe, dGt, dGe, dI, dAdd, dLt, dCmp, reduceIte, Bool.false_eq_true]
  have hpos : 0 < ws.length := List.length_pos_iff.mpr h0
  show dSl (.tup rs) none (some (p : Int)) S _
  simp only [dSl]
  rw [cut_lo (by omega)]
  refine len_obj g ⟨b, (ws.length : Int), rfl, by omega, hb, fun v S1 v0 v1 f1 => ?_⟩
  obtain ⟨x, hx, hat⟩ := atI_int v0 v1
  refine ix_obj (f1.keep hW g) hat ⟨le_sz (by simp), ?_⟩
  refine ⟨by rw [List.length_take]; exact le_sz (by simp; omega), ?_⟩
  rw [show ((p : Int) + 1) = ((p + 1 : Nat) : Int) from rfl, cut_hi (by omega)]
  refine ⟨by rw [List.length_append, List.length_take, List.length_drop]; exact le_sz (by simp; omega), rq ?_⟩
  have e : rs.take p ++ [x] ++ rs.drop (p + 1) = rs.set p x := by
    rw [List.set_eq_take_append_cons_drop, if_pos (by omega), List.append_assoc]
    rfl
  rw [e]
  exact q x S1 ((hws x (List.mem_of_getElem? hx)).kd fun d hd => okTy_bx hb f1 hd) (f.trans f1)
theorem sp4 {L M p : Nat} {xs ys : List D} (gL : S[L]? = some (.lst xs)) (gM : S[M]? = some (.lst ys)) (hx : ∀ x ∈ xs, Bad S 3 x) (hy : ∀ x ∈ ys, Bad S 4 x) (x0 : xs ≠ []) (y0 : ys ≠ []) (hp : p < 8)
    (h : ∀ S1 W ws, Ext S S1 → S1[W]? = some (.lst ws) → (∀ x ∈ ws, Bad S1 p x) → ws ≠ [] → (W = L ∨ W = M ∨ S.length ≤ W) → w__law_spoilt_5 E [some (.obj b), some (.tup rs), some (.int p), some (.obj L), some (.obj M), some (.obj W)] S1) :
    w__law_spoilt_4 E [some (.obj b), some (.tup rs), some (.int p), some (.obj L), some (.obj M), none] S := by
  unfold w__law_spoilt_4
  try dsimp only [wSeq, wIfS, wRet, wRetN, wDrop, wAsg, wPass, wBreak, wCont, wNot, wAnd, wOr, wTru, wB, wAndV, wOrV, wNotV, wIf, wOp, wUn, wC, wVar, wNil, wCons, wTup, wLst, wCall, wCb, wChain, wO0, wO1, wApp, wTidx, wTR2, wLS, wSS, wIt, wItT, wR1, wR2, wR3, wLc, wGA, wFor, wAug, wDp, gN, gT, gsC, gs0, gIx, dNeg, dU, startD, List.getElem?_cons_zero, List.getElem?_cons_succ, List.set_cons_zero, List.set_cons_succ, keyD, wSl, wYes, dSub, dMul, dDiv, dMod, dPow, dLe, dGt, dGe, dI, dAdd, dLt, dCmp, reduceIte, Bool.false_eq_true]
  repeat (with_reducible refine And.intro ?_ ?_; · exact le_sz (by simp))
  refine ⟨(⟨by decide, by decide, by decide⟩ : CPow 10 9), ?_⟩
  repeat (with_reducible refine And.intro ?_ ?_; · exact le_sz (by simp))
  have fl : ∀ (zs : List D) (S' : Sto) (q : Nat), (∀ x ∈ zs, okd x = true ∧ good q x = false) → q = 1 ∨ q = 2 ∨ 5 ≤ q → q < 8 → ∀ x ∈ zs, Bad S' q x := fun zs S' q hz hq hq8 x hx' => by
    obtain ⟨h1, h2⟩ := hz x hx'
    refine ⟨?_, h2⟩
    match q, hq, hq8 with
    | 1, _, _ => exact okd_ok S' h1
    | 2, _, _ => exact okd_ok S' h1
    | 5, _, _ => exact okd_ok S' h1
    | 6, _, _ => exact okd_ok S' h1
    | 7, _, _ => exact okd_ok S' h1
  have ap : ∀ (A : Sto) (n : Nat) (o u : O), A[n]? = some o → (A ++ [u])[n]? = some o := fun A n o u e => Ext.app A [u] n o e
  match p, hp with
  | 0, _ =>
    refine ix_obj (get_new _ _) rfl ?_
    have bd : ∀ x ∈ [D.str "hour", D.str "", D.str "Day"], (∃ z, x = .str z) ∧ good 0 x = false := by
      intro x hx
      simp only [List.mem_cons, List.not_mem_nil, or_false] at hx
      rcases hx with rfl | rfl | rfl <;> exact ⟨⟨_, rfl⟩, by decide +kernel⟩
    exact h _ _ [D.str "hour", D.str "", D.str "Day"] (fun n o e => ap _ _ _ _ (ap _ _ _ _ (ap _ _ _ _ (ap _ _ _ _ (ap _ _ _ _ (ap _ _ _ _ (ap _ _ _ _ e))))))) (ap _ _ _ _ (ap _ _ _ _ (ap _ _ _ _ (ap _ _ _ _ (ap _ _ _ _ (ap _ _ _ _ (get_new _ _))))))) (fun x hx => bd x hx) (by simp) (.inr (.inr (by simp <;> omega)))
  | 1, _ =>
    refine ix_obj (get_new _ _) rfl ?_
    exact h _ _ [D.int 0, D.int 1001, D.bl true] (fun n o e => ap _ _ _ _ (ap _ _ _ _ (ap _ _ _ _ (ap _ _ _ _ (ap _ _ _ _ (ap _ _ _ _ (ap _ _ _ _ e))))))) (ap _ _ _ _ (ap _ _ _ _ (ap _ _ _ _ (ap _ _ _ _ (ap _ _ _ _ (get_new _ _)))))) (fl _ _ 1 (by decide +kernel) (by omega) (by omega)) (by simp) (.inr (.inr (by simp <;> omega)))
  | 2, _ =>
    refine ix_obj (get_new _ _) rfl ?_
    exact h _ _ [D.bl true, D.tup [D.int 1]] (fun n o e => ap _ _ _ _ (ap _ _ _ _ (ap _ _ _ _ (ap _ _ _ _ (ap _ _ _ _ (ap _ _ _ _ (ap _ _ _ _ e))))))) (ap _ _ _ _ (ap _ _ _ _ (ap _ _ _ _ (ap _ _ _ _ (get_new _ _))))) (fl _ _ 2 (by decide +kernel) (by omega) (by omega)) (by simp) (.inr (.inr (by simp <;> omega)))
  | 3, _ =>
    refine ix_obj (get_new _ _) rfl ?_
    exact h _ _ xs (fun n o e => ap _ _ _ _ (ap _ _ _ _ (ap _ _ _ _ (ap _ _ _ _ (ap _ _ _ _ (ap _ _ _ _ (ap _ _ _ _ e))))))) (ap _ _ _ _ (ap _ _ _ _ (ap _ _ _ _ (ap _ _ _ _ (ap _ _ _ _ (ap _ _ _ _ (ap _ _ _ _ gL))))))) (fun x hx' => (hx x hx').kd fun d hd => okTy_ext (fun n o e => ap _ _ _ _ (ap _ _ _ _ (ap _ _ _ _ (ap _ _ _ _ (ap _ _ _ _ (ap _ _ _ _ (ap _ _ _ _ e))))))) hd) x0 (.inl rfl)
  | 4, _ =>
    refine ix_obj (get_new _ _) rfl ?_
    exact h _ _ ys (fun n o e => ap _ _ _ _ (ap _ _ _ _ (ap _ _ _ _ (ap _ _ _ _ (ap _ _ _ _ (ap _ _ _ _ (ap _ _ _ _ e))))))) (ap _ _ _ _ (ap _ _ _ _ (ap _ _ _ _ (ap _ _ _ _ (ap _ _ _ _ (ap _ _ _ _ (ap _ _ _ _ gM))))))) (fun x hx' => (hy x hx').kd fun d hd => okTy_ext (fun n o e => ap _ _ _ _ (ap _ _ _ _ (ap _ _ _ _ (ap _ _ _ _ (ap _ _ _ _ (ap _ _ _ _ (ap _ _ _ _ e))))))) hd) y0 (.inr (.inl rfl))
  | 5, _ =>
    refine ix_obj (get_new _ _) rfl ?_
    exact h _ _ [D.bl true, D.tup [D.int 1]] (fun n o e => ap _ _ _ _ (ap _ _ _ _ (ap _ _ _ _ (ap _ _ _ _ (ap _ _ _ _ (ap _ _ _ _ (ap _ _ _ _ e))))))) (ap _ _ _ _ (ap _ _ _ _ (ap _ _ _ _ (get_new _ _)))) (fl _ _ 5 (by decide +kernel) (by omega) (by omega)) (by simp) (.inr (.inr (by simp <;> omega)))
  | 6, _ =>
    refine ix_obj (get_new _ _) rfl ?_
    exact h _ _ [D.bl false, D.tup [D.int 2]] (fun n o e => ap _ _ _ _ (ap _ _ _ _ (ap _ _ _ _ (ap _ _ _ _ (ap _ _ _ _ (ap _ _ _ _ (ap _ _ _ _ e))))))) (ap _ _ _ _ (ap _ _ _ _ (get_new _ _))) (fl _ _ 6 (by decide +kernel) (by omega) (by omega)) (by simp) (.inr (.inr (by simp <;> omega)))
  | 7, _ =>
    refine ix_obj (get_new _ _) rfl ?_
    exact h _ _ [D.int 0, D.int 1000000001, D.bl true] (fun n o e => ap _ _ _ _ (ap _ _ _ _ (ap _ _ _ _ (ap _ _ _ _ (ap _ _ _ _ (ap _ _ _ _ (ap _ _ _ _ e))))))) (ap _ _ _ _ (get_new _ _)) (fl _ _ 7 (by decide +kernel) (by omega) (by omega)) (by simp) (.inr (.inr (by simp <;> omega)))
end
theorem p__law_spoilt (ds : List D) (S : Sto) (Q : VKd) (E : XKd) (_ : wfS S) (_ : blws S.length ds = true) (h : sp__law_spoilt ds S Q E) : w__law_spoilt (bodyE S.length Q) (startD N__law_spoilt ds) S := by
  obtain ⟨b, rs, p, rfl, hrs, hp, hb, q⟩ := h
  have hbl := hb.lt
  show w__law_spoilt (bodyE S.length Q) [some (.obj b), some (.tup rs), some (.int p), none, none, none] S
  refine sp0 fun S1 L1 xs1 e1 g1 b1 l1 m1 => sp1 g1 b1 l1 fun S2 L2' xs2 e2 g2 b2 l2 m2 => sp2 g2 b2 l2 fun S3 L3 xs3 e3 g3 b3 n3 l3 m3 => sp3 fun S4 M ys e4 g4 b4 n4 l4 m4 => ?_
  have z1 := e1.len
  have z2 := e2.len
  have z3 := e3.len
  have z4 := e4.len
  refine sp4 (e4 _ _ g3) g4 (fun x hx => (b3 x hx).kd fun d hd => okTy_ext e4 hd) b4 n3 n4 hp fun S5 W ws e5 g5 b5 n5 hW => ?_
  have e := (((e1.trans e2).trans e3).trans e4).trans e5
  exact sp5 hrs hp hbl (Bx.ext e) (hb.ext e) g5 (by omega) b5 n5 q
end Px
/-! k16, the pure parts: the law. -/
namespace Px
open PySem PySem.Spec PyProof.Rows L2

abbrev at8 (rs : List D) (j : Nat) : D := rs[j]?.getD .non
theorem okTy_non (S : Sto) : okTy S .non := rfl
theorem call_fault {rs : List D} {S : Sto} {Q : VKd} {k : Nat} {x : Str} (hl : rs.length = 8) (hok : ∀ j, j < 8 → okAt S j (at8 rs j)) (hk : k < 8) (hg : ∀ j, j < k → good j (at8 rs j) = true) (hb : good k (at8 rs k) = false) (hx : wordsL[k]? = some x) (q : Q (.str x) S) : sp_rule_fault [.tup rs] S Q noX := by
  match rs, hl, hok, hg, hb with
  | [c0, c1, c2, c3, c4, c5, c6, c7], _, hok, hg, hb =>
    obtain ⟨z, e⟩ := hok 0 (by omega)
    have e : c0 = .str z := e
    subst e
    obtain ⟨y, e1, e2⟩ := fault_first hk hg hb
    rw [hx] at e1
    cases e1
    exact ⟨z, c1, c2, c3, c4, c5, c6, c7, rfl, ⟨hok 1 (by omega), hok 2 (by omega), hok 3 (by omega), hok 4 (by omega), hok 5 (by omega), hok 6 (by omega), hok 7 (by omega)⟩, by rw [e2]; exact q⟩
theorem call_fine {z : Str} {i a l p s u n : D} {S : Sto} {Q : VKd} (hok : ∀ j, j < 8 → okAt S j (at8 [D.str z, i, a, l, p, s, u, n] j)) (hg : ∀ j, j < 8 → good j (at8 [D.str z, i, a, l, p, s, u, n] j) = true) (hn : n = .non ∨ isNonD s = false) (q : Q .non S) : sp_rule_fault [.tup [.str z, i, a, l, p, s, u, n]] S Q noX := by
  refine ⟨z, i, a, l, p, s, u, n, rfl, ⟨hok 1 (by omega), hok 2 (by omega), hok 3 (by omega), hok 4 (by omega), hok 5 (by omega), hok 6 (by omega), hok 7 (by omega)⟩, ?_⟩
  have g0 : z ∈ t_UNITS := of_decide_eq_true (hg 0 (by omega))
  have g1 : isIntD 1 1000 i = true := hg 1 (by omega)
  have g2 : isNumD a = true := hg 2 (by omega)
  have g3 : fineLs l = true := hg 3 (by omega)
  have g4 : finePl p = true := hg 4 (by omega)
  have g5 : (isNonD s || isNumD s) = true := hg 5 (by omega)
  have g6 : (isNonD u || isNumD u) = true := hg 6 (by omega)
  have g7 : (isNonD n || isIntD 1 1000000000 n) = true := hg 7 (by omega)
  have e : faultD z i a l p s u n = .non := by
    unfold faultD
    rw [if_neg (fun c => c g0), if_neg (by rw [g1]; simp), if_neg (by rw [g2]; simp), if_neg (by rw [g3]; simp), if_neg (by rw [g4]; simp), if_neg (fun c => by rw [c.1, c.2] at g5; cases g5), if_neg (fun c => by rw [c.1, c.2] at g6; cases g6), if_neg (fun c => ?_)]
    rcases hn with h | h
    · rw [h] at c
      cases c.1
    · rw [h] at c
      rcases c.2 with c2 | c2
      · cases c2
      · rw [c.1, c2] at g7
        cases g7
  rw [e]
  exact q
/-- the rule as it is made: kinds, all good -/
theorem RuleG.facts {z : Str} {i a : Int} {ls ps : List D} {s u n : D} (g : RuleG z i a ls ps s u n) (S : Sto) : (∀ j, j < 8 → okAt S j (at8 [.str z, .int i, .int a, .tup ls, .tup ps, s, u, n] j)) ∧ (∀ j, j < 8 → good j (at8 [.str z, .int i, .int a, .tup ls, .tup ps, s, u, n] j) = true) ∧ (n = .non ∨ isNonD s = false) := by
  have iok : ∀ {d : D}, (d = .non ∨ ∃ j : Int, d = .int j) → okTy S d ∧ (isNonD d || isNumD d) = true := fun {d} h => by
    rcases h with rfl | ⟨j, rfl⟩ <;> exact ⟨rfl, rfl⟩
  have nok : okTy S n ∧ (isNonD n || isIntD 1 1000000000 n) = true := by
    rcases g.hn with rfl | ⟨_, j, rfl, h1, h2⟩
    · exact ⟨rfl, rfl⟩
    · refine ⟨rfl, ?_⟩
      have : isIntD 1 1000000000 (.int j) = true := by
        simp [isIntD]
        omega
      rw [this]
      rfl
  refine ⟨fun j hj => ?_, fun j hj => ?_, ?_⟩
  · match j, hj with
    | 0, _ => exact ⟨z, rfl⟩
    | 1, _ => exact (rfl : okTy S (.int i))
    | 2, _ => exact (rfl : okTy S (.int a))
    | 3, _ => exact (⟨rfl, fun xs e one ho => by cases e; exact (g.hls one ho).ok S⟩ : okLs S (.tup ls))
    | 4, _ => exact (⟨rfl, fun x hx => by obtain ⟨j, rfl⟩ := g.hps.2 x hx; rfl⟩ : okPl S (.tup ps))
    | 5, _ => exact (iok g.hs).1
    | 6, _ => exact (iok g.hu).1
    | 7, _ => exact nok.1
  · match j, hj with
    | 0, _ => exact decide_eq_true g.hz
    | 1, _ =>
      show isIntD 1 1000 (.int i) = true
      have := g.hi
      simp [isIntD]
      omega
    | 2, _ => rfl
    | 3, _ => exact go_of' g.hls g.hlp fun one _ => by omega
    | 4, _ => exact g.hps.1
    | 5, _ => exact (iok g.hs).2
    | 6, _ => exact (iok g.hu).2
    | 7, _ => exact nok.2
  · rcases g.hn with h | ⟨⟨j, h⟩, _⟩
    · exact .inl h
    · exact .inr (by rw [h]; rfl)
theorem at8_set {rs : List D} {p j : Nat} {x : D} (hp : p < rs.length) : at8 (rs.set p x) j = if p = j then x else at8 rs j := by
  unfold at8
  by_cases h : p = j
  · subst h
    rw [List.getElem?_set_self hp, if_pos rfl]
    rfl
  · rw [List.getElem?_set_ne h, if_neg h]
theorem words_ok : ∀ k, k < 8 → ∃ x, wordsL[k]? = some x ∧ PyData.strOk x = true := by
  intro k hk
  have h : wordsL.all PyData.strOk = true := by decide +kernel
  refine ⟨wordsL[k]'hk, List.getElem?_eq_getElem hk, List.all_eq_true.mp h _ (List.getElem_mem ..)⟩
def sp_law : Spec := fun ds S Q _ => ∃ (d : D) (ns : List Int), ds = [d] ∧ ((d = .sll (ns.map D.int)) ∨ ∃ n, d = .obj n ∧ S[n]? = some (.lst (ns.map D.int))) ∧ ns.length ≤ 63 ∧ ∀ S', Q (.bl true) S'
def N_law : List Str := ["script", "box", "words", "k", "rule", "place", "one", "other"]
def w_law_a6 : WS :=
  (wIfS (wOr (wB (wOp (dEq true) (wCall sp_rule_fault (wCons (wVar 6) wNil)) (wOp dIx (wVar 2) (wVar 5)))) (wB (wOp (dEq true) (wCall sp_rule_fault (wCons (wCall sp__law_spoilt (wCons (wVar 1) (wCons (wVar 6) (wCons (wVar 7) wNil)))) wNil)) (wOp dIx (wVar 2) (wCb (fMM false) (wCons (wVar 5) (wCons (wVar 7) wNil))))))) (wRet (wC (.bl false))) wPass)
def w_law_a5 : WS :=
  (wSeq (wAsg (wCall sp__law_next (wCons (wVar 1) (wCons (wC (.int 8)) wNil))) (gN 7)) w_law_a6)
def w_law_a4 : WS :=
  (wSeq (wAsg (wCall sp__law_spoilt (wCons (wVar 1) (wCons (wOp dAdd (wOp dAdd (wSl (wVar 4) wO0 (wO1 (wC (.int 5)))) (wTup (wCons (wIf (wB (wOp (dEq true) (wVar 5) (wC (.int 7)))) (wOp dIx (wVar 4) (wC (.int 5))) (wC (.int 4))) wNil))) (wSl (wVar 4) (wO1 (wC (.int 6))) wO0)) (wCons (wVar 5) wNil)))) (gN 6)) w_law_a5)
def w_law_a3 : WS :=
  (wSeq (wAsg (wCall sp__law_next (wCons (wVar 1) (wCons (wC (.int 8)) wNil))) (gN 5)) w_law_a4)
def w_law_a2 : WS :=
  (wSeq (wIfS (wB (wOp (dEq true) (wCall sp_rule_fault (wCons (wOp dAdd (wSl (wVar 4) wO0 (wO1 (wC (.int 5)))) (wTup (wCons (wC .non) (wCons (wOp dIx (wVar 4) (wC (.int 6))) (wCons (wC (.int 3)) wNil))))) wNil)) (wC (.str "number")))) (wRet (wC (.bl false))) wPass) w_law_a3)
def w_law_a1 : WS :=
  (wSeq (wIfS (wB (wOp (dIs true) (wCall sp_rule_fault (wCons (wVar 4) wNil)) (wC .non))) (wRet (wC (.bl false))) wPass) w_law_a2)
def w_law_l0 : WS :=
  (wSeq (wAsg (wCall sp__law_rule (wCons (wVar 1) wNil)) (gN 4)) w_law_a1)
def w_law_3 : WS :=
  (wRet (wC (.bl true)))
def w_law_2 : WS :=
  (wSeq (wFor (wR1 (wC (.int 4))) (gN 3) w_law_l0) w_law_3)
def w_law_1 : WS :=
  (wSeq (wAsg (wLst (wCons (wC (.str "unit")) (wCons (wC (.str "interval")) (wCons (wC (.str "anchor")) (wCons (wC (.str "lists")) (wCons (wC (.str "places")) (wCons (wC (.str "since")) (wCons (wC (.str "until")) (wCons (wC (.str "number")) wNil))))))))) (gN 2)) w_law_2)
def w_law : WS :=
  (wSeq (wAsg (wCall sp__law_box (wCons (wVar 0) wNil)) (gN 1)) w_law_1)
theorem words_ix {S : Sto} {wd k : Nat} {x : Str} {Q : VKd} (gw : S[wd]? = some (.lst (wordsL.map D.str))) (hx : wordsL[k]? = some x) (q : Q (.str x) S) : dIx (.obj wd) (.int (k : Nat)) S Q := by
  refine ix_obj gw (atI_nat ?_) q
  rw [List.getElem?_map, hx]
  rfl
theorem min2 {p o : Nat} {S : Sto} {Q : VKd} (q : Q (.int ((min p o : Nat) : Int)) S) : fMM false [.int (p : Nat), .int (o : Nat)] S Q := by
  have e : (if (o : Int) < (p : Int) then (o : Int) else (p : Int)) = ((min p o : Nat) : Int) := by
    split <;> omega
  simp only [fMM, Bool.false_eq_true, if_false, e]
  exact q
theorem notN_non {S : Sto} {Q : VKd} (q : Q (.bl false) S) : dIs true .non .non S Q := q
theorem law_a6 {d k5 : D} {b wd p o : Nat} {rs1 : List D} {x : D} {S : Sto} {E : WEnds} {rl : Option D} (hl : rs1.length = 8) (hp : p < 8) (ho : o < 8) (hb : BoxAt S b) (gw : S[wd]? = some (.lst (wordsL.map D.str))) (hw : wd ≠ b)
    (hok : ∀ (S : Sto) j, j < 8 → okAt S j (at8 rs1 j)) (hgd : ∀ j, j < 8 → good j (at8 rs1 j) = true) (hbad : Bad S p x)
    (fin : ∀ S', Bx b S S' → E.nx [some d, some (.obj b), some (.obj wd), some k5, rl, some (.int (p : Nat)), some (.tup (rs1.set p x)), some (.int (o : Nat))] S') :
    w_law_a6 E [some d, some (.obj b), some (.obj wd), some k5, rl, some (.int (p : Nat)), some (.tup (rs1.set p x)), some (.int (o : Nat))] S := by
  have ok1 : ∀ j, j < 8 → okAt S j (at8 (rs1.set p x) j) := fun j hj => by
    rw [at8_set (by omega)]
    split
    · rename_i e; rw [← e]; exact hbad.1
    · exact hok S j hj
  obtain ⟨w1, hw1, sk1⟩ := words_ok p hp
  unfold w_law_a6
  try dsimp only [wSeq, wIfS, wRet, wRetN, wDrop, wAsg, wPass, wBreak, wCont, wNot, wAnd, wOr, wTru, wB, wAndV, wOrV, wNotV, wIf, wOp, wUn, wC, wVar, wNil, wCons, wTup, wLst, wCall, wCb, wChain, wO0, wO1, wApp, wTidx, wTR2, wLS, wSS, wIt, wItT, wR1, wR2, wR3, wLc, wGA, wFor, wAug, wDp, gN, gT, gsC, gs0, gIx, dNeg, dU, startD, List.getElem?_cons_zero, List.getElem?_cons_succ, List.set_cons_zero, List.set_cons_succ, keyD, wSl, wYes, dSub, dMul, dDiv, dMod, dPow, dLe, dGt, dGe, dI, dAdd, dLt, dCmp, reduceIte, Bool.false_eq_true]
  refine call_fault (k := p) (x := w1) (by rw [List.length_set]; exact hl) ok1 hp (fun j hj => ?_) ?_ hw1 (words_ix gw hw1 (ne_str sk1 sk1 ?_))
  · rw [at8_set (by omega), if_neg (by omega)]
    exact hgd j (by omega)
  · rw [at8_set (by omega), if_pos rfl]
    exact hbad.2
  · rw [show (w1 == w1) = true from beq_self_eq_true w1]
    refine (if_neg (by simp)).mpr ?_
    refine ⟨b, rs1.set p x, o, rfl, by rw [List.length_set]; exact hl, ho, hb, fun y S2 hy f2 => ?_⟩
    have gw2 := f2.keep hw gw
    have kd : Kd S S2 := fun d hd => okTy_bx hb f2 hd
    obtain ⟨w2, hw2, sk2⟩ := words_ok (min p o) (by omega)
    refine call_fault (k := min p o) (x := w2) (by rw [List.length_set, List.length_set]; exact hl) (fun j hj => ?_) (by omega) (fun j hj => ?_) ?_ hw2 ?_
    · rw [at8_set (by rw [List.length_set]; omega)]
      split
      · rename_i e; rw [← e]; exact hy.1
      · exact okAt_kd kd j _ (ok1 j hj)
    · rw [at8_set (by rw [List.length_set]; omega), if_neg (by omega), at8_set (by omega), if_neg (by omega)]
      exact hgd j (by omega)
    · rw [at8_set (by rw [List.length_set]; omega)]
      by_cases h : o ≤ p
      · rw [if_pos (by omega), Nat.min_eq_right h]
        exact hy.2
      · rw [if_neg (by omega), at8_set (by omega), if_pos (by omega), Nat.min_eq_left (by omega)]
        exact hbad.2
    · refine min2 ?_
      refine words_ix gw2 hw2 (ne_str sk2 sk2 ?_)
      rw [show (w2 == w2) = true from beq_self_eq_true w2]
      exact (if_neg (by simp)).mpr (fin S2 f2)
theorem p_law (ds : List D) (S : Sto) (Q : VKd) (E : XKd) (_ : wfS S) (_ : blws S.length ds = true) (h : sp_law ds S Q E) : w_law (bodyE S.length Q) (startD N_law ds) S := by
  obtain ⟨d, ns, rfl, hd, hl, q⟩ := h
  show w_law (bodyE S.length Q) [some d, none, none, none, none, none, none, none] S
  unfold w_law
  try dsimp only [wSeq, wIfS, wRet, wRetN, wDrop, wAsg, wPass, wBreak, wCont, wNot, wAnd, wOr, wTru, wB, wAndV, wOrV, wNotV, wIf, wOp, wUn, wC, wVar, wNil, wCons, wTup, wLst, wCall, wCb, wChain, wO0, wO1, wApp, wTidx, wTR2, wLS, wSS, wIt, wItT, wR1, wR2, wR3, wLc, wGA, wFor, wAug, wDp, gN, gT, gsC, gs0, gIx, dNeg, dU, startD, List.getElem?_cons_zero, List.getElem?_cons_succ, List.set_cons_zero, List.set_cons_succ, keyD, wSl, wYes, dSub, dMul, dDiv, dMod, dPow, dLe, dGt, dGe, dI, dAdd, dLt, dCmp, reduceIte, Bool.false_eq_true]
  refine ⟨d, ns, rfl, hd, hl, fun b S1 e1 hb1 hb => ?_⟩
  unfold w_law_1
  try dsimp only [wSeq, wIfS, wRet, wRetN, wDrop, wAsg, wPass, wBreak, wCont, wNot, wAnd, wOr, wTru, wB, wAndV, wOrV, wNotV, wIf, wOp, wUn, wC, wVar, wNil, wCons, wTup, wLst, wCall, wCb, wChain, wO0, wO1, wApp, wTidx, wTR2, wLS, wSS, wIt, wItT, wR1, wR2, wR3, wLc, wGA, wFor, wAug, wDp, gN, gT, gsC, gs0, gIx, dNeg, dU, startD, List.getElem?_cons_zero, List.getElem?_cons_succ, List.set_cons_zero, List.set_cons_succ, keyD, wSl, wYes, dSub, dMul, dDiv, dMod, dPow, dLe, dGt, dGe, dI, dAdd, dLt, dCmp, reduceIte, Bool.false_eq_true]
  refine ⟨le_sz (by simp), ?_⟩
  have hbx : BoxAt (S1 ++ [O.lst (wordsL.map D.str)]) b := hb.ext (Ext.app _ _)
  have hwb : S1.length ≠ b := by have := hb.lt; omega
  unfold w_law_2
  try dsimp only [wSeq, wIfS, wRet, wRetN, wDrop, wAsg, wPass, wBreak, wCont, wNot, wAnd, wOr, wTru, wB, wAndV, wOrV, wNotV, wIf, wOp, wUn, wC, wVar, wNil, wCons, wTup, wLst, wCall, wCb, wChain, wO0, wO1, wApp, wTidx, wTR2, wLS, wSS, wIt, wItT, wR1, wR2, wR3, wLc, wGA, wFor, wAug, wDp, gN, gT, gsC, gs0, gIx, dNeg, dU, startD, List.getElem?_cons_zero, List.getElem?_cons_succ, List.set_cons_zero, List.set_cons_succ, keyD, wSl, wYes, dSub, dMul, dDiv, dMod, dPow, dLe, dGt, dGe, dI, dAdd, dLt, dCmp, reduceIte, Bool.false_eq_true]
  refine ⟨⟨by decide, by decide⟩, ?_⟩
  refine forL_inv (fun i σ S' => ∃ (k r p o t : Option D), σ = [some d, some (.obj b), some (.obj S1.length), k, r, p, o, t] ∧ BoxAt S' b ∧ S'[S1.length]? = some (.lst (wordsL.map D.str))) (fun _ _ _ _ _ => trivial) (fun i x σ S' N hi hN hI => ?_) (fun σ S' hI => ?_) ⟨none, none, none, none, none, rfl, hbx, get_new _ _⟩
  · obtain ⟨k, r, p, o, t, rfl, hb2, gw⟩ := hI
    try dsimp only [wSeq, wIfS, wRet, wRetN, wDrop, wAsg, wPass, wBreak, wCont, wNot, wAnd, wOr, wTru, wB, wAndV, wOrV, wNotV, wIf, wOp, wUn, wC, wVar, wNil, wCons, wTup, wLst, wCall, wCb, wChain, wO0, wO1, wApp, wTidx, wTR2, wLS, wSS, wIt, wItT, wR1, wR2, wR3, wLc, wGA, wFor, wAug, wDp, gN, gT, gsC, gs0, gIx, dNeg, dU, startD, List.getElem?_cons_zero, List.getElem?_cons_succ, List.set_cons_zero, List.set_cons_succ, keyD, wSl, wYes, dSub, dMul, dDiv, dMod, dPow, dLe, dGt, dGe, dI, dAdd, dLt, dCmp, reduceIte, Bool.false_eq_true]
    unfold w_law_l0
    try dsimp only [wSeq, wIfS, wRet, wRetN, wDrop, wAsg, wPass, wBreak, wCont, wNot, wAnd, wOr, wTru, wB, wAndV, wOrV, wNotV, wIf, wOp, wUn, wC, wVar, wNil, wCons, wTup, wLst, wCall, wCb, wChain, wO0, wO1, wApp, wTidx, wTR2, wLS, wSS, wIt, wItT, wR1, wR2, wR3, wLc, wGA, wFor, wAug, wDp, gN, gT, gsC, gs0, gIx, dNeg, dU, startD, List.getElem?_cons_zero, List.getElem?_cons_succ, List.set_cons_zero, List.set_cons_succ, keyD, wSl, wYes, dSub, dMul, dDiv, dMod, dPow, dLe, dGt, dGe, dI, dAdd, dLt, dCmp, reduceIte, Bool.false_eq_true]
    refine ⟨b, rfl, hb2, fun z i a ls ps s u n S2 R f2 => ?_⟩
    have hb3 := f2.box hb2
    have gw2 := f2.keep hwb gw
    have F := R.facts
    unfold w_law_a1
    try dsimp only [wSeq, wIfS, wRet, wRetN, wDrop, wAsg, wPass, wBreak, wCont, wNot, wAnd, wOr, wTru, wB, wAndV, wOrV, wNotV, wIf, wOp, wUn, wC, wVar, wNil, wCons, wTup, wLst, wCall, wCb, wChain, wO0, wO1, wApp, wTidx, wTR2, wLS, wSS, wIt, wItT, wR1, wR2, wR3, wLc, wGA, wFor, wAug, wDp, gN, gT, gsC, gs0, gIx, dNeg, dU, startD, List.getElem?_cons_zero, List.getElem?_cons_succ, List.set_cons_zero, List.set_cons_succ, keyD, wSl, wYes, dSub, dMul, dDiv, dMod, dPow, dLe, dGt, dGe, dI, dAdd, dLt, dCmp, reduceIte, Bool.false_eq_true]
    refine call_fine (F S2).1 (F S2).2.1 (F S2).2.2 ?_
    refine notN_non ?_
    refine (if_neg (by decide)).mpr ?_
    unfold w_law_a2
    try dsimp only [wSeq, wIfS, wRet, wRetN, wDrop, wAsg, wPass, wBreak, wCont, wNot, wAnd, wOr, wTru, wB, wAndV, wOrV, wNotV, wIf, wOp, wUn, wC, wVar, wNil, wCons, wTup, wLst, wCall, wCb, wChain, wO0, wO1, wApp, wTidx, wTR2, wLS, wSS, wIt, wItT, wR1, wR2, wR3, wLc, wGA, wFor, wAug, wDp, gN, gT, gsC, gs0, gIx, dNeg, dU, startD, List.getElem?_cons_zero, List.getElem?_cons_succ, List.set_cons_zero, List.set_cons_succ, keyD, wSl, wYes, dSub, dMul, dDiv, dMod, dPow, dLe, dGt, dGe, dI, dAdd, dLt, dCmp, reduceIte, Bool.false_eq_true]
    show dSl (.tup _) none (some (5 : Int)) S2 _
    simp only [dSl]
    rw [show (5 : Int) = ((5 : Nat) : Int) from rfl, cut_lo (by simp)]
    refine ix_tup (i := 6) rfl ⟨le_sz (by simp), le_sz (by simp), ?_⟩
    have s5 : ∀ (c5 : D), (c5 = .non ∨ ∃ j : Int, c5 = .int j) → ∀ (c7 : D), (c7 = .non ∨ ∃ j : Int, c7 = .int j ∧ 1 ≤ j ∧ j ≤ 1000000000) → (∀ (S : Sto) j, j < 8 → okAt S j (at8 [.str z, .int i, .int a, .tup ls, .tup ps, c5, u, c7] j)) ∧ (∀ j, j < 8 → good j (at8 [.str z, .int i, .int a, .tup ls, .tup ps, c5, u, c7] j) = true) := fun c5 h5 c7 h7 => by
      have g5 : ∀ S : Sto, okTy S c5 := fun S => by rcases h5 with rfl | ⟨j, rfl⟩ <;> rfl
      have g7 : ∀ S : Sto, okTy S c7 := fun S => by rcases h7 with rfl | ⟨j, rfl, _⟩ <;> rfl
      refine ⟨fun S j hj => ?_, fun j hj => ?_⟩
      · match j, hj with
        | 0, h => exact (F S).1 0 h
        | 1, h => exact (F S).1 1 h
        | 2, h => exact (F S).1 2 h
        | 3, h => exact (F S).1 3 h
        | 4, h => exact (F S).1 4 h
        | 5, h => exact g5 S
        | 6, h => exact (F S).1 6 h
        | 7, h => exact g7 S
      · match j, hj with
        | 0, h => exact (F S).2.1 0 h
        | 1, h => exact (F S).2.1 1 h
        | 2, h => exact (F S).2.1 2 h
        | 3, h => exact (F S).2.1 3 h
        | 4, h => exact (F S).2.1 4 h
        | 5, h => rcases h5 with rfl | ⟨j, rfl⟩ <;> rfl
        | 6, h => exact (F S).2.1 6 h
        | 7, h =>
          rcases h7 with rfl | ⟨j, rfl, h1, h2⟩
          · rfl
          · show (isNonD (.int j) || isIntD 1 1000000000 (.int j)) = true
            simp [isIntD, isNonD]
            omega
    have n3 := s5 .non (.inl rfl) (.int 3) (.inr ⟨3, rfl, by omega, by omega⟩)
    show sp_rule_fault [.tup [.str z, .int i, .int a, .tup ls, .tup ps, .non, u, .int 3]] S2 _ noX
    refine ⟨z, _, _, _, _, _, _, _, rfl, ⟨n3.1 S2 1 (by omega), n3.1 S2 2 (by omega), n3.1 S2 3 (by omega), n3.1 S2 4 (by omega), n3.1 S2 5 (by omega), n3.1 S2 6 (by omega), n3.1 S2 7 (by omega)⟩, ?_⟩
    have eN : faultD z (.int i) (.int a) (.tup ls) (.tup ps) .non u (.int 3) = .str "number" := by
      have g0 : z ∈ t_UNITS := of_decide_eq_true (n3.2 0 (by omega))
      have g1 : isIntD 1 1000 (.int i) = true := n3.2 1 (by omega)
      have g3 : fineLs (.tup ls) = true := n3.2 3 (by omega)
      have g4 : finePl (.tup ps) = true := n3.2 4 (by omega)
      have g6 : (isNonD u || isNumD u) = true := n3.2 6 (by omega)
      unfold faultD
      rw [if_neg (fun c => c g0), if_neg (by rw [g1]; simp), if_neg (by simp [isNumD]), if_neg (by rw [g3]; simp), if_neg (by rw [g4]; simp), if_neg (by simp [isNonD]), if_neg (fun c => by rw [c.1, c.2] at g6; cases g6), if_pos ⟨rfl, .inl rfl⟩]
    rw [eN]
    refine ne_str (by decide +kernel) (by decide +kernel) ?_
    rw [show ((("number" : Str)) == ("number" : Str)) = true from beq_self_eq_true _]
    refine (if_neg (by simp)).mpr ?_
    unfold w_law_a3
    try dsimp only [wSeq, wIfS, wRet, wRetN, wDrop, wAsg, wPass, wBreak, wCont, wNot, wAnd, wOr, wTru, wB, wAndV, wOrV, wNotV, wIf, wOp, wUn, wC, wVar, wNil, wCons, wTup, wLst, wCall, wCb, wChain, wO0, wO1, wApp, wTidx, wTR2, wLS, wSS, wIt, wItT, wR1, wR2, wR3, wLc, wGA, wFor, wAug, wDp, gN, gT, gsC, gs0, gIx, dNeg, dU, startD, List.getElem?_cons_zero, List.getElem?_cons_succ, List.set_cons_zero, List.set_cons_succ, keyD, wSl, wYes, dSub, dMul, dDiv, dMod, dPow, dLe, dGt, dGe, dI, dAdd, dLt, dCmp, reduceIte, Bool.false_eq_true]
    refine ⟨b, 8, rfl, by decide, hb3, fun v S3 v0 v1 f3 => ?_⟩
    have hb4 := f3.box hb3
    have gw3 := f3.keep hwb gw2
    obtain ⟨pn, rfl⟩ : ∃ pn : Nat, v = (pn : Int) := ⟨v.toNat, by omega⟩
    have hpn : pn < 8 := by omega
    unfold w_law_a4
    try dsimp only [wSeq, wIfS, wRet, wRetN, wDrop, wAsg, wPass, wBreak, wCont, wNot, wAnd, wOr, wTru, wB, wAndV, wOrV, wNotV, wIf, wOp, wUn, wC, wVar, wNil, wCons, wTup, wLst, wCall, wCb, wChain, wO0, wO1, wApp, wTidx, wTR2, wLS, wSS, wIt, wItT, wR1, wR2, wR3, wLc, wGA, wFor, wAug, wDp, gN, gT, gsC, gs0, gIx, dNeg, dU, startD, List.getElem?_cons_zero, List.getElem?_cons_succ, List.set_cons_zero, List.set_cons_succ, keyD, wSl, wYes, dSub, dMul, dDiv, dMod, dPow, dLe, dGt, dGe, dI, dAdd, dLt, dCmp, reduceIte, Bool.false_eq_true]
    show dSl (.tup _) none (some (5 : Int)) S3 _
    simp only [dSl]
    rw [show (5 : Int) = ((5 : Nat) : Int) from rfl, cut_lo (by simp)]
    have h7 : n = .non ∨ ∃ j : Int, n = .int j ∧ 1 ≤ j ∧ j ≤ 1000000000 := by
      rcases R.hn with h | ⟨_, j, h, h1, h2⟩
      · exact .inl h
      · exact .inr ⟨j, h, h1, by omega⟩
    have go : ∀ c5 : D, (c5 = .non ∨ ∃ j : Int, c5 = .int j) → sp__law_spoilt [.obj b, .tup [.str z, .int i, .int a, .tup ls, .tup ps, c5, u, n], .int (pn : Nat)] S3 (fun y S4 => w_law_a5 { nx := N, rt := (bodyE S.length Q).rt, bk := w_law_3 (bodyE S.length Q), ct := N }
        [some d, some (.obj b), some (.obj S1.length), some x, some (.tup [.str z, .int i, .int a, .tup ls, .tup ps, s, u, n]), some (.int (pn : Nat)), some y, t] S4) noX := fun c5 h5 => by
      obtain ⟨k1, k2⟩ := s5 c5 h5 n h7
      refine ⟨b, _, pn, rfl, rfl, hpn, hb4, fun y S4 hy f4 => ?_⟩
      have hb5 := f4.box hb4
      unfold w_law_a5
      try dsimp only [wSeq, wIfS, wRet, wRetN, wDrop, wAsg, wPass, wBreak, wCont, wNot, wAnd, wOr, wTru, wB, wAndV, wOrV, wNotV, wIf, wOp, wUn, wC, wVar, wNil, wCons, wTup, wLst, wCall, wCb, wChain, wO0, wO1, wApp, wTidx, wTR2, wLS, wSS, wIt, wItT, wR1, wR2, wR3, wLc, wGA, wFor, wAug, wDp, gN, gT, gsC, gs0, gIx, dNeg, dU, startD, List.getElem?_cons_zero, List.getElem?_cons_succ, List.set_cons_zero, List.set_cons_succ, keyD, wSl, wYes, dSub, dMul, dDiv, dMod, dPow, dLe, dGt, dGe, dI, dAdd, dLt, dCmp, reduceIte, Bool.false_eq_true]
      refine ⟨b, 8, rfl, by decide, hb5, fun w S5 w0 w1 f5 => ?_⟩
      obtain ⟨on, rfl⟩ : ∃ on : Nat, w = (on : Int) := ⟨w.toNat, by omega⟩
      refine law_a6 rfl hpn (by omega) (f5.box hb5) (f5.keep hwb (f4.keep hwb gw3)) hwb k1 k2 (hy.kd fun d hd => okTy_bx hb5 f5 hd) fun S6 f6 => ?_
      exact hN _ _ ⟨_, _, _, _, _, rfl, f6.box (f5.box hb5), f6.keep hwb (f5.keep hwb (f4.keep hwb gw3))⟩
    have cut6 : cutD [.str z, .int i, .int a, .tup ls, .tup ps, s, u, n] (some 6) none = [u, n] := by
      rw [show (6 : Int) = ((6 : Nat) : Int) from rfl, cut_hi (by simp)]
      rfl
    refine ne_int ?_
    try dsimp only [wSeq, wIfS, wRet, wRetN, wDrop, wAsg, wPass, wBreak, wCont, wNot, wAnd, wOr, wTru, wB, wAndV, wOrV, wNotV, wIf, wOp, wUn, wC, wVar, wNil, wCons, wTup, wLst, wCall, wCb, wChain, wO0, wO1, wApp, wTidx, wTR2, wLS, wSS, wIt, wItT, wR1, wR2, wR3, wLc, wGA, wFor, wAug, wDp, gN, gT, gsC, gs0, gIx, dNeg, dU, startD, List.getElem?_cons_zero, List.getElem?_cons_succ, List.set_cons_zero, List.set_cons_succ, keyD, wSl, wYes, dSub, dMul, dDiv, dMod, dPow, dLe, dGt, dGe, dI, dAdd, dLt, dCmp, reduceIte, Bool.false_eq_true]
    by_cases h8 : pn = 7
    · rw [show (((pn : Nat) : Int) == 7) = true from beq_iff_eq.mpr (by omega)]
      refine (if_neg (by simp)).mpr ⟨le_sz (by simp), le_sz (by simp), le_sz (by rw [cut6]; simp), ?_⟩
      rw [cut6]
      exact go (.int 4) (.inr ⟨4, rfl⟩)
    · rw [show (((pn : Nat) : Int) == 7) = false from beq_eq_false_iff_ne.mpr (by omega)]
      refine (if_pos rfl).mpr (ix_tup (i := 5) rfl ⟨le_sz (by simp), le_sz (by simp), le_sz (by rw [cut6]; simp), ?_⟩)
      rw [cut6]
      exact go s R.hs
  · obtain ⟨k, r, p, o, t, rfl, hb2, gw⟩ := hI
    unfold w_law_3
    try dsimp only [wSeq, wIfS, wRet, wRetN, wDrop, wAsg, wPass, wBreak, wCont, wNot, wAnd, wOr, wTru, wB, wAndV, wOrV, wNotV, wIf, wOp, wUn, wC, wVar, wNil, wCons, wTup, wLst, wCall, wCb, wChain, wO0, wO1, wApp, wTidx, wTR2, wLS, wSS, wIt, wItT, wR1, wR2, wR3, wLc, wGA, wFor, wAug, wDp, gN, gT, gsC, gs0, gIx, dNeg, dU, startD, List.getElem?_cons_zero, List.getElem?_cons_succ, List.set_cons_zero, List.set_cons_succ, keyD, wSl, wYes, dSub, dMul, dDiv, dMod, dPow, dLe, dGt, dGe, dI, dAdd, dLt, dCmp, reduceIte, Bool.false_eq_true]
    exact rq (q S')
end Px
namespace Px
open PySem PySem.Spec PyProof.Rows L2
theorem law_in {ns : List Int} (hl : ns.length ≤ 63) (_ : ∀ z ∈ ns, Builtin.Int.intBits z ≤ 1048576) : ∀ d S Q E, Scr S d ns → (∀ S', Q (.bl true) S') → sp_law [d] S Q E := fun d S Q E h q => ⟨d, ns, rfl, h, hl, q⟩
def top (i : Nat) : Stmt := PySem.Challenge.pw_everydue_k16_faults_of_rules.main.body.getD i (.Pass ⟨0, 0, 0, 0⟩)
abbrev s_is_integer : Stmt := top 1
theorem d_is_integer {X : Cx} {T : List Addr} (E : Ev X T (defScope s_is_integer) (fun _ => true) N_is_integer [0, 1, 2] [0, 1, 2] ["bool", "int", "isinstance"] bns 0) : RSs X T (defBody s_is_integer) w_is_integer :=
  (q_one (q_ret (r_and (e_b E c_isi (r_cons (e_v E 0) (r_cons (e_ty E "int") r_nil))) (r_and (r_not (e_b E c_isi (r_cons (e_v E 0) (r_cons (e_ty E "bool") r_nil)))) (r_one (r_chain o_le o_le (e_v E 1) (e_v E 0) (e_v E 2)))))))
abbrev s_is_number : Stmt := top 3
theorem d_is_number {X : Cx} {T : List Addr} (E : Ev X T (defScope s_is_number) (fun _ => true) N_is_number [0] [0] ["bool", "int", "isinstance"] bns 0) : RSs X T (defBody s_is_number) w_is_number :=
  (q_one (q_ret (r_and (e_b E c_isi (r_cons (e_v E 0) (r_cons (e_ty E "int") r_nil))) (r_one (r_not (e_b E c_isi (r_cons (e_v E 0) (r_cons (e_ty E "bool") r_nil))))))))
abbrev s_fine_member : Stmt := top 7
theorem d_fine_member {X : Cx} {T : List Addr} (E : Ev X T (defScope s_fine_member) (fun _ => true) N_fine_member [0, 1] [0, 1] ["is_integer", "isinstance", "len", "tuple"] bns 1) (c_is_integer : Cal X.prog X.w X.K X.mg X.base T 1 "is_integer" sp_is_integer) : RSs X T (defBody s_fine_member) w_fine_member :=
  (q_cons (q_if (t_cmp (o_eq E.r) (e_v E 0) r_str (nomark _)) (q_one (q_ret (e_call E c_is_integer (r_cons (e_v E 1) (r_cons r_int (r_cons r_int r_nil)))))) q_nil)
  (q_cons (q_if (t_cmp o_in (e_v E 0) (r_tup (r_cons r_str (r_cons r_str r_nil))) (by with_unfolding_all rfl)) (q_cons (q_if (t_w (w_or (t_not (t_tru (e_b E c_isi (r_cons (e_v E 1) (r_cons (e_ty E "tuple") r_nil))))) (w_or1 (t_cmp (o_ne E.r) (e_b E c_len (r_cons (e_v E 1) r_nil)) r_int (nomark _))))) (q_one (q_ret r_bl)) q_nil)
  (q_one (q_ret (r_and (e_call E c_is_integer (r_cons (r_ix (e_v E 1) r_int) (r_cons r_int (r_cons r_int r_nil)))) (r_and (e_call E c_is_integer (r_cons (r_ix (e_v E 1) r_int) (r_cons (r_un u_neg r_int) (r_cons r_int r_nil)))) (r_one (r_cmp (o_ne E.r) (r_ix (e_v E 1) r_int) r_int (nomark _)))))))) q_nil)
  (q_one (q_ret (r_and (e_call E c_is_integer (r_cons (e_v E 1) (r_cons (r_un u_neg r_int) (r_cons r_int r_nil)))) (r_one (r_cmp (o_ne E.r) (e_v E 1) r_int (nomark _))))))))
abbrev s_fine_lists : Stmt := top 8
theorem d_fine_lists {X : Cx} {T : List Addr} (E : Ev X T (defScope s_fine_lists) (fun _ => true) N_fine_lists [0, 1, 2] [0, 1, 2] ["NAMES", "all", "isinstance", "len", "set", "tuple"] bns 3) {cc Pt : Addr} (cd : Cd X T cc Pt) (c_fine_member : Cal X.prog X.w X.K X.mg X.base T 2 "fine_member" sp_fine_member) {a_NAMES : Addr} (k_NAMES : X.mg "NAMES" = some (.ref a_NAMES) ∧ KTs X.K a_NAMES t_NAMES) : RSs X T (defBody s_fine_lists) w_fine_lists :=
  (q_cons (q_if (t_not (t_tru (e_b E c_isi (r_cons (e_v E 0) (r_cons (e_ty E "tuple") r_nil))))) (q_one (q_ret r_bl)) q_nil)
  (q_cons (u_set E 1 (r_un u_neg r_int))
  (q_cons (u_for E (i_t (e_v E 0)) (h_n E 2)
  (q_cons (q_if (t_w (w_or (t_not (t_tru (e_b E c_isi (r_cons (e_v E 2) (r_cons (e_ty E "tuple") r_nil))))) (w_or (t_cmp (o_ne E.r) (e_b E c_len (r_cons (e_v E 2) r_nil)) r_int (nomark _)) (w_or (t_cmp o_nin (r_ix (e_v E 2) r_int) (e_kts E k_NAMES) (by with_unfolding_all rfl)) (w_or1 (t_cmp o_le (e_tidx E k_NAMES (r_ix (e_v E 2) r_int)) (e_v E 1) (nomark _))))))) (q_one (q_ret r_bl)) q_nil)
  (q_cons (u_set E 1 (e_tidx E k_NAMES (r_ix (e_v E 2) r_int)))
  (q_cons (q_if (t_w (w_or (t_not (t_tru (e_b E c_isi (r_cons (r_ix (e_v E 2) r_int) (r_cons (e_ty E "tuple") r_nil))))) (w_or1 (t_not (t_chain o_le o_le r_int (e_b E c_len (r_cons (r_ix (e_v E 2) r_int) r_nil)) r_int))))) (q_one (q_ret r_bl)) q_nil)
  (q_one (q_if (t_w (w_or (t_not (t_tru (e_ga true E cd [("member", 3)] [2, 3] [3] ["fine_member"] (i_t (r_ix (e_v E 2) r_int)) (fun s H code fp E1 => (hv_n E1 3)) (fun s H code fp E1 => ts_0) (fun s H code fp E1 => (e_call E1 c_fine_member (r_cons (r_ix (e_v E1 2) r_int) (r_cons (e_v E1 3) r_nil))))))) (w_or1 (t_cmp o_lt (e_ls E (r_ix (e_v E 2) r_int)) (e_b E c_len (r_cons (r_ix (e_v E 2) r_int) r_nil)) (nomark _))))) (q_one (q_ret r_bl)) q_nil))))))
  (q_one (q_ret r_bl)))))
abbrev s_fine_places : Stmt := top 9
theorem d_fine_places {X : Cx} {T : List Addr} (E : Ev X T (defScope s_fine_places) (fun _ => true) N_fine_places [0] [0] ["all", "isinstance", "len", "set", "tuple"] bns 2) {cc Pt : Addr} (cd : Cd X T cc Pt) (c_is_integer : Cal X.prog X.w X.K X.mg X.base T 1 "is_integer" sp_is_integer) : RSs X T (defBody s_fine_places) w_fine_places :=
  (q_cons (q_if (t_w (w_or (t_not (t_tru (e_b E c_isi (r_cons (e_v E 0) (r_cons (e_ty E "tuple") r_nil))))) (w_or1 (t_cmp o_gt (e_b E c_len (r_cons (e_v E 0) r_nil)) r_int (nomark _))))) (q_one (q_ret r_bl)) q_nil)
  (q_cons (q_if (t_not (t_tru (e_ga true E cd [("place", 1)] [1] [1] ["is_integer"] (i_t (e_v E 0)) (fun s H code fp E1 => (hv_n E1 1)) (fun s H code fp E1 => ts_0) (fun s H code fp E1 => (r_and (e_call E1 c_is_integer (r_cons (e_v E1 1) (r_cons (r_un u_neg r_int) (r_cons r_int r_nil)))) (r_one (r_cmp (o_ne E1.r) (e_v E1 1) r_int (nomark _)))))))) (q_one (q_ret r_bl)) q_nil)
  (q_one (q_ret (r_cmp (o_eq E.r) (e_ls E (e_v E 0)) (e_b E c_len (r_cons (e_v E 0) r_nil)) (nomark _))))))
abbrev s_rule_fault : Stmt := top 10
theorem d_rule_fault {X : Cx} {T : List Addr} (E : Ev X T (defScope s_rule_fault) (fun _ => true) N_rule_fault [0, 1, 2, 3, 4, 5, 6, 7, 8] [0, 1, 2, 3, 4, 5, 6, 7, 8] ["UNITS", "fine_lists", "fine_places", "is_integer", "is_number"] bns 4) (c_is_integer : Cal X.prog X.w X.K X.mg X.base T 1 "is_integer" sp_is_integer) (c_is_number : Cal X.prog X.w X.K X.mg X.base T 1 "is_number" sp_is_number) (c_fine_lists : Cal X.prog X.w X.K X.mg X.base T 4 "fine_lists" sp_fine_lists) (c_fine_places : Cal X.prog X.w X.K X.mg X.base T 3 "fine_places" sp_fine_places) {a_UNITS : Addr} (k_UNITS : X.mg "UNITS" = some (.ref a_UNITS) ∧ KTs X.K a_UNITS t_UNITS) : RSs X T (defBody s_rule_fault) w_rule_fault :=
  (q_cons (q_asg (e_v E 0) (h_t E (g_c (h_n E 1) (g_c (h_n E 2) (g_c (h_n E 3) (g_c (h_n E 4) (g_c (h_n E 5) (g_c (h_n E 6) (g_c (h_n E 7) (g_c (h_n E 8) g_0)))))))) (GsOk.cons GOk.n (GsOk.cons GOk.n (GsOk.cons GOk.n (GsOk.cons GOk.n (GsOk.cons GOk.n (GsOk.cons GOk.n (GsOk.cons GOk.n (GsOk.cons GOk.n GsOk.nil))))))))))
  (q_cons (q_if (t_cmp o_nin (e_v E 1) (e_kts E k_UNITS) (by with_unfolding_all rfl)) (q_one (q_ret r_str)) q_nil)
  (q_cons (q_if (t_not (t_tru (e_call E c_is_integer (r_cons (e_v E 2) (r_cons r_int (r_cons r_int r_nil)))))) (q_one (q_ret r_str)) q_nil)
  (q_cons (q_if (t_not (t_tru (e_call E c_is_number (r_cons (e_v E 3) r_nil)))) (q_one (q_ret r_str)) q_nil)
  (q_cons (q_if (t_not (t_tru (e_call E c_fine_lists (r_cons (e_v E 4) r_nil)))) (q_one (q_ret r_str)) q_nil)
  (q_cons (q_if (t_not (t_tru (e_call E c_fine_places (r_cons (e_v E 5) r_nil)))) (q_one (q_ret r_str)) q_nil)
  (q_cons (q_if (t_w (w_and (t_cmp o_notN (e_v E 6) r_non (nomark _)) (w_and1 (t_not (t_tru (e_call E c_is_number (r_cons (e_v E 6) r_nil))))))) (q_one (q_ret r_str)) q_nil)
  (q_cons (q_if (t_w (w_and (t_cmp o_notN (e_v E 7) r_non (nomark _)) (w_and1 (t_not (t_tru (e_call E c_is_number (r_cons (e_v E 7) r_nil))))))) (q_one (q_ret r_str)) q_nil)
  (q_cons (q_if (t_w (w_and (t_cmp o_notN (e_v E 8) r_non (nomark _)) (w_and1 (t_w (w_or (t_cmp o_isN (e_v E 6) r_non (nomark _)) (w_or1 (t_not (t_tru (e_call E c_is_integer (r_cons (e_v E 8) (r_cons r_int (r_cons (r_op o_pow r_int r_int) r_nil)))))))))))) (q_one (q_ret r_str)) q_nil)
  (q_one (q_ret r_non)))))))))))
abbrev s__law_draws : Stmt := top 12
theorem d__law_draws {X : Cx} {T : List Addr} (E : Ev X T (defScope s__law_draws) (fun _ => true) N__law_draws [0, 1, 2, 3, 4, 5, 6] [0, 1, 2, 3, 4, 5, 6] ["int", "range"] bns 0) : RSs X T (defBody s__law_draws) w__law_draws :=
  (q_cons (u_set E 3 (e_v E 0))
  (q_cons (q_if (t_cmp o_lt (e_v E 3) r_int (nomark _)) (q_one (u_set E 3 (r_op o_sub (r_op o_sub r_int r_int) (e_v E 3)))) q_nil)
  (q_cons (u_set E 4 (r_lst r_nil))
  (q_cons (q_if (t_cmp o_ge (e_v E 3) (r_op o_pow r_int r_int) (nomark _)) (q_cons (u_for E (j_r1 E (e_v E 2)) (h_n E 5)
  (q_cons (q_expr (r_app (e_v E 4) (r_op o_mod (e_ct E c_int (r_cons (e_v E 3) r_nil)) (e_v E 1))))
  (q_one (u_set E 3 (r_op o_fdiv (e_v E 3) (e_v E 1))))))
  (q_one (q_ret (e_v E 4)))) q_nil)
  (q_cons (u_for E (j_r1 E (e_v E 2)) (h_n E 5)
  (q_cons (u_set E 6 (r_op o_mod (e_ct E c_int (r_cons (r_op o_mul (r_op o_add (r_op o_add (e_v E 3) (r_op o_mul r_int (e_v E 5))) r_int) r_int) r_nil)) r_int))
  (q_cons (u_set E 6 (r_op o_mod (e_ct E c_int (r_cons (r_op o_add (r_op o_mul (e_v E 6) r_int) (r_op o_mul r_int (e_v E 5))) r_nil)) r_int))
  (q_one (q_expr (r_app (e_v E 4) (r_op o_mod (e_ct E c_int (r_cons (r_op o_fdiv (e_v E 6) r_int) r_nil)) (e_v E 1))))))))
  (q_one (q_ret (e_v E 4))))))))
abbrev s__law_box : Stmt := top 13
theorem d__law_box {X : Cx} {T : List Addr} (E : Ev X T (defScope s__law_box) (fun _ => true) N__law_box [0, 1, 2] [0, 1, 2] ["_law_draws", "len"] bns 1) (c__law_draws : Cal X.prog X.w X.K X.mg X.base T 1 "_law_draws" sp__law_draws) : RSs X T (defBody s__law_box) w__law_box :=
  (q_cons (u_set E 1 (r_lst r_nil))
  (q_cons (u_for E (i_l (e_v E 0)) (h_n E 2)
  (q_one (u_set E 1 (r_op o_add (e_v E 1) (e_call E c__law_draws (r_cons (e_v E 2) (r_cons r_int (r_cons r_int r_nil))))))))
  (q_cons (q_if (t_cmp (o_eq E.r) (e_b E c_len (r_cons (e_v E 1) r_nil)) r_int (nomark _)) (q_one (u_set E 1 (r_lst (r_cons r_int (r_cons r_int (r_cons r_int (r_cons r_int (r_cons r_int (r_cons r_int (r_cons r_int r_nil)))))))))) q_nil)
  (q_one (q_ret (r_dc (k_c (e_v E 1) (k_c r_int k_0))))))))
abbrev s__law_next : Stmt := top 14
theorem d__law_next {X : Cx} {T : List Addr} (E : Ev X T (defScope s__law_next) (fun _ => true) N__law_next [0, 1, 2, 3] [0, 1, 2, 3] ["int", "len"] bns 0) : RSs X T (defBody s__law_next) w__law_next :=
  (q_cons (u_set E 2 (e_dg E (e_v E 0) r_str))
  (q_cons (u_dp E (e_v E 0) r_str (r_op o_add (e_v E 2) r_int))
  (q_cons (u_set E 3 (r_ix (e_dg E (e_v E 0) r_str) (r_op o_mod (e_v E 2) (e_b E c_len (r_cons (e_dg E (e_v E 0) r_str) r_nil)))))
  (q_one (q_ret (r_op o_mod (e_ct E c_int (r_cons (r_op o_add (e_v E 3) (r_op o_mul r_int (r_op o_fdiv (e_v E 2) (e_b E c_len (r_cons (e_dg E (e_v E 0) r_str) r_nil))))) r_nil)) (e_v E 1)))))))
abbrev s__law_anchor : Stmt := top 15
theorem d__law_anchor {X : Cx} {T : List Addr} (E : Ev X T (defScope s__law_anchor) (fun _ => true) N__law_anchor [0] [0] ["_law_next"] bns 1) (c__law_next : Cal X.prog X.w X.K X.mg X.base T 1 "_law_next" sp__law_next) : RSs X T (defBody s__law_anchor) w__law_anchor :=
  (q_one (q_ret (r_op o_sub (e_call E c__law_next (r_cons (e_v E 0) (r_cons r_int r_nil))) r_int)))
abbrev s__law_members : Stmt := top 16
theorem d__law_members {X : Cx} {T : List Addr} (E : Ev X T (defScope s__law_members) (fun _ => true) N__law_members [0, 1, 2] [0, 1, 2] ["_law_next", "range", "set", "sorted", "tuple"] bns 1) (c__law_next : Cal X.prog X.w X.K X.mg X.base T 1 "_law_next" sp__law_next) : RSs X T (defBody s__law_members) w__law_members :=
  (q_cons (q_if (t_cmp (o_eq E.r) (e_v E 1) r_str (nomark _)) (q_one (q_ret (e_ct E c_tup (r_cons (e_ss E (e_lc E [("k", 3)] [0, 3] [3] ["_law_next"] (j_r1 E (r_op o_add r_int (e_call E c__law_next (r_cons (e_v E 0) (r_cons r_int r_nil))))) (fun s H C cl fp E1 => (hv_n E1 3)) (fun s H C cl fp E1 => ts_0) (fun s H C cl fp E1 => (e_call E1 c__law_next (r_cons (e_v E1 0) (r_cons r_int r_nil)))))) r_nil)))) q_nil)
  (q_cons (q_if (t_cmp o_in (e_v E 1) (r_tup (r_cons r_str (r_cons r_str r_nil))) (by with_unfolding_all rfl)) (q_cons (u_lc E 2 [("k", 3)] [0, 3] [3] ["_law_next"] (j_r1 E (r_op o_add r_int (e_call E c__law_next (r_cons (e_v E 0) (r_cons r_int r_nil))))) (fun s H C cl fp E1 => (hv_n E1 3)) (fun s H C cl fp E1 => ts_0) (fun s H C cl fp E1 => (r_tup (r_cons (e_call E1 c__law_next (r_cons (e_v E1 0) (r_cons r_int r_nil))) (r_cons (r_ix (r_lst (r_cons r_int (r_cons r_int (r_cons r_int (r_cons (r_un u_neg r_int) (r_cons (r_un u_neg r_int) (r_cons r_int r_nil))))))) (e_call E1 c__law_next (r_cons (e_v E1 0) (r_cons r_int r_nil)))) r_nil)))))
  (q_one (q_ret (e_ct E c_tup (r_cons (e_ss E (e_v E 2)) r_nil))))) q_nil)
  (q_one (q_ret (e_ct E c_tup (r_cons (e_ss E (e_lc E [("k", 3)] [0, 3] [3] ["_law_next"] (j_r1 E (r_op o_add r_int (e_call E c__law_next (r_cons (e_v E 0) (r_cons r_int r_nil))))) (fun s H C cl fp E1 => (hv_n E1 3)) (fun s H C cl fp E1 => ts_0) (fun s H C cl fp E1 => (r_ix (r_lst (r_cons r_int (r_cons r_int (r_cons r_int (r_cons r_int (r_cons r_int (r_cons r_int (r_cons (r_un u_neg r_int) (r_cons (r_un u_neg r_int) (r_cons (r_un u_neg r_int) r_nil)))))))))) (e_call E1 c__law_next (r_cons (e_v E1 0) (r_cons r_int r_nil))))))) r_nil))))))
abbrev s__law_rule : Stmt := top 17
theorem d__law_rule {X : Cx} {T : List Addr} (E : Ev X T (defScope s__law_rule) (fun _ => true) N__law_rule [0, 1, 2, 3, 4, 5, 6, 7] [0, 1, 2, 3, 4, 5, 6, 7] ["_law_anchor", "_law_members", "_law_next", "range", "set", "sorted", "tuple"] bns 2) (c__law_next : Cal X.prog X.w X.K X.mg X.base T 1 "_law_next" sp__law_next) (c__law_anchor : Cal X.prog X.w X.K X.mg X.base T 2 "_law_anchor" sp__law_anchor) (c__law_members : Cal X.prog X.w X.K X.mg X.base T 2 "_law_members" sp__law_members) : RSs X T (defBody s__law_rule) w__law_rule :=
  (q_cons (u_set E 1 (r_ix (r_lst (r_cons r_str (r_cons r_str (r_cons r_str (r_cons r_str r_nil))))) (e_call E c__law_next (r_cons (e_v E 0) (r_cons r_int r_nil)))))
  (q_cons (u_set E 2 (r_lst r_nil))
  (q_cons (u_for E (i_l (r_lst (r_cons r_str (r_cons r_str (r_cons r_str (r_cons r_str (r_cons r_str (r_cons r_str (r_cons r_str r_nil))))))))) (h_n E 3)
  (q_one (q_if (t_cmp (o_eq E.r) (e_call E c__law_next (r_cons (e_v E 0) (r_cons r_int r_nil))) r_int (nomark _)) (q_one (q_expr (r_app (e_v E 2) (r_tup (r_cons (e_v E 3) (r_cons (e_call E c__law_members (r_cons (e_v E 0) (r_cons (e_v E 3) r_nil))) r_nil)))))) q_nil)))
  (q_cons (u_set E 4 (r_tup r_nil))
  (q_cons (q_if (t_cmp (o_eq E.r) (e_call E c__law_next (r_cons (e_v E 0) (r_cons r_int r_nil))) r_int (nomark _)) (q_one (u_set E 4 (e_ct E c_tup (r_cons (e_ss E (e_lc E [("k", 8)] [0, 8] [8] ["_law_next"] (j_r1 E (r_op o_add r_int (e_call E c__law_next (r_cons (e_v E 0) (r_cons r_int r_nil))))) (fun s H C cl fp E1 => (hv_n E1 8)) (fun s H C cl fp E1 => ts_0) (fun s H C cl fp E1 => (r_ix (r_lst (r_cons r_int (r_cons r_int (r_cons (r_un u_neg r_int) (r_cons (r_un u_neg r_int) (r_cons r_int r_nil)))))) (e_call E1 c__law_next (r_cons (e_v E1 0) (r_cons r_int r_nil))))))) r_nil)))) q_nil)
  (q_cons (u_set E 5 r_non)
  (q_cons (u_set E 6 r_non)
  (q_cons (u_set E 7 r_non)
  (q_cons (q_if (t_cmp (o_eq E.r) (e_call E c__law_next (r_cons (e_v E 0) (r_cons r_int r_nil))) r_int (nomark _)) (q_cons (u_set E 5 (e_call E c__law_anchor (r_cons (e_v E 0) r_nil)))
  (q_one (q_if (t_cmp (o_eq E.r) (e_call E c__law_next (r_cons (e_v E 0) (r_cons r_int r_nil))) r_int (nomark _)) (q_one (u_set E 7 (r_op o_add r_int (e_call E c__law_next (r_cons (e_v E 0) (r_cons r_int r_nil)))))) q_nil))) q_nil)
  (q_cons (q_if (t_cmp (o_eq E.r) (e_call E c__law_next (r_cons (e_v E 0) (r_cons r_int r_nil))) r_int (nomark _)) (q_one (u_set E 6 (r_op o_add (e_call E c__law_anchor (r_cons (e_v E 0) r_nil)) r_int))) q_nil)
  (q_one (q_ret (r_tup (r_cons (e_v E 1) (r_cons (r_op o_add r_int (e_call E c__law_next (r_cons (e_v E 0) (r_cons r_int r_nil)))) (r_cons (e_call E c__law_anchor (r_cons (e_v E 0) r_nil)) (r_cons (e_ct E c_tup (r_cons (e_v E 2) r_nil)) (r_cons (e_v E 4) (r_cons (e_v E 5) (r_cons (e_v E 6) (r_cons (e_v E 7) r_nil)))))))))))))))))))))
abbrev s__law_spoilt : Stmt := top 18
theorem d__law_spoilt {X : Cx} {T : List Addr} (E : Ev X T (defScope s__law_spoilt) (fun _ => true) N__law_spoilt [0, 1, 2, 3, 4, 5] [0, 1, 2, 3, 4, 5] ["_law_next", "len", "range", "tuple"] bns 1) (c__law_next : Cal X.prog X.w X.K X.mg X.base T 1 "_law_next" sp__law_next) : RSs X T (defBody s__law_spoilt) w__law_spoilt :=
  (q_cons (u_set E 3 (r_lst (r_cons (r_lst r_nil) (r_cons (r_tup (r_cons (r_tup (r_cons r_str r_nil)) r_nil)) (r_cons (r_tup (r_cons (r_tup (r_cons r_str (r_cons (r_tup r_nil) r_nil))) r_nil)) (r_cons (r_tup (r_cons (r_tup (r_cons r_str (r_cons (r_tup (r_cons r_int r_nil)) r_nil))) r_nil)) (r_cons (r_tup (r_cons (r_tup (r_cons r_str (r_cons (r_tup (r_cons r_int (r_cons r_int r_nil))) r_nil))) r_nil)) (r_cons (r_tup (r_cons (r_tup (r_cons r_str (r_cons (r_tup (r_cons r_int r_nil)) r_nil))) r_nil)) (r_cons (r_tup (r_cons (r_tup (r_cons r_str (r_cons (r_tup (r_cons r_int r_nil)) r_nil))) r_nil)) r_nil)))))))))
  (q_cons (u_set E 3 (r_op o_add (e_v E 3) (r_lst (r_cons (r_tup (r_cons (r_tup (r_cons r_str (r_cons (r_tup (r_cons (r_un u_neg r_int) r_nil)) r_nil))) r_nil)) (r_cons (r_tup (r_cons (r_tup (r_cons r_str (r_cons (r_tup (r_cons (r_tup (r_cons r_int (r_cons r_int r_nil))) r_nil)) r_nil))) r_nil)) (r_cons (r_tup (r_cons (r_tup (r_cons r_str (r_cons (r_tup (r_cons r_int r_nil)) r_nil))) r_nil)) (r_cons (r_tup (r_cons (r_tup (r_cons r_str (r_cons (r_tup (r_cons r_int r_nil)) r_nil))) (r_cons (r_tup (r_cons r_str (r_cons (r_tup (r_cons r_int r_nil)) r_nil))) r_nil))) r_nil)))))))
  (q_cons (u_set E 3 (r_op o_add (e_v E 3) (r_lst (r_cons (r_tup (r_cons (r_tup (r_cons r_str (r_cons (r_tup (r_cons r_int r_nil)) r_nil))) (r_cons (r_tup (r_cons r_str (r_cons (r_tup (r_cons r_int r_nil)) r_nil))) r_nil))) (r_cons (r_tup (r_cons (r_tup (r_cons r_str (r_cons (r_tup (r_cons r_int r_nil)) r_nil))) r_nil)) (r_cons (r_tup (r_cons (r_tup (r_cons r_str (r_cons (r_tup (r_cons (r_tup (r_cons r_int (r_cons r_int r_nil))) r_nil)) r_nil))) r_nil)) (r_cons (r_tup (r_cons (r_tup (r_cons r_str (r_cons (e_tr2 E r_int r_int) r_nil))) r_nil)) r_nil)))))))
  (q_cons (u_set E 4 (r_lst (r_cons (r_lst (r_cons r_int r_nil)) (r_cons (r_tup (r_cons r_int r_nil)) (r_cons (r_tup (r_cons r_int (r_cons r_int r_nil))) (r_cons (r_tup (r_cons r_int r_nil)) (r_cons (r_tup (r_cons r_bl r_nil)) (r_cons (e_tr2 E r_int r_int) (r_cons (r_tup (r_cons (r_un u_neg r_int) r_nil)) r_nil)))))))))
  (q_cons (u_set E 5 (r_ix (r_lst (r_cons (r_lst (r_cons r_str (r_cons r_str (r_cons r_str r_nil)))) (r_cons (r_lst (r_cons r_int (r_cons r_int (r_cons r_bl r_nil)))) (r_cons (r_lst (r_cons r_bl (r_cons (r_tup (r_cons r_int r_nil)) r_nil))) (r_cons (e_v E 3) (r_cons (e_v E 4) (r_cons (r_lst (r_cons r_bl (r_cons (r_tup (r_cons r_int r_nil)) r_nil))) (r_cons (r_lst (r_cons r_bl (r_cons (r_tup (r_cons r_int r_nil)) r_nil))) (r_cons (r_lst (r_cons r_int (r_cons (r_op o_add (r_op o_pow r_int r_int) r_int) (r_cons r_bl r_nil)))) r_nil))))))))) (e_v E 2)))
  (q_one (q_ret (r_op o_add (r_op o_add (r_sl (e_v E 1) o_0 (o_1 (e_v E 2))) (r_tup (r_cons (r_ix (e_v E 5) (e_call E c__law_next (r_cons (e_v E 0) (r_cons (e_b E c_len (r_cons (e_v E 5) r_nil)) r_nil)))) r_nil))) (r_sl (e_v E 1) (o_1 (r_op o_add (e_v E 2) r_int)) o_0)))))))))
abbrev s_law : Stmt := top 19
theorem d_law {X : Cx} {T : List Addr} (E : Ev X T (defScope s_law) (fun _ => true) N_law [0, 1, 2, 3, 4, 5, 6, 7] [0, 1, 2, 3, 4, 5, 6, 7] ["_law_box", "_law_next", "_law_rule", "_law_spoilt", "min", "range", "rule_fault"] bns 5) (c_rule_fault : Cal X.prog X.w X.K X.mg X.base T 5 "rule_fault" sp_rule_fault) (c__law_box : Cal X.prog X.w X.K X.mg X.base T 2 "_law_box" sp__law_box) (c__law_next : Cal X.prog X.w X.K X.mg X.base T 1 "_law_next" sp__law_next) (c__law_rule : Cal X.prog X.w X.K X.mg X.base T 3 "_law_rule" sp__law_rule) (c__law_spoilt : Cal X.prog X.w X.K X.mg X.base T 2 "_law_spoilt" sp__law_spoilt) : RSs X T (defBody s_law) w_law :=
  (q_cons (u_set E 1 (e_call E c__law_box (r_cons (e_v E 0) r_nil)))
  (q_cons (u_set E 2 (r_lst (r_cons r_str (r_cons r_str (r_cons r_str (r_cons r_str (r_cons r_str (r_cons r_str (r_cons r_str (r_cons r_str r_nil))))))))))
  (q_cons (u_for E (j_r1 E r_int) (h_n E 3)
  (q_cons (u_set E 4 (e_call E c__law_rule (r_cons (e_v E 1) r_nil)))
  (q_cons (q_if (t_cmp o_notN (e_call E c_rule_fault (r_cons (e_v E 4) r_nil)) r_non (nomark _)) (q_one (q_ret r_bl)) q_nil)
  (q_cons (q_if (t_cmp (o_ne E.r) (e_call E c_rule_fault (r_cons (r_op o_add (r_sl (e_v E 4) o_0 (o_1 r_int)) (r_tup (r_cons r_non (r_cons (r_ix (e_v E 4) r_int) (r_cons r_int r_nil))))) r_nil)) r_str (nomark _)) (q_one (q_ret r_bl)) q_nil)
  (q_cons (u_set E 5 (e_call E c__law_next (r_cons (e_v E 1) (r_cons r_int r_nil))))
  (q_cons (u_set E 6 (e_call E c__law_spoilt (r_cons (e_v E 1) (r_cons (r_op o_add (r_op o_add (r_sl (e_v E 4) o_0 (o_1 r_int)) (r_tup (r_cons (r_if (t_cmp (o_ne E.r) (e_v E 5) r_int (nomark _)) (r_ix (e_v E 4) r_int) r_int) r_nil))) (r_sl (e_v E 4) (o_1 r_int) o_0)) (r_cons (e_v E 5) r_nil)))))
  (q_cons (u_set E 7 (e_call E c__law_next (r_cons (e_v E 1) (r_cons r_int r_nil))))
  (q_one (q_if (t_w (w_or (t_cmp (o_ne E.r) (e_call E c_rule_fault (r_cons (e_v E 6) r_nil)) (r_ix (e_v E 2) (e_v E 5)) (nomark _)) (w_or1 (t_cmp (o_ne E.r) (e_call E c_rule_fault (r_cons (e_call E c__law_spoilt (r_cons (e_v E 1) (r_cons (e_v E 6) (r_cons (e_v E 7) r_nil)))) r_nil)) (r_ix (e_v E 2) (e_b E (c_min E.e.calm) (r_cons (e_v E 5) (r_cons (e_v E 7) r_nil)))) (nomark _))))) (q_one (q_ret r_bl)) q_nil)))))))))
  (q_one (q_ret r_bl)))))
theorem sc_is_integer : FnScope N_is_integer ["value", "low", "high"] (defScope s_is_integer) := ⟨rfl, rfl, rfl, by decide +kernel, rfl, by decide +kernel, by decide +kernel⟩
theorem ln_is_integer (ds : List D) (S : Sto) (Q : VKd) (E : XKd) (h : sp_is_integer ds S Q E) : ds.length = 3 := by
  obtain ⟨_, _, _, rfl, _⟩ := h
  rfl
theorem c_is_integer {P : Program} {w : World} {K : PySem.W.Frag} {mg : Str → Option Value} {base : Heap} {T : List Addr} {f : Addr} {fd : FuncData} (F : FunD K "is_integer" "is_integer" (defArgs s_is_integer) (defBody s_is_integer) (defScope s_is_integer) [] [] f fd) (hm : mg "is_integer" = some (.ref f)) (B : ∀ y ∈ bns, mg y = none) : Cal P w K mg base T 1 "is_integer" sp_is_integer := by
  refine fn_done F (ps := ["value", "low", "high"]) (fn_spec2 (k := 0) F sc_is_integer (by decide +kernel : scChk (defScope s_is_integer) (fun _ => true) N_is_integer [0, 1, 2] [0, 1, 2] ["bool", "int", "isinstance"] = true) ln_is_integer (fun X h1 h2 h3 h4 h5 hr hx E hcd => ?_) p_is_integer) hm (F.bindsN fun _ _ _ _ _ _ us hl => match us, hl with | [_, _, _], _ => rfl) ln_is_integer
  subst h1 h2 h3 h4 h5
  exact d_is_integer ⟨E, B, hr, hx⟩
theorem sc_is_number : FnScope N_is_number ["value"] (defScope s_is_number) := ⟨rfl, rfl, rfl, by decide +kernel, rfl, by decide +kernel, by decide +kernel⟩
theorem ln_is_number (ds : List D) (S : Sto) (Q : VKd) (E : XKd) (h : sp_is_number ds S Q E) : ds.length = 1 := by
  obtain ⟨_, rfl, _⟩ := h
  rfl
theorem c_is_number {P : Program} {w : World} {K : PySem.W.Frag} {mg : Str → Option Value} {base : Heap} {T : List Addr} {f : Addr} {fd : FuncData} (F : FunD K "is_number" "is_number" (defArgs s_is_number) (defBody s_is_number) (defScope s_is_number) [] [] f fd) (hm : mg "is_number" = some (.ref f)) (B : ∀ y ∈ bns, mg y = none) : Cal P w K mg base T 1 "is_number" sp_is_number := by
  refine fn_done F (ps := ["value"]) (fn_spec2 (k := 0) F sc_is_number (by decide +kernel : scChk (defScope s_is_number) (fun _ => true) N_is_number [0] [0] ["bool", "int", "isinstance"] = true) ln_is_number (fun X h1 h2 h3 h4 h5 hr hx E hcd => ?_) p_is_number) hm (F.bindsN fun _ _ _ _ _ _ us hl => match us, hl with | [_], _ => rfl) ln_is_number
  subst h1 h2 h3 h4 h5
  exact d_is_number ⟨E, B, hr, hx⟩
theorem sc_fine_member : FnScope N_fine_member ["name", "member"] (defScope s_fine_member) := ⟨rfl, rfl, rfl, by decide +kernel, rfl, by decide +kernel, by decide +kernel⟩
theorem ln_fine_member (ds : List D) (S : Sto) (Q : VKd) (E : XKd) (h : sp_fine_member ds S Q E) : ds.length = 2 := by
  obtain ⟨_, _, rfl, _⟩ := h
  rfl
theorem c_fine_member {P : Program} {w : World} {K : PySem.W.Frag} {mg : Str → Option Value} {base : Heap} {T : List Addr} {f : Addr} {fd : FuncData} (F : FunD K "fine_member" "fine_member" (defArgs s_fine_member) (defBody s_fine_member) (defScope s_fine_member) [] [] f fd) (hm : mg "fine_member" = some (.ref f)) (B : ∀ y ∈ bns, mg y = none) (c_is_integer : Cal P w K mg base T 1 "is_integer" sp_is_integer) : Cal P w K mg base T 2 "fine_member" sp_fine_member := by
  refine fn_done F (ps := ["name", "member"]) (fn_spec2 (k := 1) F sc_fine_member (by decide +kernel : scChk (defScope s_fine_member) (fun _ => true) N_fine_member [0, 1] [0, 1] ["is_integer", "isinstance", "len", "tuple"] = true) ln_fine_member (fun X h1 h2 h3 h4 h5 hr hx E hcd => ?_) p_fine_member) hm (F.bindsN fun _ _ _ _ _ _ us hl => match us, hl with | [_, _], _ => rfl) ln_fine_member
  subst h1 h2 h3 h4 h5
  exact d_fine_member ⟨E, B, hr, hx⟩ c_is_integer
theorem sc_fine_lists : FnScope N_fine_lists ["lists"] (defScope s_fine_lists) := ⟨rfl, rfl, rfl, by decide +kernel, rfl, by decide +kernel, by decide +kernel⟩
theorem ln_fine_lists (ds : List D) (S : Sto) (Q : VKd) (E : XKd) (h : sp_fine_lists ds S Q E) : ds.length = 1 := by
  obtain ⟨_, rfl, _⟩ := h
  rfl
theorem c_fine_lists {P : Program} {w : World} {K : PySem.W.Frag} {mg : Str → Option Value} {base : Heap} {T : List Addr} {f : Addr} {fd : FuncData} (F : FunD K "fine_lists" "fine_lists" (defArgs s_fine_lists) (defBody s_fine_lists) (defScope s_fine_lists) [] [] f fd) (hm : mg "fine_lists" = some (.ref f)) (B : ∀ y ∈ bns, mg y = none) {cc Pt : Addr} (tb : GxR.TabB base mg cc Pt) (hPt : Pt ∈ T) (hcc : fd.code = .ref cc) (c_fine_member : Cal P w K mg base T 2 "fine_member" sp_fine_member) {a_NAMES : Addr} (k_NAMES : mg "NAMES" = some (.ref a_NAMES) ∧ KTs K a_NAMES t_NAMES) : Cal P w K mg base T 4 "fine_lists" sp_fine_lists := by
  refine fn_done F (ps := ["lists"]) (fn_spec2 (k := 3) F sc_fine_lists (by decide +kernel : scChk (defScope s_fine_lists) (fun _ => true) N_fine_lists [0, 1, 2] [0, 1, 2] ["NAMES", "all", "isinstance", "len", "set", "tuple"] = true) ln_fine_lists (fun X h1 h2 h3 h4 h5 hr hx E hcd => ?_) p_fine_lists) hm (F.bindsN fun _ _ _ _ _ _ us hl => match us, hl with | [_], _ => rfl) ln_fine_lists
  subst h1 h2 h3 h4 h5
  exact d_fine_lists ⟨E, B, hr, hx⟩ ⟨tb, hPt, hcd.trans hcc⟩ c_fine_member k_NAMES
theorem sc_fine_places : FnScope N_fine_places ["places"] (defScope s_fine_places) := ⟨rfl, rfl, rfl, by decide +kernel, rfl, by decide +kernel, by decide +kernel⟩
theorem ln_fine_places (ds : List D) (S : Sto) (Q : VKd) (E : XKd) (h : sp_fine_places ds S Q E) : ds.length = 1 := by
  obtain ⟨_, rfl, _⟩ := h
  rfl
theorem c_fine_places {P : Program} {w : World} {K : PySem.W.Frag} {mg : Str → Option Value} {base : Heap} {T : List Addr} {f : Addr} {fd : FuncData} (F : FunD K "fine_places" "fine_places" (defArgs s_fine_places) (defBody s_fine_places) (defScope s_fine_places) [] [] f fd) (hm : mg "fine_places" = some (.ref f)) (B : ∀ y ∈ bns, mg y = none) {cc Pt : Addr} (tb : GxR.TabB base mg cc Pt) (hPt : Pt ∈ T) (hcc : fd.code = .ref cc) (c_is_integer : Cal P w K mg base T 1 "is_integer" sp_is_integer) : Cal P w K mg base T 3 "fine_places" sp_fine_places := by
  refine fn_done F (ps := ["places"]) (fn_spec2 (k := 2) F sc_fine_places (by decide +kernel : scChk (defScope s_fine_places) (fun _ => true) N_fine_places [0] [0] ["all", "isinstance", "len", "set", "tuple"] = true) ln_fine_places (fun X h1 h2 h3 h4 h5 hr hx E hcd => ?_) p_fine_places) hm (F.bindsN fun _ _ _ _ _ _ us hl => match us, hl with | [_], _ => rfl) ln_fine_places
  subst h1 h2 h3 h4 h5
  exact d_fine_places ⟨E, B, hr, hx⟩ ⟨tb, hPt, hcd.trans hcc⟩ c_is_integer
theorem sc_rule_fault : FnScope N_rule_fault ["rule"] (defScope s_rule_fault) := ⟨rfl, rfl, rfl, by decide +kernel, rfl, by decide +kernel, by decide +kernel⟩
theorem ln_rule_fault (ds : List D) (S : Sto) (Q : VKd) (E : XKd) (h : sp_rule_fault ds S Q E) : ds.length = 1 := by
  obtain ⟨_, _, _, _, _, _, _, _, rfl, _⟩ := h
  rfl
theorem c_rule_fault {P : Program} {w : World} {K : PySem.W.Frag} {mg : Str → Option Value} {base : Heap} {T : List Addr} {f : Addr} {fd : FuncData} (F : FunD K "rule_fault" "rule_fault" (defArgs s_rule_fault) (defBody s_rule_fault) (defScope s_rule_fault) [] [] f fd) (hm : mg "rule_fault" = some (.ref f)) (B : ∀ y ∈ bns, mg y = none) (c_is_integer : Cal P w K mg base T 1 "is_integer" sp_is_integer) (c_is_number : Cal P w K mg base T 1 "is_number" sp_is_number) (c_fine_lists : Cal P w K mg base T 4 "fine_lists" sp_fine_lists) (c_fine_places : Cal P w K mg base T 3 "fine_places" sp_fine_places) {a_UNITS : Addr} (k_UNITS : mg "UNITS" = some (.ref a_UNITS) ∧ KTs K a_UNITS t_UNITS) : Cal P w K mg base T 5 "rule_fault" sp_rule_fault := by
  refine fn_done F (ps := ["rule"]) (fn_spec2 (k := 4) F sc_rule_fault (by decide +kernel : scChk (defScope s_rule_fault) (fun _ => true) N_rule_fault [0, 1, 2, 3, 4, 5, 6, 7, 8] [0, 1, 2, 3, 4, 5, 6, 7, 8] ["UNITS", "fine_lists", "fine_places", "is_integer", "is_number"] = true) ln_rule_fault (fun X h1 h2 h3 h4 h5 hr hx E hcd => ?_) p_rule_fault) hm (F.bindsN fun _ _ _ _ _ _ us hl => match us, hl with | [_], _ => rfl) ln_rule_fault
  subst h1 h2 h3 h4 h5
  exact d_rule_fault ⟨E, B, hr, hx⟩ c_is_integer c_is_number c_fine_lists c_fine_places k_UNITS
theorem sc__law_draws : FnScope N__law_draws ["cell", "modulus", "count"] (defScope s__law_draws) := ⟨rfl, rfl, rfl, by decide +kernel, rfl, by decide +kernel, by decide +kernel⟩
theorem ln__law_draws (ds : List D) (S : Sto) (Q : VKd) (E : XKd) (h : sp__law_draws ds S Q E) : ds.length = 3 := by
  obtain ⟨_, _, _, rfl, _⟩ := h
  rfl
theorem c__law_draws {P : Program} {w : World} {K : PySem.W.Frag} {mg : Str → Option Value} {base : Heap} {T : List Addr} {f : Addr} {fd : FuncData} (F : FunD K "_law_draws" "_law_draws" (defArgs s__law_draws) (defBody s__law_draws) (defScope s__law_draws) [] [] f fd) (hm : mg "_law_draws" = some (.ref f)) (B : ∀ y ∈ bns, mg y = none) : Cal P w K mg base T 1 "_law_draws" sp__law_draws := by
  refine fn_done F (ps := ["cell", "modulus", "count"]) (fn_spec2 (k := 0) F sc__law_draws (by decide +kernel : scChk (defScope s__law_draws) (fun _ => true) N__law_draws [0, 1, 2, 3, 4, 5, 6] [0, 1, 2, 3, 4, 5, 6] ["int", "range"] = true) ln__law_draws (fun X h1 h2 h3 h4 h5 hr hx E hcd => ?_) p__law_draws) hm (F.bindsN fun _ _ _ _ _ _ us hl => match us, hl with | [_, _, _], _ => rfl) ln__law_draws
  subst h1 h2 h3 h4 h5
  exact d__law_draws ⟨E, B, hr, hx⟩
theorem sc__law_box : FnScope N__law_box ["script"] (defScope s__law_box) := ⟨rfl, rfl, rfl, by decide +kernel, rfl, by decide +kernel, by decide +kernel⟩
theorem ln__law_box (ds : List D) (S : Sto) (Q : VKd) (E : XKd) (h : sp__law_box ds S Q E) : ds.length = 1 := by
  obtain ⟨_, _, rfl, _⟩ := h
  rfl
theorem c__law_box {P : Program} {w : World} {K : PySem.W.Frag} {mg : Str → Option Value} {base : Heap} {T : List Addr} {f : Addr} {fd : FuncData} (F : FunD K "_law_box" "_law_box" (defArgs s__law_box) (defBody s__law_box) (defScope s__law_box) [] [] f fd) (hm : mg "_law_box" = some (.ref f)) (B : ∀ y ∈ bns, mg y = none) (c__law_draws : Cal P w K mg base T 1 "_law_draws" sp__law_draws) : Cal P w K mg base T 2 "_law_box" sp__law_box := by
  refine fn_done F (ps := ["script"]) (fn_spec2 (k := 1) F sc__law_box (by decide +kernel : scChk (defScope s__law_box) (fun _ => true) N__law_box [0, 1, 2] [0, 1, 2] ["_law_draws", "len"] = true) ln__law_box (fun X h1 h2 h3 h4 h5 hr hx E hcd => ?_) p__law_box) hm (F.bindsN fun _ _ _ _ _ _ us hl => match us, hl with | [_], _ => rfl) ln__law_box
  subst h1 h2 h3 h4 h5
  exact d__law_box ⟨E, B, hr, hx⟩ c__law_draws
theorem sc__law_next : FnScope N__law_next ["box", "modulus"] (defScope s__law_next) := ⟨rfl, rfl, rfl, by decide +kernel, rfl, by decide +kernel, by decide +kernel⟩
theorem ln__law_next (ds : List D) (S : Sto) (Q : VKd) (E : XKd) (h : sp__law_next ds S Q E) : ds.length = 2 := by
  obtain ⟨_, _, rfl, _⟩ := h
  rfl
theorem c__law_next {P : Program} {w : World} {K : PySem.W.Frag} {mg : Str → Option Value} {base : Heap} {T : List Addr} {f : Addr} {fd : FuncData} (F : FunD K "_law_next" "_law_next" (defArgs s__law_next) (defBody s__law_next) (defScope s__law_next) [] [] f fd) (hm : mg "_law_next" = some (.ref f)) (B : ∀ y ∈ bns, mg y = none) : Cal P w K mg base T 1 "_law_next" sp__law_next := by
  refine fn_done F (ps := ["box", "modulus"]) (fn_spec2 (k := 0) F sc__law_next (by decide +kernel : scChk (defScope s__law_next) (fun _ => true) N__law_next [0, 1, 2, 3] [0, 1, 2, 3] ["int", "len"] = true) ln__law_next (fun X h1 h2 h3 h4 h5 hr hx E hcd => ?_) p__law_next) hm (F.bindsN fun _ _ _ _ _ _ us hl => match us, hl with | [_, _], _ => rfl) ln__law_next
  subst h1 h2 h3 h4 h5
  exact d__law_next ⟨E, B, hr, hx⟩
theorem sc__law_anchor : FnScope N__law_anchor ["box"] (defScope s__law_anchor) := ⟨rfl, rfl, rfl, by decide +kernel, rfl, by decide +kernel, by decide +kernel⟩
theorem ln__law_anchor (ds : List D) (S : Sto) (Q : VKd) (E : XKd) (h : sp__law_anchor ds S Q E) : ds.length = 1 := by
  obtain ⟨_, rfl, _⟩ := h
  rfl
theorem c__law_anchor {P : Program} {w : World} {K : PySem.W.Frag} {mg : Str → Option Value} {base : Heap} {T : List Addr} {f : Addr} {fd : FuncData} (F : FunD K "_law_anchor" "_law_anchor" (defArgs s__law_anchor) (defBody s__law_anchor) (defScope s__law_anchor) [] [] f fd) (hm : mg "_law_anchor" = some (.ref f)) (B : ∀ y ∈ bns, mg y = none) (c__law_next : Cal P w K mg base T 1 "_law_next" sp__law_next) : Cal P w K mg base T 2 "_law_anchor" sp__law_anchor := by
  refine fn_done F (ps := ["box"]) (fn_spec2 (k := 1) F sc__law_anchor (by decide +kernel : scChk (defScope s__law_anchor) (fun _ => true) N__law_anchor [0] [0] ["_law_next"] = true) ln__law_anchor (fun X h1 h2 h3 h4 h5 hr hx E hcd => ?_) p__law_anchor) hm (F.bindsN fun _ _ _ _ _ _ us hl => match us, hl with | [_], _ => rfl) ln__law_anchor
  subst h1 h2 h3 h4 h5
  exact d__law_anchor ⟨E, B, hr, hx⟩ c__law_next
theorem sc__law_members : FnScope N__law_members ["box", "name"] (defScope s__law_members) := ⟨rfl, rfl, rfl, by decide +kernel, rfl, by decide +kernel, by decide +kernel⟩
theorem ln__law_members (ds : List D) (S : Sto) (Q : VKd) (E : XKd) (h : sp__law_members ds S Q E) : ds.length = 2 := by
  obtain ⟨_, _, rfl, _⟩ := h
  rfl
theorem c__law_members {P : Program} {w : World} {K : PySem.W.Frag} {mg : Str → Option Value} {base : Heap} {T : List Addr} {f : Addr} {fd : FuncData} (F : FunD K "_law_members" "_law_members" (defArgs s__law_members) (defBody s__law_members) (defScope s__law_members) [] [] f fd) (hm : mg "_law_members" = some (.ref f)) (B : ∀ y ∈ bns, mg y = none) (c__law_next : Cal P w K mg base T 1 "_law_next" sp__law_next) : Cal P w K mg base T 2 "_law_members" sp__law_members := by
  refine fn_done F (ps := ["box", "name"]) (fn_spec2 (k := 1) F sc__law_members (by decide +kernel : scChk (defScope s__law_members) (fun _ => true) N__law_members [0, 1, 2] [0, 1, 2] ["_law_next", "range", "set", "sorted", "tuple"] = true) ln__law_members (fun X h1 h2 h3 h4 h5 hr hx E hcd => ?_) p__law_members) hm (F.bindsN fun _ _ _ _ _ _ us hl => match us, hl with | [_, _], _ => rfl) ln__law_members
  subst h1 h2 h3 h4 h5
  exact d__law_members ⟨E, B, hr, hx⟩ c__law_next
theorem sc__law_rule : FnScope N__law_rule ["box"] (defScope s__law_rule) := ⟨rfl, rfl, rfl, by decide +kernel, rfl, by decide +kernel, by decide +kernel⟩
theorem ln__law_rule (ds : List D) (S : Sto) (Q : VKd) (E : XKd) (h : sp__law_rule ds S Q E) : ds.length = 1 := by
  obtain ⟨_, rfl, _⟩ := h
  rfl
theorem c__law_rule {P : Program} {w : World} {K : PySem.W.Frag} {mg : Str → Option Value} {base : Heap} {T : List Addr} {f : Addr} {fd : FuncData} (F : FunD K "_law_rule" "_law_rule" (defArgs s__law_rule) (defBody s__law_rule) (defScope s__law_rule) [] [] f fd) (hm : mg "_law_rule" = some (.ref f)) (B : ∀ y ∈ bns, mg y = none) (c__law_next : Cal P w K mg base T 1 "_law_next" sp__law_next) (c__law_anchor : Cal P w K mg base T 2 "_law_anchor" sp__law_anchor) (c__law_members : Cal P w K mg base T 2 "_law_members" sp__law_members) : Cal P w K mg base T 3 "_law_rule" sp__law_rule := by
  refine fn_done F (ps := ["box"]) (fn_spec2 (k := 2) F sc__law_rule (by decide +kernel : scChk (defScope s__law_rule) (fun _ => true) N__law_rule [0, 1, 2, 3, 4, 5, 6, 7] [0, 1, 2, 3, 4, 5, 6, 7] ["_law_anchor", "_law_members", "_law_next", "range", "set", "sorted", "tuple"] = true) ln__law_rule (fun X h1 h2 h3 h4 h5 hr hx E hcd => ?_) p__law_rule) hm (F.bindsN fun _ _ _ _ _ _ us hl => match us, hl with | [_], _ => rfl) ln__law_rule
  subst h1 h2 h3 h4 h5
  exact d__law_rule ⟨E, B, hr, hx⟩ c__law_next c__law_anchor c__law_members
theorem sc__law_spoilt : FnScope N__law_spoilt ["box", "rule", "place"] (defScope s__law_spoilt) := ⟨rfl, rfl, rfl, by decide +kernel, rfl, by decide +kernel, by decide +kernel⟩
theorem ln__law_spoilt (ds : List D) (S : Sto) (Q : VKd) (E : XKd) (h : sp__law_spoilt ds S Q E) : ds.length = 3 := by
  obtain ⟨_, _, _, rfl, _⟩ := h
  rfl
theorem c__law_spoilt {P : Program} {w : World} {K : PySem.W.Frag} {mg : Str → Option Value} {base : Heap} {T : List Addr} {f : Addr} {fd : FuncData} (F : FunD K "_law_spoilt" "_law_spoilt" (defArgs s__law_spoilt) (defBody s__law_spoilt) (defScope s__law_spoilt) [] [] f fd) (hm : mg "_law_spoilt" = some (.ref f)) (B : ∀ y ∈ bns, mg y = none) (c__law_next : Cal P w K mg base T 1 "_law_next" sp__law_next) : Cal P w K mg base T 2 "_law_spoilt" sp__law_spoilt := by
  refine fn_done F (ps := ["box", "rule", "place"]) (fn_spec2 (k := 1) F sc__law_spoilt (by decide +kernel : scChk (defScope s__law_spoilt) (fun _ => true) N__law_spoilt [0, 1, 2, 3, 4, 5] [0, 1, 2, 3, 4, 5] ["_law_next", "len", "range", "tuple"] = true) ln__law_spoilt (fun X h1 h2 h3 h4 h5 hr hx E hcd => ?_) p__law_spoilt) hm (F.bindsN fun _ _ _ _ _ _ us hl => match us, hl with | [_, _, _], _ => rfl) ln__law_spoilt
  subst h1 h2 h3 h4 h5
  exact d__law_spoilt ⟨E, B, hr, hx⟩ c__law_next
theorem sc_law : FnScope N_law ["script"] (defScope s_law) := ⟨rfl, rfl, rfl, by decide +kernel, rfl, by decide +kernel, by decide +kernel⟩
theorem ln_law (ds : List D) (S : Sto) (Q : VKd) (E : XKd) (h : sp_law ds S Q E) : ds.length = 1 := by
  obtain ⟨_, _, rfl, _⟩ := h
  rfl
theorem c_law {P : Program} {w : World} {K : PySem.W.Frag} {mg : Str → Option Value} {base : Heap} {T : List Addr} {f : Addr} {fd : FuncData} (F : FunD K "law" "law" (defArgs s_law) (defBody s_law) (defScope s_law) [] [] f fd) (hm : mg "law" = some (.ref f)) (B : ∀ y ∈ bns, mg y = none) (c_rule_fault : Cal P w K mg base T 5 "rule_fault" sp_rule_fault) (c__law_box : Cal P w K mg base T 2 "_law_box" sp__law_box) (c__law_next : Cal P w K mg base T 1 "_law_next" sp__law_next) (c__law_rule : Cal P w K mg base T 3 "_law_rule" sp__law_rule) (c__law_spoilt : Cal P w K mg base T 2 "_law_spoilt" sp__law_spoilt) : FnOk P w K mg base (L2.CX P w) 6 f fd ["script"] (lSp ⟨K, T⟩ 1 sp_law) := by
  refine fn_spec2 (ps := ["script"]) (k := 5) F sc_law (by decide +kernel : scChk (defScope s_law) (fun _ => true) N_law [0, 1, 2, 3, 4, 5, 6, 7] [0, 1, 2, 3, 4, 5, 6, 7] ["_law_box", "_law_next", "_law_rule", "_law_spoilt", "min", "range", "rule_fault"] = true) ln_law (fun X h1 h2 h3 h4 h5 hr hx E hcd => ?_) p_law
  subst h1 h2 h3 h4 h5
  exact d_law ⟨E, B, hr, hx⟩ c_rule_fault c__law_box c__law_next c__law_rule c__law_spoilt
def q_is_integer : He.DefD := ⟨("is_integer", none), "is_integer", "is_integer", defArgs s_is_integer, defBody s_is_integer, defScope s_is_integer, [], []⟩
def q_is_number : He.DefD := ⟨("is_number", none), "is_number", "is_number", defArgs s_is_number, defBody s_is_number, defScope s_is_number, [], []⟩
def q_fine_member : He.DefD := ⟨("fine_member", none), "fine_member", "fine_member", defArgs s_fine_member, defBody s_fine_member, defScope s_fine_member, [], []⟩
def q_fine_lists : He.DefD := ⟨("fine_lists", none), "fine_lists", "fine_lists", defArgs s_fine_lists, defBody s_fine_lists, defScope s_fine_lists, [], []⟩
def q_fine_places : He.DefD := ⟨("fine_places", none), "fine_places", "fine_places", defArgs s_fine_places, defBody s_fine_places, defScope s_fine_places, [], []⟩
def q_rule_fault : He.DefD := ⟨("rule_fault", none), "rule_fault", "rule_fault", defArgs s_rule_fault, defBody s_rule_fault, defScope s_rule_fault, [], []⟩
def q__law_draws : He.DefD := ⟨("_law_draws", none), "_law_draws", "_law_draws", defArgs s__law_draws, defBody s__law_draws, defScope s__law_draws, [], []⟩
def q__law_box : He.DefD := ⟨("_law_box", none), "_law_box", "_law_box", defArgs s__law_box, defBody s__law_box, defScope s__law_box, [], []⟩
def q__law_next : He.DefD := ⟨("_law_next", none), "_law_next", "_law_next", defArgs s__law_next, defBody s__law_next, defScope s__law_next, [], []⟩
def q__law_anchor : He.DefD := ⟨("_law_anchor", none), "_law_anchor", "_law_anchor", defArgs s__law_anchor, defBody s__law_anchor, defScope s__law_anchor, [], []⟩
def q__law_members : He.DefD := ⟨("_law_members", none), "_law_members", "_law_members", defArgs s__law_members, defBody s__law_members, defScope s__law_members, [], []⟩
def q__law_rule : He.DefD := ⟨("_law_rule", none), "_law_rule", "_law_rule", defArgs s__law_rule, defBody s__law_rule, defScope s__law_rule, [], []⟩
def q__law_spoilt : He.DefD := ⟨("_law_spoilt", none), "_law_spoilt", "_law_spoilt", defArgs s__law_spoilt, defBody s__law_spoilt, defScope s__law_spoilt, [], []⟩
def q_law : He.DefD := ⟨("law", none), "law", "law", defArgs s_law, defBody s_law, defScope s_law, [], []⟩
def fn : List He.DefD := [q_is_integer, q_is_number, q_fine_member, q_fine_lists, q_fine_places, q_rule_fault, q__law_draws, q__law_box, q__law_next, q__law_anchor, q__law_members, q__law_rule, q__law_spoilt, q_law]
def gns : List Str := ["is_integer", "is_number", "fine_member", "fine_lists", "fine_places", "rule_fault", "_law_draws", "_law_box", "_law_next", "_law_anchor", "_law_members", "_law_rule", "_law_spoilt", "law", "UNITS", "NAMES"]
def fa : List He.Fa := gns.map He.Fa.glo ++ bns.map He.Fa.free
def gp : List Dp := [("fine_lists", none), ("fine_places", none)]
def kt : List (Str × List Str) := [("UNITS", t_UNITS), ("NAMES", t_NAMES)]
theorem cx_no {P : Program} (w : World) (H : Hp) (s : Shared) (e : Value) (s' : Shared) (h : L2.CX P w [] H s (fun _ _ _ => False) e s') : False := by
  obtain ⟨_, _, _, _, _, _, _, _, _, _, _, _, z⟩ := h
  exact z
abbrev R : PySem.W.OpenRow := PySem.W.OpenLaw.row PySem.Challenge.rw_everydue_k16_faults_of_rules
abbrev hk : PySem.W.Hook := hookX 4 fa fn gp kt
def ob (s : PySem.W.SharedT) : AlX := obsX 4 fa fn gp kt (HandSHeadRun.getT s)
theorem ob_eq (s : PySem.W.SharedT) : ob s = hk.obs s.abs := obsX_eq (HandSHeadRun.getT_eq s)
def loose0 : List Str := ["is_integer", "is_number", "fine_member", "fine_lists", "fine_places", "rule_fault", "_law_draws", "_law_box", "_law_next", "_law_anchor", "_law_members", "_law_rule", "_law_spoilt", "UNITS", "NAMES"]
def looseL : List Str := loose0
theorem run (w : World) : HandSHeadRun.RunEq R (PySem.W.view R.prog [19]) hk ob 2000 looseL w := by
  intro os
  kernel_rfl
theorem facts {w : World} {K : PySem.W.Frag} {h : Heap} {mg : Str → Option Value} {f : Addr} {cs : List (Addr × Addr)} (S : SaysX fa fn gp kt K cs h) (G : h.Ns mainGlobals mg) (hfa : mg ("law" : Str) = some (.ref f)) : LamX.LawAtS PySem.Challenge.rw_everydue_k16_faults_of_rules w K (L2.CX PySem.Challenge.rw_everydue_k16_faults_of_rules.prog w) 6 63 "script" mg f h := by
  have B : ∀ y ∈ bns, mg y = none := fun y hy => He.free_ok S.kin G (fact_mem S.says (List.mem_append_right _ (List.mem_map.mpr ⟨y, hy, rfl⟩)))
  have gl : ∀ y ∈ gns, mg y = some (.ref (He.ga K y)) := fun y hy => He.glo_ok S.kin G (fact_mem S.says (List.mem_append_left _ (List.mem_map.mpr ⟨y, hy, rfl⟩)))
  obtain ⟨fd_is_integer, F_is_integer⟩ := S.says.def_ 0 (d := q_is_integer) rfl
  obtain ⟨fd_is_number, F_is_number⟩ := S.says.def_ 1 (d := q_is_number) rfl
  obtain ⟨fd_fine_member, F_fine_member⟩ := S.says.def_ 2 (d := q_fine_member) rfl
  obtain ⟨fd_fine_lists, F_fine_lists⟩ := S.says.def_ 3 (d := q_fine_lists) rfl
  obtain ⟨fd_fine_places, F_fine_places⟩ := S.says.def_ 4 (d := q_fine_places) rfl
  obtain ⟨fd_rule_fault, F_rule_fault⟩ := S.says.def_ 5 (d := q_rule_fault) rfl
  obtain ⟨fd__law_draws, F__law_draws⟩ := S.says.def_ 6 (d := q__law_draws) rfl
  obtain ⟨fd__law_box, F__law_box⟩ := S.says.def_ 7 (d := q__law_box) rfl
  obtain ⟨fd__law_next, F__law_next⟩ := S.says.def_ 8 (d := q__law_next) rfl
  obtain ⟨fd__law_anchor, F__law_anchor⟩ := S.says.def_ 9 (d := q__law_anchor) rfl
  obtain ⟨fd__law_members, F__law_members⟩ := S.says.def_ 10 (d := q__law_members) rfl
  obtain ⟨fd__law_rule, F__law_rule⟩ := S.says.def_ 11 (d := q__law_rule) rfl
  obtain ⟨fd__law_spoilt, F__law_spoilt⟩ := S.says.def_ 12 (d := q__law_spoilt) rfl
  obtain ⟨fd_law, F_law⟩ := S.says.def_ 13 (d := q_law) rfl
  have k_UNITS : mg "UNITS" = some (.ref (He.ga K "UNITS")) ∧ KTs K (He.ga K "UNITS") t_UNITS := ⟨gl "UNITS" (by decide), S.kts ("UNITS", t_UNITS) (by decide)⟩
  have k_NAMES : mg "NAMES" = some (.ref (He.ga K "NAMES")) ∧ KTs K (He.ga K "NAMES") t_NAMES := ⟨gl "NAMES" (by decide), S.kts ("NAMES", t_NAMES) (by decide)⟩
  have hlen := S.len
  match cs, hlen, S with
  | [cp_fine_lists, cp_fine_places], _, S =>
    have cd_fine_lists : fd_fine_lists.code = .ref cp_fine_lists.1 := code_of F_fine_lists (S.cod 0 ("fine_lists", none) cp_fine_lists rfl rfl).2
    have cd_fine_places : fd_fine_places.code = .ref cp_fine_places.1 := code_of F_fine_places (S.cod 1 ("fine_places", none) cp_fine_places rfl rfl).2
    have ef : He.ga K "law" = f := by
      have e := hfa.symm.trans (gl "law" (by decide))
      cases e
      rfl
    have bL := FunD.bindsA (ps := ["script"]) F_law fun _ _ _ _ _ _ us hl => match us, hl with | [_], _ => rfl
    refine ⟨fd_law, [cp_fine_lists, cp_fine_places], lSp ⟨K, [cp_fine_lists, cp_fine_places].map (·.2)⟩ 1 sp_law, fun p hp => (S.tab p hp).1, fun p hp => (S.tab p hp).2.1, fun p hp => (S.tab p hp).2.2, fun s u => bL s [u] rfl, fun H a ns hl hbits hT hs => law_sp hT hs (law_in hl hbits), fun base kb gb TB => ?_⟩
    have x_is_integer : Cal PySem.Challenge.rw_everydue_k16_faults_of_rules.prog w K mg base ([cp_fine_lists, cp_fine_places].map (·.2)) 1 "is_integer" sp_is_integer := c_is_integer F_is_integer (gl "is_integer" (by decide)) B
    have x_is_number : Cal PySem.Challenge.rw_everydue_k16_faults_of_rules.prog w K mg base ([cp_fine_lists, cp_fine_places].map (·.2)) 1 "is_number" sp_is_number := c_is_number F_is_number (gl "is_number" (by decide)) B
    have x_fine_member : Cal PySem.Challenge.rw_everydue_k16_faults_of_rules.prog w K mg base ([cp_fine_lists, cp_fine_places].map (·.2)) 2 "fine_member" sp_fine_member := c_fine_member F_fine_member (gl "fine_member" (by decide)) B x_is_integer
    have x_fine_lists : Cal PySem.Challenge.rw_everydue_k16_faults_of_rules.prog w K mg base ([cp_fine_lists, cp_fine_places].map (·.2)) 4 "fine_lists" sp_fine_lists := c_fine_lists F_fine_lists (gl "fine_lists" (by decide)) B (tabB_of (TB cp_fine_lists (by simp))) (List.mem_map.mpr ⟨cp_fine_lists, by simp, rfl⟩) cd_fine_lists x_fine_member k_NAMES
    have x_fine_places : Cal PySem.Challenge.rw_everydue_k16_faults_of_rules.prog w K mg base ([cp_fine_lists, cp_fine_places].map (·.2)) 3 "fine_places" sp_fine_places := c_fine_places F_fine_places (gl "fine_places" (by decide)) B (tabB_of (TB cp_fine_places (by simp))) (List.mem_map.mpr ⟨cp_fine_places, by simp, rfl⟩) cd_fine_places x_is_integer
    have x_rule_fault : Cal PySem.Challenge.rw_everydue_k16_faults_of_rules.prog w K mg base ([cp_fine_lists, cp_fine_places].map (·.2)) 5 "rule_fault" sp_rule_fault := c_rule_fault F_rule_fault (gl "rule_fault" (by decide)) B x_is_integer x_is_number x_fine_lists x_fine_places k_UNITS
    have x__law_draws : Cal PySem.Challenge.rw_everydue_k16_faults_of_rules.prog w K mg base ([cp_fine_lists, cp_fine_places].map (·.2)) 1 "_law_draws" sp__law_draws := c__law_draws F__law_draws (gl "_law_draws" (by decide)) B
    have x__law_box : Cal PySem.Challenge.rw_everydue_k16_faults_of_rules.prog w K mg base ([cp_fine_lists, cp_fine_places].map (·.2)) 2 "_law_box" sp__law_box := c__law_box F__law_box (gl "_law_box" (by decide)) B x__law_draws
    have x__law_next : Cal PySem.Challenge.rw_everydue_k16_faults_of_rules.prog w K mg base ([cp_fine_lists, cp_fine_places].map (·.2)) 1 "_law_next" sp__law_next := c__law_next F__law_next (gl "_law_next" (by decide)) B
    have x__law_anchor : Cal PySem.Challenge.rw_everydue_k16_faults_of_rules.prog w K mg base ([cp_fine_lists, cp_fine_places].map (·.2)) 2 "_law_anchor" sp__law_anchor := c__law_anchor F__law_anchor (gl "_law_anchor" (by decide)) B x__law_next
    have x__law_members : Cal PySem.Challenge.rw_everydue_k16_faults_of_rules.prog w K mg base ([cp_fine_lists, cp_fine_places].map (·.2)) 2 "_law_members" sp__law_members := c__law_members F__law_members (gl "_law_members" (by decide)) B x__law_next
    have x__law_rule : Cal PySem.Challenge.rw_everydue_k16_faults_of_rules.prog w K mg base ([cp_fine_lists, cp_fine_places].map (·.2)) 3 "_law_rule" sp__law_rule := c__law_rule F__law_rule (gl "_law_rule" (by decide)) B x__law_next x__law_anchor x__law_members
    have x__law_spoilt : Cal PySem.Challenge.rw_everydue_k16_faults_of_rules.prog w K mg base ([cp_fine_lists, cp_fine_places].map (·.2)) 2 "_law_spoilt" sp__law_spoilt := c__law_spoilt F__law_spoilt (gl "_law_spoilt" (by decide)) B x__law_next
    subst ef
    exact c_law F_law (gl "law" (by decide)) B x_rule_fault x__law_box x__law_next x__law_rule x__law_spoilt
end Px
open PySem PySem.W PySem.Calls PyProof.Rows
theorem PySem.Challenge.cw_everydue_k16_faults_of_rules_holds : PySem.Challenge.rw_everydue_k16_faults_of_rules.Holds := by
  w_on; o_law
  refine HandSHeadRun.head_any (r := OpenLaw.row PySem.Challenge.rw_everydue_k16_faults_of_rules) (q := view (OpenLaw.row PySem.Challenge.rw_everydue_k16_faults_of_rules).prog [19]) (H := Px.hk) (ob := Px.ob) (M := 2000) (loose := Px.looseL) (d := HandSHeadRun.topDef (OpenLaw.row PySem.Challenge.rw_everydue_k16_faults_of_rules).prog 19) (kwd := []) Px.ob_eq
    (by kernel_rfl) (fun s => by kernel_rfl) Px.run (by kernel_rfl) (by kernel_rfl) (by kernel_rfl) (by rfl) (by first | assumption | decide +kernel) (by decide +kernel) ⟨rfl, rfl, rfl, rfl, rfl, by decide +kernel⟩ ?hw ?hc
  case hw => w_witness2
  case hc =>
    refine LamX.walk_ofTsE (l := PySem.Challenge.rw_everydue_k16_faults_of_rules) (n := 63) (k := 6) (x := "script") (CX := fun w => L2.CX PySem.Challenge.rw_everydue_k16_faults_of_rules.prog w) rfl (by decide) (by kernel_rfl) ⟨rfl, by decide, by decide⟩ ?F ?X
    case F =>
      intro w mg fa h Y G hmg0
      obtain ⟨K, cs, S⟩ := Y
      have hmg : mg ("law" : PySem.Str) = some (.ref fa) := by
        have e : (HandSHeadRun.topDef (OpenLaw.row PySem.Challenge.rw_everydue_k16_faults_of_rules).prog 19).name = ("law" : PySem.Str) := by kernel_rfl
        rw [← e]
        exact hmg0
      exact ⟨K, S.kin, Px.facts S G hmg⟩
    case X => exact Px.cx_no
