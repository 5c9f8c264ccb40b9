import PyProof.Rows.All
import Wide.All
import OpenK.AllK
import Wide.FinOn
import HandS.ForMost
import HandS.IsInst
import HandS.Deep
import HandS.NoneIn
import HandS.Style
import HandS.Zip
import HandS.Walk
import HandS.More
import HandS.TupAny
import KE.GoesEnum
import PyProof.Rows.TupDisplay
import HandS.Strs
import HandS.SetFor
import HandS.TupSets
import PySem.Challenge.RW_stairrooms_k31_whole_least_closed
set_option Elab.async false
set_option linter.all false
set_option maxRecDepth 100000
set_option maxHeartbeats 2000000
/-! What a reading comes to over plain data: slots hold data (shared) or own what they change. -/
namespace Sr
open PySem L2

/-! ### a heap without what is hidden -/
def wo (F : Addr → Bool) (H : Hp) : Hp := fun b => if F b = true then none else H b
theorem wo_iff {F : Addr → Bool} {H : Hp} {b : Addr} {o : HO} : wo F H b = some o ↔ F b = false ∧ H b = some o := by
  unfold wo
  cases F b with
  | true => simp
  | false => simp
theorem wo_at {F : Addr → Bool} {H : Hp} {b : Addr} {o : HO} (h1 : F b = false) (h2 : H b = some o) : wo F H b = some o := wo_iff.mpr ⟨h1, h2⟩
theorem wo_mono {F : Addr → Bool} {H H' : Hp} (s : Same H H') : Same (wo F H) (wo F H') := fun b o e =>
  have q := wo_iff.mp e
  wo_at q.1 (s b o q.2)
theorem wo_sub {F : Addr → Bool} {H : Hp} : Same (wo F H) H := fun _ _ e => (wo_iff.mp e).2
theorem wo_le {F F' : Addr → Bool} {H : Hp} (h : ∀ b, F b = true → F' b = true) : Same (wo F' H) (wo F H) := fun b o e => by
  have q := wo_iff.mp e
  refine wo_at ?_ q.2
  cases hb : F b with
  | false => rfl
  | true => rw [h b hb] at q; exact absurd q.1 (by decide)
def add (p : Addr) (F : Addr → Bool) : Addr → Bool := fun b => F b || decide (b = p)
theorem add_self {p : Addr} {F : Addr → Bool} : add p F p = true := by simp [add]
theorem add_ne {p b : Addr} {F : Addr → Bool} (h : b ≠ p) : add p F b = F b := by simp [add, h]
theorem add_le {p : Addr} {F : Addr → Bool} : ∀ b, F b = true → add p F b = true := fun b h => by simp [add, h]
theorem wo_upd {F : Addr → Bool} {H : Hp} {p : Addr} {o : HO} (h : F p = true) : wo F (upd H p o) = wo F H := by
  funext b
  unfold wo
  by_cases e : b = p
  · subst e
    rw [if_pos h, if_pos h]
  · rw [upd_ne e]
theorem same_new {H : Hp} {p : Addr} {o : HO} (h : H p = none) : Same H (upd H p o) := fun b u e => by
  rw [upd_ne (ne_of_none e h)]
  exact e
theorem wo_none {F : Addr → Bool} {H : Hp} {p : Addr} (h : H p = none) : wo F H p = none := by
  unfold wo
  split
  · rfl
  · exact h

/-! ### data -/
def keyD : Key → PyData
  | .inl i => .int i
  | .inr x => .str x
mutual
/-- v is that datum in H -/
def Rp (K : PySem.W.Frag) (H : Hp) : PyData → V → Prop
  | .none, v => v = .non
  | .bool b, v => v = .bl b
  | .int i, v => v = .int i
  | .str x, v => v = .str x
  | .list ds, v => ∃ a xs, v = .ref a ∧ SqL K H a xs ∧ RpAll K H ds xs
  | .tuple ds, v => ∃ a xs, v = .ref a ∧ H a = some (.tup xs) ∧ RpAll K H ds xs
  | .dict kvs, v => ∃ a ks, v = .ref a ∧ H a = some (.dT ks) ∧ RpKv K H kvs ks
def RpAll (K : PySem.W.Frag) (H : Hp) : List PyData → List V → Prop
  | [], vs => vs = []
  | d :: ds, vs => ∃ v r, vs = v :: r ∧ Rp K H d v ∧ RpAll K H ds r
def RpKv (K : PySem.W.Frag) (H : Hp) : List (PyData × PyData) → List (List Key × V) → Prop
  | [], ks => ks = []
  | (k, d) :: r, ks => ∃ kk v s, ks = (kk, v) :: s ∧ k = .tuple (kk.map keyD) ∧ Rp K H d v ∧ RpKv K H r s
end
section
variable {K : PySem.W.Frag}
theorem sql_mono {H H' : Hp} {a : Addr} {xs : List V} (s : Same H H') (h : SqL K H a xs) : SqL K H' a xs := s.seq h
mutual
theorem Rp.mono {H H' : Hp} (s : Same H H') : ∀ {d : PyData} {v : V}, Rp K H d v → Rp K H' d v
  | .none, _, h => h
  | .bool _, _, h => h
  | .int _, _, h => h
  | .str _, _, h => h
  | .list _, _, h => by
    obtain ⟨a, xs, e, h1, h2⟩ := h
    exact ⟨a, xs, e, s.seq h1, RpAll.mono s h2⟩
  | .tuple _, _, h => by
    obtain ⟨a, xs, e, h1, h2⟩ := h
    exact ⟨a, xs, e, s _ _ h1, RpAll.mono s h2⟩
  | .dict _, _, h => by
    obtain ⟨a, ks, e, h1, h2⟩ := h
    exact ⟨a, ks, e, s _ _ h1, RpKv.mono s h2⟩
theorem RpAll.mono {H H' : Hp} (s : Same H H') : ∀ {ds : List PyData} {vs : List V}, RpAll K H ds vs → RpAll K H' ds vs
  | [], _, h => h
  | _ :: _, _, h => by
    obtain ⟨v, r, e, h1, h2⟩ := h
    exact ⟨v, r, e, Rp.mono s h1, RpAll.mono s h2⟩
theorem RpKv.mono {H H' : Hp} (s : Same H H') : ∀ {ds : List (PyData × PyData)} {ks : List (List Key × V)}, RpKv K H ds ks → RpKv K H' ds ks
  | [], _, h => h
  | (_, _) :: _, _, h => by
    obtain ⟨kk, v, r, e, e2, h1, h2⟩ := h
    exact ⟨kk, v, r, e, e2, Rp.mono s h1, RpKv.mono s h2⟩
end
theorem RpAll.length {H : Hp} : ∀ {ds : List PyData} {vs : List V}, RpAll K H ds vs → ds.length = vs.length
  | [], _, h => by
    have e : _ = [] := h
    rw [e] <;> rfl
  | _ :: ds, _, h => by
    obtain ⟨v, r, e, _, h2⟩ := h
    rw [e, List.length_cons, List.length_cons, RpAll.length h2]
theorem RpAll.get {H : Hp} : ∀ {ds : List PyData} {vs : List V} {i : Nat} {d : PyData}, RpAll K H ds vs → ds[i]? = some d → ∃ v, vs[i]? = some v ∧ Rp K H d v
  | [], _, _, _, _, e => by simp at e
  | _ :: ds, _, 0, d, h, e => by
    obtain ⟨v, r, rfl, h1, h2⟩ := h
    have e1 : _ = d := Option.some.inj e
    subst e1
    exact ⟨v, rfl, h1⟩
  | _ :: ds, _, i + 1, d, h, e => by
    obtain ⟨v, r, rfl, h1, h2⟩ := h
    obtain ⟨u, q1, q2⟩ := RpAll.get (i := i) h2 e
    exact ⟨u, q1, q2⟩
theorem RpAll.getV {H : Hp} {ds : List PyData} {vs : List V} {i : Nat} {v : V} (h : RpAll K H ds vs) (e : vs[i]? = some v) : ∃ d, ds[i]? = some d ∧ Rp K H d v := by
  have hl := (List.getElem?_eq_some_iff.mp e).1
  have hl2 : i < ds.length := by rw [h.length]; exact hl
  obtain ⟨u, q1, q2⟩ := h.get (List.getElem?_eq_getElem hl2)
  rw [e] at q1
  cases q1
  exact ⟨_, List.getElem?_eq_getElem hl2, q2⟩
theorem RpAll.append {H : Hp} : ∀ {ds es : List PyData} {vs us : List V}, RpAll K H ds vs → RpAll K H es us → RpAll K H (ds ++ es) (vs ++ us)
  | [], _, _, _, h, h' => by
    have e : _ = [] := h
    rw [e]
    exact h'
  | _ :: ds, _, _, _, h, h' => by
    obtain ⟨v, r, rfl, h1, h2⟩ := h
    exact ⟨v, _, rfl, h1, RpAll.append h2 h'⟩
theorem RpAll.one {H : Hp} {d : PyData} {v : V} (h : Rp K H d v) : RpAll K H [d] [v] := ⟨v, [], rfl, h, rfl⟩
theorem RpAll.nil {H : Hp} : RpAll K H [] [] := rfl
theorem RpAll.cons {H : Hp} {d : PyData} {v : V} {ds : List PyData} {vs : List V} (h : Rp K H d v) (t : RpAll K H ds vs) : RpAll K H (d :: ds) (v :: vs) := ⟨v, vs, rfl, h, t⟩
theorem RpAll.set {H : Hp} {d : PyData} {v : V} (h : Rp K H d v) : ∀ {ds : List PyData} {vs : List V} (i : Nat), RpAll K H ds vs → RpAll K H (ds.set i d) (vs.set i v)
  | [], _, _, q => by
    have e : _ = [] := q
    rw [e]
    exact rfl
  | _ :: ds, _, 0, q => by
    obtain ⟨u, r, rfl, h1, h2⟩ := q
    exact ⟨v, r, rfl, h, h2⟩
  | _ :: ds, _, i + 1, q => by
    obtain ⟨u, r, rfl, h1, h2⟩ := q
    exact ⟨u, _, rfl, h1, RpAll.set h i h2⟩
theorem RpAll.take {H : Hp} : ∀ {ds : List PyData} {vs : List V} (n : Nat), RpAll K H ds vs → RpAll K H (ds.take n) (vs.take n)
  | _, _, 0, _ => rfl
  | [], _, n + 1, q => by
    have e : _ = [] := q
    rw [e]
    exact rfl
  | _ :: ds, _, n + 1, q => by
    obtain ⟨u, r, rfl, h1, h2⟩ := q
    exact ⟨u, _, rfl, h1, RpAll.take n h2⟩
theorem RpAll.drop {H : Hp} : ∀ {ds : List PyData} {vs : List V} (n : Nat), RpAll K H ds vs → RpAll K H (ds.drop n) (vs.drop n)
  | _, _, 0, q => q
  | [], _, n + 1, q => by
    have e : _ = [] := q
    rw [e]
    exact rfl
  | _ :: ds, _, n + 1, q => by
    obtain ⟨u, r, rfl, h1, h2⟩ := q
    exact RpAll.drop n h2
theorem RpAll.rev {H : Hp} : ∀ {ds : List PyData} {vs : List V}, RpAll K H ds vs → RpAll K H ds.reverse vs.reverse
  | [], _, q => by
    have e : _ = [] := q
    rw [e]
    exact rfl
  | d :: ds, _, q => by
    obtain ⟨u, r, rfl, h1, h2⟩ := q
    rw [List.reverse_cons, List.reverse_cons]
    exact RpAll.append (RpAll.rev h2) (RpAll.one h1)
theorem RpAll.rep {H : Hp} {ds : List PyData} {vs : List V} (h : RpAll K H ds vs) : ∀ k : Nat, RpAll K H (List.replicate k ds).flatten (List.replicate k vs).flatten
  | 0 => rfl
  | k + 1 => by
    rw [List.replicate_succ, List.replicate_succ, List.flatten_cons, List.flatten_cons]
    exact RpAll.append h (RpAll.rep h k)
theorem rpAll_ints {H : Hp} : ∀ {ns : List Int} {vs : List V}, RpAll K H (ns.map PyData.int) vs → vs = ns.map V.int
  | [], _, h => h
  | n :: ns, _, h => by
    obtain ⟨v, r, rfl, h1, h2⟩ := h
    have e : v = .int n := h1
    rw [e, rpAll_ints h2]
    rfl
theorem rpAll_bools {H : Hp} : ∀ {ns : List Bool} {vs : List V}, RpAll K H (ns.map PyData.bool) vs → vs = ns.map V.bl
  | [], _, h => h
  | n :: ns, _, h => by
    obtain ⟨v, r, rfl, h1, h2⟩ := h
    have e : v = .bl n := h1
    rw [e, rpAll_bools h2]
    rfl
theorem ints_rpAll {H : Hp} : ∀ (ns : List Int), RpAll K H (ns.map PyData.int) (ns.map V.int)
  | [] => rfl
  | n :: ns => ⟨_, _, rfl, rfl, ints_rpAll ns⟩
mutual
theorem Rp.dp {H : Hp} : ∀ {d : PyData} {v : V}, Rp K H d v → SeqAt.shaped d = true → Dp K H v d
  | .none, _, h, _ => by cases h; exact .non
  | .bool _, _, h, _ => by cases h; exact .bl _
  | .int _, _, h, _ => by cases h; exact .int _
  | .str _, _, h, _ => by cases h; exact .str _
  | .list ds, _, h, hs => by
    obtain ⟨a, xs, rfl, h1, h2⟩ := h
    exact .lst h1 (RpAll.dp h2 (SeqAt.canLay_of_shaped hs))
  | .tuple ds, _, h, hs => by
    obtain ⟨a, xs, rfl, h1, h2⟩ := h
    exact .tup (.inl (.inl h1)) (RpAll.dp h2 (SeqAt.canLay_of_shaped hs))
  | .dict _, _, h, hs => absurd (SeqAt.canLay_of_shaped hs) (by simp [PyData.canLay0])
theorem RpAll.dp {H : Hp} : ∀ {ds : List PyData} {vs : List V}, RpAll K H ds vs → PyData.canLayAll0 ds = true → DpAll K H vs ds
  | [], _, h, _ => by
    have e : _ = [] := h
    rw [e]
    exact .nil
  | d :: ds, _, h, hs => by
    obtain ⟨v, r, rfl, h1, h2⟩ := h
    have q : PyData.canLay0 d = true ∧ PyData.canLayAll0 ds = true := by
      simpa [PyData.canLayAll0] using hs
    exact .cons (Rp.dpc h1 q.1) (RpAll.dp h2 q.2)
theorem Rp.dpc {H : Hp} : ∀ {d : PyData} {v : V}, Rp K H d v → PyData.canLay0 d = true → Dp K H v d
  | .none, _, h, _ => by cases h; exact .non
  | .bool _, _, h, _ => by cases h; exact .bl _
  | .int _, _, h, _ => by cases h; exact .int _
  | .str _, _, h, _ => by cases h; exact .str _
  | .list ds, _, h, hs => by
    obtain ⟨a, xs, rfl, h1, h2⟩ := h
    exact .lst h1 (RpAll.dp h2 hs)
  | .tuple ds, _, h, hs => by
    obtain ⟨a, xs, rfl, h1, h2⟩ := h
    exact .tup (.inl (.inl h1)) (RpAll.dp h2 hs)
  | .dict _, _, h, hs => absurd hs (by simp [PyData.canLay0])
end
end

/-- a dict's pairs as data: its keys are tuples of ints -/
def toPD (kvs : List (List Int × PyData)) : List (PyData × PyData) := kvs.map fun p => (.tuple (p.1.map .int), p.2)
/-! ### what stands in the slots -/
/-- nothing that is asked; a datum; a list of its own that may change; a dict of its own; a list of lists of its own -/
inductive Ent where
  | no
  | im (d : PyData)
  | ml (xs : List PyData)
  | md (kvs : List (List Int × PyData))
  | mt (rows : List (List PyData))
/-- what the def was handed: the heap, what is hidden in it -/
structure Bs where
  B : Hp
  F0 : Addr → Bool
section
variable (K : PySem.W.Frag)
def RowsAt (F : Addr → Bool) (H : Hp) (rows : List (List PyData)) (as : List Addr) : Prop :=
  as.length = rows.length ∧ ∀ (i : Nat) (a : Addr) (r : List PyData), as[i]? = some a → rows[i]? = some r → ∃ vs, H a = some (.lst vs) ∧ RpAll K (wo F H) r vs
def EntAt (F : Addr → Bool) (H : Hp) (own : Addr → Prop) (o : Option (Option V)) : Ent → Prop
  | .no => True
  | .im d => ∃ v, o = some (some v) ∧ Rp K (wo F H) d v
  | .ml xs => ∃ p vs, o = some (some (.ref p)) ∧ own p ∧ H p = some (.lst vs) ∧ RpAll K (wo F H) xs vs
  | .md kvs => ∃ p ks, o = some (some (.ref p)) ∧ own p ∧ H p = some (.dT ks) ∧ RpKv K (wo F H) (toPD kvs) ks
  | .mt rows => ∃ p as, o = some (some (.ref p)) ∧ own p ∧ (∀ a ∈ as, own a) ∧ p ∉ as ∧ as.Nodup ∧ H p = some (.lst (as.map V.ref)) ∧ RowsAt K F H rows as
structure Env (Z : Bs) (F : Addr → Bool) (H : Hp) (σ : L2.St) (es : List Ent) : Prop where
  base : ∀ b o, Z.B b = some o → H b = some o ∧ (F b = true → Z.F0 b = true)
  hid : ∀ b, Z.F0 b = true → F b = true
  fin : ∀ b, F b = true → ∃ o, H b = some o
  len : σ.length = es.length
  own : ∃ own : Nat → Addr → Prop, (∀ i p, own i p → F p = true ∧ Z.F0 p = false) ∧ (∀ i j p, own i p → own j p → i = j) ∧ ∀ i e, es[i]? = some e → EntAt K F H (own i) σ[i]? e
end
section
variable {K : PySem.W.Frag}
theorem EntAt.mono {F : Addr → Bool} {H H' : Hp} {own : Addr → Prop} {o : Option (Option V)} (s : Same H H') : ∀ {e : Ent}, EntAt K F H own o e → EntAt K F H' own o e
  | .no, _ => trivial
  | .im _, h => by
    obtain ⟨v, e, h⟩ := h
    exact ⟨v, e, Rp.mono (wo_mono s) h⟩
  | .ml _, h => by
    obtain ⟨p, vs, e, ho, hp, h⟩ := h
    exact ⟨p, vs, e, ho, s _ _ hp, RpAll.mono (wo_mono s) h⟩
  | .md _, h => by
    obtain ⟨p, vs, e, ho, hp, h⟩ := h
    exact ⟨p, vs, e, ho, s _ _ hp, RpKv.mono (wo_mono s) h⟩
  | .mt _, h => by
    obtain ⟨p, as, e, ho, ha, hn, hd, hp, hl, h⟩ := h
    refine ⟨p, as, e, ho, ha, hn, hd, s _ _ hp, hl, fun i a r h1 h2 => ?_⟩
    obtain ⟨vs, q1, q2⟩ := h i a r h1 h2
    exact ⟨vs, s _ _ q1, RpAll.mono (wo_mono s) q2⟩
variable {Z : Bs} {F : Addr → Bool} {H H' : Hp} {σ : L2.St} {es : List Ent}
theorem Env.mono (I : Env K Z F H σ es) (s : Same H H') : Env K Z F H' σ es := by
  obtain ⟨own, o1, o2, o3⟩ := I.own
  exact ⟨fun b o e => ⟨s _ _ (I.base b o e).1, (I.base b o e).2⟩, I.hid, fun b hb => (I.fin b hb).elim fun o e => ⟨o, s _ _ e⟩, I.len, own, o1, o2, fun i e h => (o3 i e h).mono s⟩
theorem Env.fresh (I : Env K Z F H σ es) {p : Addr} (h : H p = none) : F p = false := by
  cases hb : F p with
  | false => rfl
  | true =>
    obtain ⟨o, e⟩ := I.fin p hb
    rw [h] at e
    cases e
/-- a slot's datum -/
theorem Env.im (I : Env K Z F H σ es) {i : Nat} {d : PyData} (h : es[i]? = some (.im d)) : ∃ v, σ[i]? = some (some v) ∧ Rp K (wo F H) d v := by
  obtain ⟨own, o1, o2, o3⟩ := I.own
  exact o3 i _ h
theorem Env.ml (I : Env K Z F H σ es) {i : Nat} {xs : List PyData} (h : es[i]? = some (.ml xs)) : ∃ p vs, σ[i]? = some (some (.ref p)) ∧ F p = true ∧ Z.F0 p = false ∧ H p = some (.lst vs) ∧ RpAll K (wo F H) xs vs := by
  obtain ⟨own, o1, o2, o3⟩ := I.own
  obtain ⟨p, vs, e, ho, hp, q⟩ := o3 i _ h
  exact ⟨p, vs, e, (o1 i p ho).1, (o1 i p ho).2, hp, q⟩
theorem Env.md (I : Env K Z F H σ es) {i : Nat} {xs : List (List Int × PyData)} (h : es[i]? = some (.md xs)) : ∃ p vs, σ[i]? = some (some (.ref p)) ∧ F p = true ∧ Z.F0 p = false ∧ H p = some (.dT vs) ∧ RpKv K (wo F H) (toPD xs) vs := by
  obtain ⟨own, o1, o2, o3⟩ := I.own
  obtain ⟨p, vs, e, ho, hp, q⟩ := o3 i _ h
  exact ⟨p, vs, e, (o1 i p ho).1, (o1 i p ho).2, hp, q⟩
theorem Env.mt (I : Env K Z F H σ es) {i : Nat} {rows : List (List PyData)} (h : es[i]? = some (.mt rows)) : ∃ p as, σ[i]? = some (some (.ref p)) ∧ H p = some (.lst (as.map V.ref)) ∧ p ∉ as ∧ as.Nodup ∧ (∀ a ∈ as, F a = true) ∧ RowsAt K F H rows as := by
  obtain ⟨own, o1, o2, o3⟩ := I.own
  obtain ⟨p, as, e, ho, ha, hn, hd, hp, q⟩ := o3 i _ h
  exact ⟨p, as, e, hp, hn, hd, fun a hm => (o1 i a (ha a hm)).1, q⟩
/-- other slots' entries when slots, entries and owners change at i alone -/
theorem ent_other {own own' : Nat → Addr → Prop} {o' : Option V} {e' : Ent} {i : Nat} (o3 : ∀ j e, es[j]? = some e → EntAt K F H (own j) σ[j]? e) (hi : i < σ.length) (he : i < es.length)
    (ho : ∀ j, j ≠ i → own' j = own j) (h : EntAt K F H (own' i) (some o') e') : ∀ j e, (es.set i e')[j]? = some e → EntAt K F H (own' j) (σ.set i o')[j]? e := fun j e q => by
  by_cases c : j = i
  · subst c
    rw [List.getElem?_set_self he] at q
    cases q
    rw [List.getElem?_set_self hi]
    exact h
  · rw [List.getElem?_set_ne (Ne.symm c)] at q
    rw [List.getElem?_set_ne (Ne.symm c), ho j c]
    exact o3 j e q
/-- a slot takes a datum -/
theorem Env.put (I : Env K Z F H σ es) {i : Nat} {d : PyData} {v : V} (hi : i < es.length) (h : Rp K (wo F H) d v) : Env K Z F H (σ.set i (some v)) (es.set i (.im d)) := by
  obtain ⟨own, o1, o2, o3⟩ := I.own
  refine ⟨I.base, I.hid, I.fin, by rw [List.length_set, List.length_set]; exact I.len, fun j p => j ≠ i ∧ own j p, fun j p q => o1 j p q.2, fun j k p q r => o2 j k p q.2 r.2, ?_⟩
  have o3' : ∀ j e, es[j]? = some e → EntAt K F H (own j) σ[j]? e := o3
  intro j e q
  by_cases c : j = i
  · subst c
    rw [List.getElem?_set_self hi] at q
    cases q
    rw [List.getElem?_set_self (by rw [I.len]; exact hi)]
    exact ⟨v, rfl, h⟩
  · rw [List.getElem?_set_ne (Ne.symm c)] at q
    rw [List.getElem?_set_ne (Ne.symm c)]
    have e0 : (fun p => j ≠ i ∧ own j p) = own j := by
      funext p
      exact propext ⟨fun z => z.2, fun z => ⟨c, z⟩⟩
    show EntAt K F H (fun p => j ≠ i ∧ own j p) σ[j]? e
    rw [e0]
    exact o3 j e q
/-- a slot is forgotten -/
theorem Env.wipe1 (I : Env K Z F H σ es) {i : Nat} : Env K Z F H (σ.set i none) (es.set i .no) := by
  obtain ⟨own, o1, o2, o3⟩ := I.own
  refine ⟨I.base, I.hid, I.fin, by rw [List.length_set, List.length_set]; exact I.len, own, o1, o2, fun j e q => ?_⟩
  by_cases c : j = i
  · subst c
    by_cases hi : j < es.length
    · rw [List.getElem?_set_self hi] at q
      cases q
      trivial
    · rw [List.getElem?_eq_none (by rw [List.length_set]; omega)] at q
      cases q
  · rw [List.getElem?_set_ne (Ne.symm c)] at q
    rw [List.getElem?_set_ne (Ne.symm c)]
    exact o3 j e q
/-- entries of a later heap where p, new, is hidden too -/
theorem same_hide {p : Addr} (s : Same H H') (hp : H p = none) : Same (wo F H) (wo (add p F) H') := fun b o q => by
  have z := wo_iff.mp q
  exact wo_at (by rw [add_ne (ne_of_none z.2 hp)]; exact z.1) (s b o z.2)
theorem EntAt.hide {own : Addr → Prop} {o : Option (Option V)} {p : Addr} (s2 : Same H H') (hp : H p = none) : ∀ {e : Ent}, EntAt K F H own o e → EntAt K (add p F) H' own o e := by
  have s1 : Same (wo F H) (wo (add p F) H') := same_hide s2 hp
  intro e h
  cases e with
  | no => trivial
  | im d =>
    obtain ⟨v, e, h⟩ := h
    exact ⟨v, e, Rp.mono s1 h⟩
  | ml xs =>
    obtain ⟨q, vs, e, ho, hq, h⟩ := h
    exact ⟨q, vs, e, ho, s2 _ _ hq, RpAll.mono s1 h⟩
  | md xs =>
    obtain ⟨q, vs, e, ho, hq, h⟩ := h
    exact ⟨q, vs, e, ho, s2 _ _ hq, RpKv.mono s1 h⟩
  | mt rows =>
    obtain ⟨q, as, e, ho, ha, hn, hd, hq, hl, h⟩ := h
    refine ⟨q, as, e, ho, ha, hn, hd, s2 _ _ hq, hl, fun i a r h1 h2 => ?_⟩
    obtain ⟨vs, q1, q2⟩ := h i a r h1 h2
    exact ⟨vs, s2 _ _ q1, RpAll.mono s1 q2⟩
/-- p, new, is hidden (a comprehension's list while it grows) -/
theorem Env.hide (I : Env K Z F H σ es) {p : Addr} (s : Same H H') (hp : H p = none) (hx : ∃ u, H' p = some u) : Env K Z (add p F) H' σ es := by
  obtain ⟨own, o1, o2, o3⟩ := I.own
  refine ⟨fun b o q => ?_, fun b q => add_le b (I.hid b q), fun b q => ?_, I.len, own, fun i q h => ⟨add_le q (o1 i q h).1, (o1 i q h).2⟩, o2, fun i e h => (o3 i e h).hide s hp⟩
  · have z := I.base b o q
    rw [add_ne (ne_of_none z.1 hp)]
    exact ⟨s _ _ z.1, z.2⟩
  · by_cases nb : b = p
    · subst nb
      exact hx
    · rw [add_ne nb] at q
      obtain ⟨o, e⟩ := I.fin b q
      exact ⟨o, s _ _ e⟩
/-- a slot takes what it owns: p, new -/
theorem Env.mine (I : Env K Z F H σ es) {p : Addr} {i : Nat} {e : Ent} (s : Same H H') (hp : H p = none) (hx : ∃ u, H' p = some u) (hi : i < es.length)
    (h : EntAt K (add p F) H' (fun q => q = p) (some (some (.ref p))) e) : Env K Z (add p F) H' (σ.set i (some (.ref p))) (es.set i e) := by
  have fp := I.fresh hp
  have J := I.hide s hp hx
  obtain ⟨own, o1, o2, o3⟩ := I.own
  refine ⟨J.base, J.hid, J.fin, by rw [List.length_set, List.length_set]; exact I.len, fun j q => if j = i then q = p else own j q, fun j q hq => ?_, fun j k q h1 h2 => ?_, fun j e' q => ?_⟩
  · by_cases c : j = i
    · have hq' : q = p := by simpa [c] using hq
      subst hq'
      refine ⟨add_self, ?_⟩
      cases hf : Z.F0 q with
      | false => rfl
      | true => rw [I.hid q hf] at fp; cases fp
    · have hq' : own j q := by simpa [c] using hq
      exact ⟨add_le q (o1 j q hq').1, (o1 j q hq').2⟩
  · have no : ∀ l, own l q → q = p → False := fun l h3 h4 => by
      subst h4
      rw [(o1 l q h3).1] at fp
      cases fp
    by_cases c : j = i <;> by_cases c2 : k = i
    · rw [c, c2]
    · exact (no k (by simpa [c2] using h2) (by simpa [c] using h1)).elim
    · exact (no j (by simpa [c] using h1) (by simpa [c2] using h2)).elim
    · exact o2 j k q (by simpa [c] using h1) (by simpa [c2] using h2)
  · by_cases c : j = i
    · subst c
      rw [List.getElem?_set_self hi] at q
      cases q
      rw [List.getElem?_set_self (by rw [I.len]; exact hi)]
      have e0 : (fun q => if j = j then q = p else own j q) = fun q => q = p := by
        funext q
        rw [if_pos rfl]
      show EntAt K (add p F) H' (fun q => if j = j then q = p else own j q) _ _
      rw [e0]
      exact h
    · rw [List.getElem?_set_ne (Ne.symm c)] at q
      rw [List.getElem?_set_ne (Ne.symm c)]
      have e0 : (fun q => if j = i then q = p else own j q) = own j := by
        funext q
        rw [if_neg c]
      show EntAt K (add p F) H' (fun q => if j = i then q = p else own j q) _ _
      rw [e0]
      exact (o3 j e' q).hide s hp
/-- a slot's own object is changed -/
theorem Env.change (I : Env K Z F H σ es) {i : Nat} {e e' : Ent} {p : Addr} {o : HO} (he : es[i]? = some e) (hp : ∀ own : Nat → Addr → Prop, (∀ i p, own i p → F p = true ∧ Z.F0 p = false) → (∀ i j p, own i p → own j p → i = j) →
      (∀ i e, es[i]? = some e → EntAt K F H (own i) σ[i]? e) → own i p ∧ EntAt K F (upd H p o) (own i) σ[i]? e') : Env K Z F (upd H p o) σ (es.set i e') := by
  obtain ⟨own, o1, o2, o3⟩ := I.own
  obtain ⟨ow, new⟩ := hp own o1 o2 o3
  have fp := o1 i p ow
  have hi : i < es.length := (List.getElem?_eq_some_iff.mp he).1
  refine ⟨fun b u q => ?_, I.hid, fun b q => ?_, by rw [List.length_set]; exact I.len, own, o1, o2, fun j u q => ?_⟩
  · have z := I.base b u q
    have nb : b ≠ p := fun c => by
      subst c
      rw [z.2 fp.1] at fp
      exact absurd fp.2 (by decide)
    rw [upd_ne nb]
    exact z
  · by_cases nb : b = p
    · subst nb
      exact ⟨o, upd_same⟩
    · rw [upd_ne nb]
      exact I.fin b q
  · by_cases c : j = i
    · subst c
      rw [List.getElem?_set_self hi] at q
      cases q
      exact new
    · rw [List.getElem?_set_ne (Ne.symm c)] at q
      have h := o3 j u q
      have ne : ∀ b, own j b → b ≠ p := fun b hb z => c (o2 j i p (z ▸ hb) ow)
      have w : wo F (upd H p o) = wo F H := wo_upd fp.1
      cases u with
      | no => trivial
      | im d =>
        obtain ⟨v, e1, h⟩ := h
        exact ⟨v, e1, by rw [w]; exact h⟩
      | ml xs =>
        obtain ⟨b, vs, e1, ho, hb, h⟩ := h
        exact ⟨b, vs, e1, ho, by rw [upd_ne (ne b ho)]; exact hb, by rw [w]; exact h⟩
      | md xs =>
        obtain ⟨b, vs, e1, ho, hb, h⟩ := h
        exact ⟨b, vs, e1, ho, by rw [upd_ne (ne b ho)]; exact hb, by rw [w]; exact h⟩
      | mt rows =>
        obtain ⟨b, as, e1, ho, ha, hn, hd, hb, hl, h⟩ := h
        refine ⟨b, as, e1, ho, ha, hn, hd, by rw [upd_ne (ne b ho)]; exact hb, hl, fun k a r h1 h2 => ?_⟩
        obtain ⟨vs, q1, q2⟩ := h k a r h1 h2
        exact ⟨vs, by rw [upd_ne (ne a (ha a (List.mem_of_getElem? h1)))]; exact q1, by rw [w]; exact q2⟩
/-- what a slot owns becomes a datum -/
theorem Env.freeze (I : Env K Z F H σ es) {i : Nat} {e : Ent} {d : PyData} (he : es[i]? = some e) (h : ∀ (own : Addr → Prop) (F' : Addr → Bool), (∀ b, F' b = true → F b = true) → (∀ p, own p → F' p = false) → EntAt K F H own σ[i]? e →
      ∃ v, σ[i]? = some (some v) ∧ Rp K (wo F' H) d v) : ∃ F', Env K Z F' H σ (es.set i (.im d)) := by
  obtain ⟨own, o1, o2, o3⟩ := I.own
  have hi : i < es.length := (List.getElem?_eq_some_iff.mp he).1
  classical
  refine ⟨fun b => F b && !decide (own i b), fun b o q => ?_, fun b q => ?_, fun b q => ?_, by rw [List.length_set]; exact I.len, fun j p => j ≠ i ∧ own j p, fun j p q => ?_, fun j k p h1 h2 => o2 j k p h1.2 h2.2, fun j u q => ?_⟩
  · have z := I.base b o q
    exact ⟨z.1, fun y => z.2 (by simp at y; exact y.1)⟩
  · have z := I.hid b q
    have no : ¬ own i b := fun y => by
      rw [(o1 i b y).2] at q
      cases q
    simp [z, no]
  · simp at q
    exact I.fin b q.1
  · have z := o1 j p q.2
    have no : ¬ own i p := fun y => q.1 (o2 j i p q.2 y)
    simp [z, no]
  · have le : ∀ b, (F b && !decide (own i b)) = true → F b = true := fun b y => by
      simp at y
      exact y.1
    by_cases c : j = i
    · subst c
      rw [List.getElem?_set_self hi] at q
      cases q
      obtain ⟨v, e1, r⟩ := h (own j) (fun b => F b && !decide (own j b)) le (fun p y => by simp [y]) (o3 j e he)
      exact ⟨v, e1, r⟩
    · rw [List.getElem?_set_ne (Ne.symm c)] at q
      have h := o3 j u q
      have m : Same (wo F H) (wo (fun b => F b && !decide (own i b)) H) := wo_le le
      cases u with
      | no => trivial
      | im d =>
        obtain ⟨v, e1, h⟩ := h
        exact ⟨v, e1, Rp.mono m h⟩
      | ml xs =>
        obtain ⟨b, vs, e1, ho, hb, h⟩ := h
        exact ⟨b, vs, e1, ⟨c, ho⟩, hb, RpAll.mono m h⟩
      | md xs =>
        obtain ⟨b, vs, e1, ho, hb, h⟩ := h
        exact ⟨b, vs, e1, ⟨c, ho⟩, hb, RpKv.mono m h⟩
      | mt rows =>
        obtain ⟨b, as, e1, ho, ha, hn, hd, hb, hl, h⟩ := h
        refine ⟨b, as, e1, ⟨c, ho⟩, fun a ham => ⟨c, ha a ham⟩, hn, hd, hb, hl, fun k a r h1 h2 => ?_⟩
        obtain ⟨vs, q1, q2⟩ := h k a r h1 h2
        exact ⟨vs, q1, RpAll.mono m q2⟩
/-- the same, from the heap as it stands now -/
def nowB (Z : Bs) (F : Addr → Bool) (H : Hp) : Bs := ⟨fun b => if F b = true ∧ Z.F0 b = false then none else H b, Z.F0⟩
theorem nowB_of {b : Addr} {o : HO} (e : (nowB Z F H).B b = some o) : H b = some o ∧ (F b = true → Z.F0 b = true) := by
  unfold nowB at e
  simp only at e
  split at e
  · cases e
  · rename_i h
    refine ⟨e, fun hf => ?_⟩
    cases q : Z.F0 b with
    | true => rfl
    | false => exact (h ⟨hf, q⟩).elim
theorem nowB_at {b : Addr} {o : HO} (e : H b = some o) (h : F b = true → Z.F0 b = true) : (nowB Z F H).B b = some o := by
  unfold nowB
  simp only
  rw [if_neg fun q => by rw [h q.1] at q; exact absurd q.2 (by decide)]
  exact e
theorem Env.now (I : Env K Z F H σ es) : Env K (nowB Z F H) F H σ es :=
  ⟨fun _ _ e => nowB_of e, I.hid, I.fin, I.len, I.own⟩
theorem Env.was {F1 : Addr → Bool} {H1 : Hp} {σ1 : L2.St} {es1 : List Ent} (I : Env K Z F H σ es) (J : Env K (nowB Z F H) F1 H1 σ1 es1) : Env K Z F1 H1 σ1 es1 :=
  ⟨fun b o e => J.base b o (nowB_at (I.base b o e).1 (I.base b o e).2), J.hid, J.fin, J.len, J.own⟩
theorem Env.since {F1 : Addr → Bool} {H1 : Hp} {σ1 : L2.St} {es1 : List Ent} (I : Env K Z F H σ es) (J : Env K (nowB Z F H) F1 H1 σ1 es1) : Same (wo F H) (wo F1 H1) := fun b o e => by
  have q := wo_iff.mp e
  have z := J.base b o (nowB_at q.2 fun c => by rw [q.1] at c; cases c)
  refine wo_at ?_ z.1
  cases h : F1 b with
  | false => rfl
  | true =>
    have w := I.hid b (z.2 h)
    rw [q.1] at w
    cases w
theorem Env.sinceB (I : Env K Z F H σ es) {H1 : Hp} (s : Same (nowB Z F H).B H1) : Same Z.B H1 := fun b o e => s b o (nowB_at (I.base b o e).1 (I.base b o e).2)
end
end Sr
set_option Elab.async false
set_option linter.all false
set_option maxRecDepth 100000
set_option maxHeartbeats 2000000
namespace Sr
open PySem L2
/-! ### what readings come to -/
section
variable (K : PySem.W.Frag)
/-- an expression comes to a datum -/
def Ye (te : TE) (es : List Ent) (d : PyData) : Prop := ∀ Z F H σ, Env K Z F H σ es → ∀ Q : VK, (∀ v H', Same H H' → Rp K (wo F H') d v → Q v H') → te σ H Q
/-- .. to a list to be read, its items data -/
def Yl (te : TE) (es : List Ent) (xs : List PyData) : Prop := ∀ Z F H σ, Env K Z F H σ es → ∀ Q : VK, (∀ a vs H', Same H H' → SqL K H' a vs → RpAll K (wo F H') xs vs → Q (.ref a) H') → te σ H Q
/-- .. to a new list -/
def Yf (te : TE) (es : List Ent) (xs : List PyData) : Prop := ∀ Z F H σ, Env K Z F H σ es → ∀ Q : VK, (∀ p vs H', Same H H' → H p = none → H' p = some (.lst vs) → RpAll K (wo (add p F) H') xs vs → Q (.ref p) H') → te σ H Q
def Yt (tt : TT) (es : List Ent) (b : Bool) : Prop := ∀ Z F H σ, Env K Z F H σ es → ∀ Q : Bool → Hp → Prop, (∀ H', Same H H' → Q b H') → tt σ H Q
def Ya (ta : TA) (es : List Ent) (ds : List PyData) : Prop := ∀ Z F H σ, Env K Z F H σ es → ∀ Q : List V → Hp → Prop, (∀ vs H', Same H H' → RpAll K (wo F H') ds vs → Q vs H') → ta σ H Q
def Yp (to : TO) (es : List Ent) (o : Option Int) : Prop := ∀ Z F H σ, Env K Z F H σ es → ∀ Q : Option Int → Hp → Prop, (∀ H', Same H H' → Q o H') → to σ H Q
/-- a statement's end -/
inductive Oc where
  | nx (es : List Ent)
  | rt (d : PyData)
  /-- an own list, handed out -/
  | rl (xs : List PyData)
def Go (Z : Bs) (D : Ends) : Oc → Prop
  | .nx es => ∀ F H σ, Env K Z F H σ es → D.nx σ H
  | .rt d => ∀ H v, Same Z.B H → Rp K (wo Z.F0 H) d v → D.rt v H
  | .rl xs => ∀ H p vs, Same Z.B H → Z.B p = none → H p = some (.lst vs) → RpAll K (wo (add p Z.F0) H) xs vs → D.rt (.ref p) H
def Yo (t : TS) (es : List Ent) (o : Oc) : Prop := ∀ Z F H σ D, Env K Z F H σ es → Go K Z D o → t D σ H
/-- a target takes a datum: the slots js change -/
def Yg (g : TG) (d : PyData) (es es' : List Ent) (js : List Nat) : Prop := ∀ Z F H σ v, Env K Z F H σ es → Rp K (wo F H) d v → ∀ Q : L2.St → Hp → Prop,
  (∀ σ', Env K Z F H σ' es' → (∀ vs : List Nat, (∀ j ∈ js, j ∈ vs) → wipe σ' vs = wipe σ vs) → Q σ' H) → g v σ H Q
def Ygs (g : TGs) (ds : List PyData) (es es' : List Ent) (js : List Nat) : Prop := ∀ Z F H σ vs, Env K Z F H σ es → RpAll K (wo F H) ds vs → ∀ Q : L2.St → Hp → Prop,
  (∀ σ', Env K Z F H σ' es' → (∀ vs : List Nat, (∀ j ∈ js, j ∈ vs) → wipe σ' vs = wipe σ vs) → Q σ' H) → g vs σ H Q
/-- what is walked gives the items, while the heap G stands -/
structure ItOk (G : Hp) (J : It) (items : List PyData) : Prop where
  go : ∀ F H i, Same G (wo F H) → i < items.length → J.go i H
  stop : ∀ F H, Same G (wo F H) → J.stop items.length H
  yld : ∀ F H i x H', Same G (wo F H) → (∀ b, F b = true → ∃ o, H b = some o) → i < items.length → J.yld i H x H' → Same H H' ∧ ∃ d, items[i]? = some d ∧ Rp K (wo F H') d x
def Yi (wi : TI) (es : List Ent) (items : List PyData) : Prop := ∀ Z F H σ, Env K Z F H σ es → ∀ R : It → Hp → Prop, (∀ J H', Same H H' → ItOk K (wo F H') J items → R J H') → wi σ H R
/-- a def's promise: of n data for which g tells r it hands back r -/
def spD (n : Nat) (g : List PyData → PyData → Prop) : Sp := fun vs H Q _ => ∃ F ds r, ds.length = n ∧ (∀ b, F b = true → ∃ o, H b = some o) ∧ RpAll K (wo F H) ds vs ∧ g ds r ∧ ∀ v H', Same H H' → Rp K (wo F H') r v → Q v H'
/-- .. a new list of which r is told -/
def spF (n : Nat) (g : List PyData → List PyData → Prop) : Sp := fun vs H Q _ => ∃ F ds xs, ds.length = n ∧ (∀ b, F b = true → ∃ o, H b = some o) ∧ RpAll K (wo F H) ds vs ∧ g ds xs ∧ ∀ p ws H', Same H H' → H p = none → H' p = some (.lst ws) → RpAll K (wo (add p F) H') xs ws → Q (.ref p) H'
end
section
variable {K : PySem.W.Frag} {es es' e1 : List Ent} {d d' : PyData} {ds xs ys : List PyData} {te ta tb tc : TE} {tA : TA} {t u : TT} {b c : Bool}
theorem sz_of {n : Nat} (h : n ≤ 100000) : n ≤ sizeLine := Nat.le_trans h (by decide)
theorem sz_lt {n : Nat} (h : n < 100000) : n < sizeLine := Nat.lt_of_lt_of_le h (by decide)
theorem Ye.to (h : Ye K te es d) (e : d = d') : Ye K te es d' := e ▸ h
theorem Yf.to (h : Yf K te es xs) (e : xs = ys) : Yf K te es ys := e ▸ h
theorem Yt.to (h : Yt K t es b) (e : b = c) : Yt K t es c := e ▸ h
theorem Yf.yl (h : Yf K te es xs) : Yl K te es xs := fun Z F H σ I Q q => h Z F H σ I Q fun p vs H' s hp hx r =>
  q p vs H' s (.inl (.inl hx)) (RpAll.mono (wo_le add_le) r)
theorem Yf.ye (h : Yf K te es xs) : Ye K te es (.list xs) := fun Z F H σ I Q q => h Z F H σ I Q fun p vs H' s hp hx r =>
  q (.ref p) H' s ⟨p, vs, rfl, .inl (.inl (wo_at (I.fresh hp) hx)), RpAll.mono (wo_le add_le) r⟩
theorem Ye.yl (h : Ye K te es (.list xs)) : Yl K te es xs := fun Z F H σ I Q q => h Z F H σ I Q fun v H' s r => by
  obtain ⟨a, vs, rfl, h1, h2⟩ := r
  exact q a vs H' s (wo_sub.seq h1) h2
theorem yl_var {i : Nat} (h : es[i]? = some (.ml xs)) : Yl K (tVar i) es xs := fun Z F H σ I Q q => by
  obtain ⟨p, vs, e, _, _, hp, r⟩ := I.ml h
  exact ⟨.ref p, e, q p vs H (Same.refl H) (.inl (.inl hp)) r⟩
theorem ye_var {i : Nat} (h : es[i]? = some (.im d)) : Ye K (tVar i) es d := fun Z F H σ I Q q => by
  obtain ⟨v, e, r⟩ := I.im h
  exact ⟨v, e, q v H (Same.refl H) r⟩
theorem ye_c {v : V} (h : ∀ H, Rp K H d v) : Ye K (tC v) es d := fun Z F H σ I Q q => q v H (Same.refl H) (h _)
theorem ye_int {i : Int} : Ye K (tC (.int i)) es (.int i) := ye_c fun _ => rfl
theorem ye_bl {b : Bool} : Ye K (tC (.bl b)) es (.bool b) := ye_c fun _ => rfl
theorem ye_str {x : Str} : Ye K (tC (.str x)) es (.str x) := ye_c fun _ => rfl
theorem ye_non : Ye K (tC .non) es .none := ye_c fun _ => rfl
/-! ### operators -/
theorem ye_bin {r : R2} {x y : PyData} (ha : Ye K ta es x) (hb : Ye K tb es y) (hr : ∀ (v w : V) H F Q, Rp K (wo F H) x v → Rp K (wo F H) y w → (∀ z H', Same H H' → Rp K (wo F H') d z → Q z H') → (∀ p, H p = none → F p = false) → r v w H Q) : Ye K (tOp r ta tb) es d :=
  fun Z F H σ I Q q => ha Z F H σ I _ fun v H1 s1 r1 => hb Z F H1 σ (I.mono s1) _ fun w H2 s2 r2 =>
    hr v w H2 F Q (Rp.mono (wo_mono s2) r1) r2 (fun z H' s r => q z H' ((s1.trans s2).trans s) r) fun p hp => ((I.mono s1).mono s2).fresh hp
theorem ye_I0 {g : Int → Int → V} {i j : Int} (hd : ∀ H, Rp K H d (g i j)) (ha : Ye K ta es (.int i)) (hb : Ye K tb es (.int j)) : Ye K (tOp (rI0 g) ta tb) es d :=
  ye_bin ha hb fun v w H F Q h1 h2 q _ => by
    cases (show v = .int i from h1)
    cases (show w = .int j from h2)
    exact ⟨i, j, rfl, rfl, q _ H (Same.refl H) (hd _)⟩
theorem ye_I {C : Int → Int → Prop} {g : Int → Int → V} {i j : Int} (hd : ∀ H, Rp K H d (g i j)) (ha : Ye K ta es (.int i)) (hb : Ye K tb es (.int j)) (hc : C i j) : Ye K (tOp (rI C g) ta tb) es d :=
  ye_bin ha hb fun v w H F Q h1 h2 q _ => by
    cases (show v = .int i from h1)
    cases (show w = .int j from h2)
    exact ⟨i, j, rfl, rfl, hc, q _ H (Same.refl H) (hd _)⟩
theorem ye_add {i j : Int} (ha : Ye K ta es (.int i)) (hb : Ye K tb es (.int j)) : Ye K (tOp (rI0 fun i j => .int (i + j)) ta tb) es (.int (i + j)) := ye_I0 (fun _ => rfl) ha hb
theorem ye_sub {i j : Int} (ha : Ye K ta es (.int i)) (hb : Ye K tb es (.int j)) : Ye K (tOp (rI0 fun i j => .int (i - j)) ta tb) es (.int (i - j)) := ye_I0 (fun _ => rfl) ha hb
theorem ye_mul {i j : Int} (ha : Ye K ta es (.int i)) (hb : Ye K tb es (.int j)) (hc : CMul i j) : Ye K (tOp (rI CMul fun i j => .int (i * j)) ta tb) es (.int (i * j)) := ye_I (fun _ => rfl) ha hb hc
theorem ye_mod {i j : Int} (ha : Ye K ta es (.int i)) (hb : Ye K tb es (.int j)) (hc : 0 < j) : Ye K (tOp (rI (fun _ j => 0 < j) fun i j => .int (i % j)) ta tb) es (.int (i % j)) := ye_I (fun _ => rfl) ha hb hc
theorem ye_fdiv {i j : Int} (ha : Ye K ta es (.int i)) (hb : Ye K tb es (.int j)) (hc : CDiv i j) : Ye K (tOp (rI CDiv fun i j => .int (i / j)) ta tb) es (.int (i / j)) := ye_I (fun _ => rfl) ha hb hc
theorem ye_pow {i j : Int} (ha : Ye K ta es (.int i)) (hb : Ye K tb es (.int j)) (hc : CPow i j) : Ye K (tOp (rI CPow fun i j => .int (i ^ j.toNat)) ta tb) es (.int (i ^ j.toNat)) := ye_I (fun _ => rfl) ha hb hc
theorem ye_lt {i j : Int} (ha : Ye K ta es (.int i)) (hb : Ye K tb es (.int j)) : Ye K (tOp (rI0 fun i j => .bl (decide (i < j))) ta tb) es (.bool (decide (i < j))) := ye_I0 (fun _ => rfl) ha hb
theorem ye_le {i j : Int} (ha : Ye K ta es (.int i)) (hb : Ye K tb es (.int j)) : Ye K (tOp (rI0 fun i j => .bl (decide (i ≤ j))) ta tb) es (.bool (decide (i ≤ j))) := ye_I0 (fun _ => rfl) ha hb
theorem ye_gt {i j : Int} (ha : Ye K ta es (.int i)) (hb : Ye K tb es (.int j)) : Ye K (tOp (rI0 fun i j => .bl (decide (j < i))) ta tb) es (.bool (decide (j < i))) := ye_I0 (fun _ => rfl) ha hb
theorem ye_ge {i j : Int} (ha : Ye K ta es (.int i)) (hb : Ye K tb es (.int j)) : Ye K (tOp (rI0 fun i j => .bl (decide (j ≤ i))) ta tb) es (.bool (decide (j ≤ i))) := ye_I0 (fun _ => rfl) ha hb
theorem ye_neg {i : Int} (ha : Ye K ta es (.int i)) : Ye K (tUn (rU fun i => .int (-i)) ta) es (.int (-i)) := fun Z F H σ I Q q => ha Z F H σ I _ fun v H1 s1 r1 => by
  cases (show v = .int i from r1)
  exact ⟨i, rfl, q _ H1 s1 rfl⟩
/-- == and != of what is no list, tuple -/
theorem ye_eqI {i j : Int} (ha : Ye K ta es (.int i)) (hb : Ye K tb es (.int j)) : Ye K (tOp rEq ta tb) es (.bool (decide (i = j))) :=
  ye_bin ha hb fun v w H F Q h1 h2 q _ => by
    cases (show v = .int i from h1)
    cases (show w = .int j from h2)
    refine ⟨rfl, q _ H (Same.refl H) ?_⟩
    show V.bl _ = V.bl _
    simp
theorem ye_neI {i j : Int} (ha : Ye K ta es (.int i)) (hb : Ye K tb es (.int j)) : Ye K (tOp rNe ta tb) es (.bool (!decide (i = j))) :=
  ye_bin ha hb fun v w H F Q h1 h2 q _ => by
    cases (show v = .int i from h1)
    cases (show w = .int j from h2)
    refine ⟨rfl, q _ H (Same.refl H) ?_⟩
    show V.bl _ = V.bl _
    simp
theorem ye_eqS {i j : Str} (ha : Ye K ta es (.str i)) (hb : Ye K tb es (.str j)) : Ye K (tOp rEq ta tb) es (.bool (decide (i = j))) :=
  ye_bin ha hb fun v w H F Q h1 h2 q _ => by
    cases (show v = .str i from h1)
    cases (show w = .str j from h2)
    refine ⟨rfl, q _ H (Same.refl H) ?_⟩
    show V.bl _ = V.bl _
    simp
theorem ye_neS {i j : Str} (ha : Ye K ta es (.str i)) (hb : Ye K tb es (.str j)) : Ye K (tOp rNe ta tb) es (.bool (!decide (i = j))) :=
  ye_bin ha hb fun v w H F Q h1 h2 q _ => by
    cases (show v = .str i from h1)
    cases (show w = .str j from h2)
    refine ⟨rfl, q _ H (Same.refl H) ?_⟩
    show V.bl _ = V.bl _
    simp
theorem ye_eqB {i j : Bool} (ha : Ye K ta es (.bool i)) (hb : Ye K tb es (.bool j)) : Ye K (tOp rEq ta tb) es (.bool (decide (i = j))) :=
  ye_bin ha hb fun v w H F Q h1 h2 q _ => by
    cases (show v = .bl i from h1)
    cases (show w = .bl j from h2)
    refine ⟨rfl, q _ H (Same.refl H) ?_⟩
    show V.bl _ = V.bl _
    simp
/-- == and != of data at any depth -/
theorem ye_eqD {x y : PyData} (ha : Ye K ta es x) (hb : Ye K tb es y) (sx : SeqAt.shaped x = true) (sy : SeqAt.shaped y = true) : Ye K (tOp (rEqD K) ta tb) es (.bool (PyData.eqv x y)) :=
  ye_bin ha hb fun v w H F Q h1 h2 q _ => ⟨x, y, Rp.dp (Rp.mono wo_sub h1) sx, Rp.dp (Rp.mono wo_sub h2) sy, sx, sy, q _ H (Same.refl H) rfl⟩
theorem ye_neD {x y : PyData} (ha : Ye K ta es x) (hb : Ye K tb es y) (sx : SeqAt.shaped x = true) (sy : SeqAt.shaped y = true) : Ye K (tOp (rNeD K) ta tb) es (.bool (!PyData.eqv x y)) :=
  ye_bin ha hb fun v w H F Q h1 h2 q _ => ⟨x, y, Rp.dp (Rp.mono wo_sub h1) sx, Rp.dp (Rp.mono wo_sub h2) sy, sx, sy, q _ H (Same.refl H) rfl⟩
/-- None or not -/
def isN : PyData → Bool
  | .none => true
  | _ => false
theorem rp_isN {H : Hp} {v : V} (h : Rp K H d v) : decide (v = V.non) = isN d := by
  cases d with
  | none => cases (show v = .non from h); rfl
  | bool x => cases (show v = .bl x from h); exact decide_eq_false (fun z => nomatch z)
  | int x => cases (show v = .int x from h); exact decide_eq_false (fun z => nomatch z)
  | str x => cases (show v = .str x from h); exact decide_eq_false (fun z => nomatch z)
  | list xs => obtain ⟨a, vs, rfl, _⟩ := h; exact decide_eq_false (fun z => nomatch z)
  | tuple xs => obtain ⟨a, vs, rfl, _⟩ := h; exact decide_eq_false (fun z => nomatch z)
  | dict xs => obtain ⟨a, vs, rfl, _⟩ := h; exact decide_eq_false (fun z => nomatch z)
theorem ye_isN (ha : Ye K ta es d) : Ye K (tOp (fun x y H Q => y = .non ∧ Q (.bl (decide (x = .non))) H) ta (tC .non)) es (.bool (isN d)) :=
  ye_bin ha ye_non fun v w H F Q h1 h2 q _ => by
    cases (show w = .non from h2)
    exact ⟨rfl, q _ H (Same.refl H) (by rw [rp_isN h1]; rfl)⟩
theorem ye_notN (ha : Ye K ta es d) : Ye K (tOp (fun x y H Q => y = .non ∧ Q (.bl (!decide (x = .non))) H) ta (tC .non)) es (.bool (!isN d)) :=
  ye_bin ha ye_non fun v w H F Q h1 h2 q _ => by
    cases (show w = .non from h2)
    exact ⟨rfl, q _ H (Same.refl H) (by rw [rp_isN h1]; rfl)⟩
/-! ### and, or, not; tests -/
theorem ye_and {a : Bool} (h1 : Ye K ta es (.bool a)) (h2 : a = true → Ye K tb es (.bool b)) : Ye K (tAndV ta tb) es (.bool (a && b)) := fun Z F H σ I Q q => h1 Z F H σ I _ fun v H1 s1 r1 => by
  cases (show v = .bl a from r1)
  refine ⟨a, rfl, ?_⟩
  cases a with
  | true => exact h2 rfl Z F H1 σ (I.mono s1) Q fun v H2 s2 r => q v H2 (s1.trans s2) r
  | false => exact q _ H1 s1 rfl
theorem ye_or {a : Bool} (h1 : Ye K ta es (.bool a)) (h2 : a = false → Ye K tb es (.bool b)) : Ye K (tOrV ta tb) es (.bool (a || b)) := fun Z F H σ I Q q => h1 Z F H σ I _ fun v H1 s1 r1 => by
  cases (show v = .bl a from r1)
  refine ⟨a, rfl, ?_⟩
  cases a with
  | false => exact h2 rfl Z F H1 σ (I.mono s1) Q fun v H2 s2 r => q v H2 (s1.trans s2) r
  | true => exact q _ H1 s1 rfl
theorem ye_not {a : Bool} (h1 : Ye K ta es (.bool a)) : Ye K (tNotV ta) es (.bool (!a)) := fun Z F H σ I Q q => h1 Z F H σ I _ fun v H1 s1 r1 => by
  cases (show v = .bl a from r1)
  exact ⟨a, rfl, q _ H1 s1 rfl⟩
theorem ye_chain {r r' : R2} {x y z : PyData} {a : Bool} (ha : Ye K ta es x) (hb : Ye K tb es y) (hc : Ye K tc es z)
    (hr : ∀ (v w : V) H F (Q : VK), Rp K (wo F H) x v → Rp K (wo F H) y w → Q (.bl a) H → r v w H Q)
    (hr' : a = true → ∀ (v w : V) H F (Q : VK), Rp K (wo F H) y v → Rp K (wo F H) z w → Q (.bl b) H → r' v w H Q) : Ye K (tChain r r' ta tb tc) es (.bool (a && b)) := fun Z F H σ I Q q =>
  ha Z F H σ I _ fun v H1 s1 r1 => hb Z F H1 σ (I.mono s1) _ fun w H2 s2 r2 => hr v w H2 F _ (Rp.mono (wo_mono s2) r1) r2 ⟨a, rfl, by
    cases a with
    | true => exact hc Z F H2 σ ((I.mono s1).mono s2) _ fun y' H3 s3 r3 => hr' rfl w y' H3 F Q (Rp.mono (wo_mono s3) r2) r3 (q _ H3 ((s1.trans s2).trans s3) rfl)
    | false => exact q _ H2 (s1.trans s2) rfl⟩
theorem yt_B (h : Ye K te es (.bool b)) : Yt K (tB te) es b := fun Z F H σ I Q q => h Z F H σ I _ fun v H1 s1 r1 => by
  cases (show v = .bl b from r1)
  exact ⟨b, rfl, q H1 s1⟩
theorem yt_test (h : Ye K te es (.bool b)) : Yt K (tTest te) es b := fun Z F H σ I Q q => h Z F H σ I _ fun v H1 s1 r1 => by
  cases (show v = .bl b from r1)
  exact ⟨b, rfl, q H1 s1⟩
theorem yt_and {a : Bool} (h1 : Yt K t es a) (h2 : a = true → Yt K u es b) : Yt K (tAnd t u) es (a && b) := fun Z F H σ I Q q => h1 Z F H σ I _ fun H1 s1 => by
  cases a with
  | true => exact h2 rfl Z F H1 σ (I.mono s1) Q fun H2 s2 => q H2 (s1.trans s2)
  | false => exact q H1 s1
theorem yt_or {a : Bool} (h1 : Yt K t es a) (h2 : a = false → Yt K u es b) : Yt K (tOr t u) es (a || b) := fun Z F H σ I Q q => h1 Z F H σ I _ fun H1 s1 => by
  cases a with
  | false => exact h2 rfl Z F H1 σ (I.mono s1) Q fun H2 s2 => q H2 (s1.trans s2)
  | true => exact q H1 s1
theorem yt_not {a : Bool} (h1 : Yt K t es a) : Yt K (tNot t) es (!a) := fun Z F H σ I Q q => h1 Z F H σ I _ fun H1 s1 => q H1 s1
theorem yt_yes : Yt K tYes es true := fun Z F H σ I Q q => q H (Same.refl H)
/-! ### arguments, tuples, lists -/
theorem ya_nil : Ya K tNil es [] := fun Z F H σ I Q q => q [] H (Same.refl H) rfl
theorem ya_cons (h : Ye K ta es d) (hr : Ya K tA es ds) : Ya K (tCons ta tA) es (d :: ds) := fun Z F H σ I Q q => h Z F H σ I _ fun v H1 s1 r1 => hr Z F H1 σ (I.mono s1) _ fun vs H2 s2 r2 =>
  q (v :: vs) H2 (s1.trans s2) ⟨v, vs, rfl, Rp.mono (wo_mono s2) r1, r2⟩
theorem ye_tup (h : Ya K tA es ds) (hl : ds.length ≤ 100000) : Ye K (tTup tA) es (.tuple ds) := fun Z F H σ I Q q => h Z F H σ I _ fun vs H1 s1 r1 =>
  ⟨sz_of (by rw [← r1.length]; exact hl), fun p hp => q _ _ (s1.trans (same_new hp)) ⟨p, vs, rfl, wo_at ((I.mono s1).fresh hp) upd_same, RpAll.mono (wo_mono (same_new hp)) r1⟩⟩
theorem yf_lst (h : Ya K tA es ds) (hl : ds.length ≤ 100000) : Yf K (tLst tA) es ds := fun Z F H σ I Q q => h Z F H σ I _ fun vs H1 s1 r1 =>
  ⟨sz_of (by rw [← r1.length]; exact hl), fun p hp => q p vs _ (s1.trans (same_new hp)) (s1.free hp) upd_same (RpAll.mono (same_hide (same_new hp) hp) r1)⟩
/-- a list made new from another's items -/
theorem yf_new {r : V → Hp → VK → Prop} (hr : ∀ a vs H (Q : VK), SqL K H a vs → xs.length = vs.length → (∀ p ws, H p = none → (∀ F, RpAll K (wo F H) xs vs → RpAll K (wo F H) ys ws) → Q (.ref p) (upd H p (.lst ws))) → r (.ref a) H Q)
    (h : Yl K ta es xs) : Yf K (fun σ H Q => ta σ H fun x H1 => r x H1 Q) es ys := fun Z F H σ I Q q => h Z F H σ I _ fun a vs H1 s1 h1 r1 =>
  hr a vs H1 Q h1 r1.length fun p ws hp k => q p ws _ (s1.trans (same_new hp)) (s1.free hp) upd_same (RpAll.mono (same_hide (same_new hp) hp) (k F r1))
theorem yf_rev (h : Yl K ta es xs) : Yf K (tRevL K ta) es xs.reverse := yf_new (r := fun x H1 Q => ∃ a xs, x = .ref a ∧ SqL K H1 a xs ∧ ∀ p, H1 p = none → Q (.ref p) (upd H1 p (.lst xs.reverse)))
  (fun a vs H Q h1 _ k => ⟨a, vs, rfl, h1, fun p hp => k p _ hp fun F r => r.rev⟩) h
/-- slices -/
theorem yp_none : Yp K tNoPart es none := fun Z F H σ I Q q => q H (Same.refl H)
theorem yp_some {i : Int} (h : Ye K te es (.int i)) : Yp K (tPart te) es (some i) := fun Z F H σ I Q q => h Z F H σ I _ fun v H1 s1 r1 => by
  cases (show v = .int i from r1)
  exact ⟨i, rfl, q H1 s1⟩
def cutD (xs : List PyData) (lo hi : Option Int) : List PyData := (xs.drop (HT.sIx xs.length 0 lo)).take (HT.sIx xs.length xs.length hi - HT.sIx xs.length 0 lo)
theorem yf_cut {tl th : TO} {lo hi : Option Int} (h : Yl K ta es xs) (h1 : Yp K tl es lo) (h2 : Yp K th es hi) : Yf K (tSl (rSlL K) ta tl th) es (cutD xs lo hi) := fun Z F H σ I Q q => h Z F H σ I _ fun a vs H1 s1 g1 r1 =>
  h1 Z F H1 σ (I.mono s1) _ fun H2 s2 => h2 Z F H2 σ ((I.mono s1).mono s2) _ fun H3 s3 => ⟨a, vs, rfl, (s2.trans s3).seq g1, fun p hp => by
    have r3 := RpAll.mono (wo_mono (s2.trans s3)) r1
    refine q p _ _ (((s1.trans s2).trans s3).trans (same_new hp)) (((s1.trans s2).trans s3).free hp) upd_same (RpAll.mono (same_hide (same_new hp) hp) ?_)
    have e := r3.length
    unfold cutD cutV
    rw [e]
    exact (r3.drop _).take _⟩
theorem ye_cutT {tl th : TO} {lo hi : Option Int} (h : Ye K ta es (.tuple xs)) (h1 : Yp K tl es lo) (h2 : Yp K th es hi) : Ye K (tSl (rSlA K) ta tl th) es (.tuple (cutD xs lo hi)) := fun Z F H σ I Q q => h Z F H σ I _ fun v H1 s1 r1 => by
  obtain ⟨a, vs, rfl, ha, r1⟩ := r1
  refine h1 Z F H1 σ (I.mono s1) _ fun H2 s2 => h2 Z F H2 σ ((I.mono s1).mono s2) _ fun H3 s3 => ?_
  have r3 := RpAll.mono (wo_mono (s2.trans s3)) r1
  have ha3 := wo_mono (F := F) (s2.trans s3) a _ ha
  have e := r3.length
  refine ⟨a, vs, rfl, .inl (.inl (wo_sub _ _ ha3)), fun hw => ?_, fun hw p hp => ?_⟩
  · refine q _ _ ((s1.trans s2).trans s3) ⟨a, vs, rfl, ha3, ?_⟩
    unfold cutD
    rw [e, hw.1, hw.2]
    have e2 : (List.drop 0 xs).take (vs.length - 0) = xs := by
      rw [List.drop_zero, Nat.sub_zero, ← e]
      exact List.take_length
    rw [e2]
    exact r3
  · refine q _ _ (((s1.trans s2).trans s3).trans (same_new hp)) ⟨p, _, rfl, wo_at ((((I.mono s1).mono s2).mono s3).fresh hp) upd_same, RpAll.mono (wo_mono (same_new hp)) ?_⟩
    unfold cutD cutV
    rw [e]
    exact (r3.drop _).take _
/-- items by place -/
theorem atI_len {α β : Type} {xs : List α} {ys : List β} {i : Int} (e : xs.length = ys.length) {x : α} (h : atI xs i = some x) : ∃ j : Nat, xs[j]? = some x ∧ ∀ y : β, ys[j]? = some y → atI ys i = some y := by
  unfold atI at h ⊢
  rw [← e]
  cases q : ixN xs.length i with
  | none => rw [q] at h; cases h
  | some j =>
    rw [q] at h
    exact ⟨j, h, fun y hy => hy⟩
theorem ye_ixL {i : Int} (ha : Yl K ta es xs) (hb : Ye K tb es (.int i)) (h : atI xs i = some d) : Ye K (tOp (rIxL K) ta tb) es d := fun Z F H σ I Q q => ha Z F H σ I _ fun a vs H1 s1 g1 r1 =>
  hb Z F H1 σ (I.mono s1) _ fun w H2 s2 r2 => by
    cases (show w = .int i from r2)
    have r1' := RpAll.mono (wo_mono s2) r1
    obtain ⟨j, h1, h2⟩ := atI_len r1'.length h
    obtain ⟨v, q1, q2⟩ := r1'.get h1
    exact ⟨a, vs, i, v, rfl, rfl, s2.seq g1, h2 v q1, q v H2 (s1.trans s2) q2⟩
theorem ye_ixT {i : Int} (ha : Ye K ta es (.tuple xs)) (hb : Ye K tb es (.int i)) (h : atI xs i = some d) : Ye K (tOp (rIxT K) ta tb) es d := fun Z F H σ I Q q => ha Z F H σ I _ fun v H1 s1 r1 =>
  hb Z F H1 σ (I.mono s1) _ fun w H2 s2 r2 => by
    cases (show w = .int i from r2)
    obtain ⟨a, vs, rfl, ga, r1⟩ := r1
    have r1' := RpAll.mono (wo_mono s2) r1
    obtain ⟨j, h1, h2⟩ := atI_len r1'.length h
    obtain ⟨v, q1, q2⟩ := r1'.get h1
    exact ⟨a, vs, i, v, rfl, rfl, .inl (.inl (s2 _ _ (wo_sub _ _ ga))), h2 v q1, q v H2 (s1.trans s2) q2⟩
theorem ye_ixS {z : Str} {i : Int} {c : Nat} (ha : Ye K ta es (.str z)) (hb : Ye K tb es (.int i)) (hz : z.length ≤ 100000) (h : atI z.cps.toList i = some c) : Ye K (tOp rIxS ta tb) es (.str ⟨#[c]⟩) :=
  ye_bin ha hb fun v w H F Q h1 h2 q _ => by
    cases (show v = .str z from h1)
    cases (show w = .int i from h2)
    exact ⟨z, i, c, rfl, rfl, sz_of hz, h, q _ H (Same.refl H) rfl⟩
/-- list + list, list * int, tuple + tuple -/
theorem yf_cat (ha : Yf K ta es xs) (hb : Yf K tb es ys) (hl : xs.length + ys.length ≤ 100000) : Yf K (tOp rCat ta tb) es (xs ++ ys) := fun Z F H σ I Q q => ha Z F H σ I _ fun p vs H1 s1 hp h1 r1 =>
  hb Z F H1 σ (I.mono s1) _ fun p2 ws H2 s2 hp2 h2 r2 => by
    have z1 : RpAll K (wo F H2) xs vs := RpAll.mono (wo_mono s2) (RpAll.mono (wo_le add_le) r1)
    have z2 : RpAll K (wo F H2) ys ws := RpAll.mono (wo_le add_le) r2
    refine ⟨p, p2, vs, ws, rfl, rfl, s2 _ _ h1, h2, sz_of (by rw [← r1.length, ← r2.length]; exact hl), fun q' hq => q q' _ _ ((s1.trans s2).trans (same_new hq)) ((s1.trans s2).free hq) upd_same (RpAll.mono (same_hide (same_new hq) hq) (z1.append z2))⟩
theorem yf_rep {k : Int} (ha : Yf K ta es xs) (hb : Ye K tb es (.int k)) (h0 : 0 ≤ k) (hl : xs.length * k.toNat ≤ 100000) (hk : k ≤ 100000) : Yf K (tOp rRep ta tb) es (List.replicate k.toNat xs).flatten := fun Z F H σ I Q q => ha Z F H σ I _ fun p vs H1 s1 hp h1 r1 =>
  hb Z F H1 σ (I.mono s1) _ fun w H2 s2 r2 => by
    cases (show w = .int k from r2)
    have z1 : RpAll K (wo F H2) xs vs := RpAll.mono (wo_mono s2) (RpAll.mono (wo_le add_le) r1)
    exact ⟨p, k, vs, rfl, rfl, s2 _ _ h1, by omega, by omega, sz_of (by rw [← r1.length]; exact hl), fun q' hq => q q' _ _ ((s1.trans s2).trans (same_new hq)) ((s1.trans s2).free hq) upd_same (RpAll.mono (same_hide (same_new hq) hq) (z1.rep _))⟩
theorem ye_catT (ha : Ye K ta es (.tuple xs)) (hb : Ye K tb es (.tuple ys)) (hl : xs.length + ys.length ≤ 100000) : Ye K (tOp (rCatA K) ta tb) es (.tuple (xs ++ ys)) :=
  ye_bin ha hb fun v w H F Q h1 h2 q fr => by
    obtain ⟨a, vs, rfl, ha, r1⟩ := h1
    obtain ⟨b, ws, rfl, hb, r2⟩ := h2
    refine ⟨a, b, vs, ws, rfl, rfl, .inl (.inl (wo_sub _ _ ha)), .inl (.inl (wo_sub _ _ hb)), sz_of (by rw [← r1.length, ← r2.length]; exact hl), fun e => ?_, fun _ e => ?_, fun _ _ p hp => ?_⟩
    · subst e
      have e2 : xs = [] := List.eq_nil_of_length_eq_zero r1.length
      subst e2
      exact q _ H (Same.refl H) ⟨b, ws, rfl, hb, r2⟩
    · subst e
      have e2 : ys = [] := List.eq_nil_of_length_eq_zero r2.length
      subst e2
      exact q _ H (Same.refl H) ⟨a, vs, rfl, ha, by rw [List.append_nil]; exact r1⟩
    · exact q _ _ (same_new hp) ⟨p, _, rfl, wo_at (fr p hp) upd_same, RpAll.mono (wo_mono (same_new hp)) (r1.append r2)⟩
/-! ### calls -/
theorem ye_call {n : Nat} {g : List PyData → PyData → Prop} {E : XK} (h : Ya K tA es ds) (hn : ds.length = n) (hg : g ds d) : Ye K (tCall (spD K n g) [] E tA) es d := fun Z F H σ I Q q => h Z F H σ I _ fun vs H1 s1 r1 => by
  show spD K n g (vs ++ []) H1 Q E
  rw [List.append_nil]
  exact ⟨F, ds, d, hn, (I.mono s1).fin, r1, hg, fun v H' s r => q v H' (s1.trans s) r⟩
theorem yf_call {n : Nat} {g : List PyData → List PyData → Prop} {E : XK} (h : Ya K tA es ds) (hn : ds.length = n) (hg : g ds xs) : Yf K (tCall (spF K n g) [] E tA) es xs := fun Z F H σ I Q q => h Z F H σ I _ fun vs H1 s1 r1 => by
  show spF K n g (vs ++ []) H1 Q E
  rw [List.append_nil]
  exact ⟨F, ds, xs, hn, (I.mono s1).fin, r1, hg, fun p ws H' s hp hx r => q p ws H' (s1.trans s) (s1.free hp) hx r⟩
/-- a built-in called on one value -/
theorem ye_cb1 {r : List V → Hp → VK → Prop} {x : PyData} (ha : Ye K ta es x) (hr : ∀ v H F Q, Rp K (wo F H) x v → (∀ z H', Same H H' → Rp K (wo F H') d z → Q z H') → (∀ p, H p = none → F p = false) → r [v] H Q) : Ye K (tCB r (tCons ta tNil)) es d := fun Z F H σ I Q q =>
  ha Z F H σ I _ fun v H1 s1 r1 => hr v H1 F Q r1 (fun z H' s r => q z H' (s1.trans s) r) fun p hp => (I.mono s1).fresh hp
theorem ye_cbL {r : List V → Hp → VK → Prop} (ha : Yl K ta es xs) (hr : ∀ a vs H F Q, SqL K H a vs → RpAll K (wo F H) xs vs → (∀ z H', Same H H' → Rp K (wo F H') d z → Q z H') → (∀ p, H p = none → F p = false) → r [.ref a] H Q) : Ye K (tCB r (tCons ta tNil)) es d := fun Z F H σ I Q q =>
  ha Z F H σ I _ fun a vs H1 s1 h1 r1 => hr a vs H1 F Q h1 r1 (fun z H' s r => q z H' (s1.trans s) r) fun p hp => (I.mono s1).fresh hp
theorem ye_cb2 {r : List V → Hp → VK → Prop} {x y : PyData} (ha : Ye K ta es x) (hb : Ye K tb es y) (hr : ∀ v w H F Q, Rp K (wo F H) x v → Rp K (wo F H) y w → (∀ z H', Same H H' → Rp K (wo F H') d z → Q z H') → r [v, w] H Q) : Ye K (tCB r (tCons ta (tCons tb tNil))) es d := fun Z F H σ I Q q =>
  ha Z F H σ I _ fun v H1 s1 r1 => hb Z F H1 σ (I.mono s1) _ fun w H2 s2 r2 => hr v w H2 F Q (Rp.mono (wo_mono s2) r1) r2 fun z H' s r => q z H' ((s1.trans s2).trans s) r
abbrev rLen (K : PySem.W.Frag) : List V → Hp → VK → Prop := fun xs H Q => ∃ p ys, xs = [.ref p] ∧ (SqL K H p ys ∨ SqT K H p ys) ∧ Q (.int ys.length) H
theorem ye_lenL (h : Yl K ta es xs) : Ye K (tCB (rLen K) (tCons ta tNil)) es (.int xs.length) := ye_cbL h fun a vs H F Q h1 r1 q _ => ⟨a, vs, rfl, .inl h1, q _ H (Same.refl H) (by rw [r1.length]; rfl)⟩
theorem ye_lenT (h : Ye K ta es (.tuple xs)) : Ye K (tCB (rLen K) (tCons ta tNil)) es (.int xs.length) := ye_cb1 h fun v H F Q h1 q _ => by
  obtain ⟨a, vs, rfl, ha, r1⟩ := h1
  exact ⟨a, vs, rfl, .inr (.inl (.inl (wo_sub _ _ ha))), q _ H (Same.refl H) (by rw [r1.length]; rfl)⟩
theorem ye_lenS {z : Str} (h : Ye K ta es (.str z)) (hz : z.length ≤ 100000) : Ye K (tCB (fun xs H Q => ∃ z : Str, xs = [.str z] ∧ z.length ≤ sizeLine ∧ Q (.int z.length) H) (tCons ta tNil)) es (.int z.length) := ye_cb1 h fun v H F Q h1 q _ => by
  cases (show v = .str z from h1)
  exact ⟨z, rfl, sz_of hz, q _ H (Same.refl H) rfl⟩
abbrev rListOf (K : PySem.W.Frag) : List V → Hp → VK → Prop := fun xs H Q => ∃ p ys, xs = [.ref p] ∧ (SqL K H p ys ∨ SqT K H p ys) ∧ ∀ l, H l = none → Q (.ref l) (upd H l (.lst ys))
theorem yf_listL (h : Yl K ta es xs) : Yf K (tCB (rListOf K) (tCons ta tNil)) es xs := yf_new (r := fun x H1 Q => rListOf K [x] H1 Q) (fun a vs H Q h1 _ k => ⟨a, vs, rfl, .inl h1, fun p hp => k p _ hp fun F r => r⟩) h
abbrev rTupOf (K : PySem.W.Frag) : List V → Hp → VK → Prop := fun xs H Q => ∃ p ys, xs = [.ref p] ∧ ((SqL K H p ys ∧ ∀ l, H l = none → Q (.ref l) (upd H l (.tup ys))) ∨ (SqT K H p ys ∧ Q (.ref p) H))
theorem ye_tupL (h : Yl K ta es xs) : Ye K (tCB (rTupOf K) (tCons ta tNil)) es (.tuple xs) := ye_cbL h fun a vs H F Q h1 r1 q fr =>
  ⟨a, vs, rfl, .inl ⟨h1, fun p hp => q _ _ (same_new hp) ⟨p, vs, rfl, wo_at (fr p hp) upd_same, RpAll.mono (wo_mono (same_new hp)) r1⟩⟩⟩
theorem ye_any {bs : List Bool} (h : Yl K ta es (bs.map PyData.bool)) : Ye K (tCB (rAny K) (tCons ta tNil)) es (.bool (bs.any id)) := ye_cbL h fun a vs H F Q h1 r1 q fr =>
  ⟨a, bs, rfl, by rw [← rpAll_bools r1]; exact h1, q _ H (Same.refl H) rfl⟩
theorem ye_all {bs : List Bool} (h : Yl K ta es (bs.map PyData.bool)) : Ye K (tCB (rAll K) (tCons ta tNil)) es (.bool (bs.all id)) := ye_cbL h fun a vs H F Q h1 r1 q fr =>
  ⟨a, bs, rfl, by rw [← rpAll_bools r1]; exact h1, q _ H (Same.refl H) rfl⟩
theorem ye_max {ns : List Int} {m : Int} (h : Yl K ta es (ns.map PyData.int)) (h0 : 0 < ns.length) (hm : ∀ k, k ∈ ns → (∀ y, y ∈ ns → y ≤ k) → k = m) : Ye K (tCB (rMax K) (tCons ta tNil)) es (.int m) := ye_cbL h fun a vs H F Q h1 r1 q fr =>
  ⟨a, ns, rfl, by rw [← rpAll_ints r1]; exact h1, h0, fun k hk1 hk2 => q _ H (Same.refl H) (by rw [hm k hk1 hk2]; rfl)⟩
theorem ye_max2 {i j : Int} (ha : Ye K ta es (.int i)) (hb : Ye K tb es (.int j)) : Ye K (tCB (fun xs H Q => ∃ i j, xs = [.int i, .int j] ∧ Q (.int (if j > i then j else i)) H) (tCons ta (tCons tb tNil))) es (.int (max i j)) := ye_cb2 ha hb fun v w H F Q h1 h2 q => by
  cases (show v = .int i from h1)
  cases (show w = .int j from h2)
  refine ⟨i, j, rfl, q _ H (Same.refl H) ?_⟩
  show V.int _ = V.int _
  congr 1
  omega
theorem ye_min2 {i j : Int} (ha : Ye K ta es (.int i)) (hb : Ye K tb es (.int j)) : Ye K (tCB (fun xs H Q => ∃ i j, xs = [.int i, .int j] ∧ Q (.int (if j < i then j else i)) H) (tCons ta (tCons tb tNil))) es (.int (min i j)) := ye_cb2 ha hb fun v w H F Q h1 h2 q => by
  cases (show v = .int i from h1)
  cases (show w = .int j from h2)
  refine ⟨i, j, rfl, q _ H (Same.refl H) ?_⟩
  show V.int _ = V.int _
  congr 1
  omega
theorem ye_intB {b : Bool} (h : Ye K ta es (.bool b)) : Ye K (tCB (fun xs H Q => (∃ i, xs = [.int i] ∧ Q (.int i) H) ∨ ∃ k, xs = [.bl k] ∧ Q (.int (if k then 1 else 0)) H) (tCons ta tNil)) es (.int (if b then 1 else 0)) := ye_cb1 h fun v H F Q h1 q _ => by
  cases (show v = .bl b from h1)
  exact .inr ⟨b, rfl, q _ H (Same.refl H) rfl⟩
/-- isinstance -/
def tyD : PyData → String
  | .none => "NoneType"
  | .bool _ => "bool"
  | .int _ => "int"
  | .str _ => "str"
  | .list _ => "list"
  | .tuple _ => "tuple"
  | .dict _ => "dict"
theorem tyX_of {H : Hp} {v : V} (h : Rp K H d v) : TyX K H v (.type (tyD d)) := by
  cases d with
  | none => cases (show v = .non from h); exact .base .non
  | bool x => cases (show v = .bl x from h); exact .base (.bl x)
  | int x => cases (show v = .int x from h); exact .base (.int x)
  | str x => cases (show v = .str x from h); exact .base (.str x)
  | list xs =>
    obtain ⟨a, vs, rfl, h1, _⟩ := h
    rcases h1 with (h1 | ⟨o, h1⟩) | ⟨o, its, n, hk, hc, _⟩
    · exact .base (.lst h1)
    · exact .base (.frz h1)
    · exact .kList hk hc
  | tuple xs =>
    obtain ⟨a, vs, rfl, h1, _⟩ := h
    exact .base (.tup h1)
  | dict xs =>
    obtain ⟨a, vs, rfl, h1, _⟩ := h
    exact .base (.dT h1)
theorem ye_isi {T : String} (ha : Ye K ta es d) (hb : kitB (tyD d) T = some b) : Ye K (tCB (rIsi K) (tCons ta (tCons (tC (.ty T)) tNil))) es (.bool b) := fun Z F H σ I Q q => ha Z F H σ I _ fun v H1 s1 r1 =>
  ⟨v, .ty T, _, _, b, rfl, .ty T, tyX_of (Rp.mono wo_sub r1), kit_ty hb, q _ H1 s1 rfl⟩
/-! ### in -/
def flatD : PyData → Bool
  | .none => true
  | .bool _ => true
  | .int _ => true
  | .str _ => true
  | _ => false
def vD : PyData → V
  | .bool b => .bl b
  | .int i => .int i
  | .str x => .str x
  | _ => .non
theorem rp_flat {H : Hp} {v : V} (h : Rp K H d v) (f : flatD d = true) : v = vD d ∧ flatV v = true := by
  cases d with
  | none => cases (show v = .non from h); exact ⟨rfl, rfl⟩
  | bool x => cases (show v = .bl x from h); exact ⟨rfl, rfl⟩
  | int x => cases (show v = .int x from h); exact ⟨rfl, rfl⟩
  | str x => cases (show v = .str x from h); exact ⟨rfl, rfl⟩
  | _ => cases f
theorem rp_flats {H : Hp} : ∀ {xs : List PyData} {vs : List V}, RpAll K H xs vs → xs.all flatD = true → vs = xs.map vD ∧ vs.all flatV = true
  | [], _, h, _ => by
    have e : _ = [] := h
    subst e
    exact ⟨rfl, rfl⟩
  | d :: ds, _, h, f => by
    obtain ⟨v, r, rfl, h1, h2⟩ := h
    rw [List.all_cons, Bool.and_eq_true] at f
    obtain ⟨e1, f1⟩ := rp_flat h1 f.1
    obtain ⟨e2, f2⟩ := rp_flats h2 f.2
    refine ⟨by rw [e1, e2]; rfl, ?_⟩
    rw [List.all_cons, f1, f2]
    rfl
theorem ye_in {neg : Bool} (ha : Ye K ta es d) (hb : Yl K tb es xs) (fd : flatD d = true) (fx : xs.all flatD = true) : Ye K (tOp (rIn K neg) ta tb) es (.bool (if neg then !inV (vD d) (xs.map vD) else inV (vD d) (xs.map vD))) := fun Z F H σ I Q q =>
  ha Z F H σ I _ fun v H1 s1 r1 => hb Z F H1 σ (I.mono s1) _ fun a vs H2 s2 g2 r2 => by
    obtain ⟨e1, f1⟩ := rp_flat r1 fd
    obtain ⟨e2, f2⟩ := rp_flats r2 fx
    subst e1 e2
    exact ⟨a, _, rfl, .inl g2, f1, f2, q _ H2 (s1.trans s2) rfl⟩
theorem ye_inT {neg : Bool} (ha : Ye K ta es d) (hb : Ye K tb es (.tuple xs)) (fd : flatD d = true) (fx : xs.all flatD = true) : Ye K (tOp (rIn K neg) ta tb) es (.bool (if neg then !inV (vD d) (xs.map vD) else inV (vD d) (xs.map vD))) := fun Z F H σ I Q q =>
  ha Z F H σ I _ fun v H1 s1 r1 => hb Z F H1 σ (I.mono s1) _ fun w H2 s2 r2 => by
    obtain ⟨a, vs, rfl, g2, r2⟩ := r2
    obtain ⟨e1, f1⟩ := rp_flat r1 fd
    obtain ⟨e2, f2⟩ := rp_flats r2 fx
    subst e1 e2
    exact ⟨a, _, rfl, .inr (.inl (.inl (wo_sub _ _ g2))), f1, f2, q _ H2 (s1.trans s2) rfl⟩
theorem ye_notInD (ha : Ye K ta es d) (hb : Yl K tb es xs) (sd : SeqAt.shaped d = true) (sx : SeqAt.shaped (.list xs) = true) : Ye K (tOp (rNotInD K) ta tb) es (.bool (!xs.any fun z => PyData.eqv z d)) := fun Z F H σ I Q q =>
  ha Z F H σ I _ fun v H1 s1 r1 => hb Z F H1 σ (I.mono s1) _ fun a vs H2 s2 g2 r2 =>
    ⟨d, xs, Rp.dp (Rp.mono wo_sub (Rp.mono (wo_mono s2) r1)) sd, .lst g2 (RpAll.dp (RpAll.mono wo_sub r2) (SeqAt.canLay_of_shaped sx)), sd, sx, q _ H2 (s1.trans s2) rfl⟩
end
end Sr
set_option Elab.async false
set_option linter.all false
set_option maxRecDepth 100000
set_option maxHeartbeats 2000000
set_option autoImplicit false
namespace Sr
open PySem L2
theorem ltr {i n : Nat} (h : Nat.ble (i + 1) n = true := by rfl) : i < n := Nat.le_of_ble_eq_true h
section
variable {K : PySem.W.Frag} {es es' e1 : List Ent} {d d' : PyData} {ds xs ys : List PyData} {te ta tb tc : TE} {tA : TA} {tt : TT} {t u : TS} {b c : Bool} {o : Oc} {g : TG} {gs : TGs} {js js' : List Nat} {wi : TI}
/-! ### targets -/
theorem wipe_len (σ : L2.St) (vs : List Nat) : (wipe σ vs).length = σ.length := wipe_length σ vs
theorem wipe_set {σ : L2.St} {j : Nat} {x : Option V} : ∀ {vs : List Nat}, j ∈ vs → wipe (σ.set j x) vs = wipe σ vs
  | [], h => by cases h
  | v :: vs, h => by
    show (wipe (σ.set j x) vs).set v none = (wipe σ vs).set v none
    by_cases c : j = v
    · subst c
      by_cases m : j ∈ vs
      · rw [wipe_set m]
      · have e : ∀ {vs : List Nat}, j ∉ vs → wipe (σ.set j x) vs = (wipe σ vs).set j x := by
          intro vs
          induction vs with
          | nil => intro _; rfl
          | cons w ws ih =>
            intro hw
            show (wipe (σ.set j x) ws).set w none = ((wipe σ ws).set w none).set j x
            rw [ih (fun z => hw (List.mem_cons_of_mem _ z)), List.set_comm _ _ (fun z => hw (by rw [z]; exact List.mem_cons_self))]
        rw [e m, List.set_set]
    · have m : j ∈ vs := (List.mem_cons.mp h).resolve_left c
      rw [wipe_set m]
theorem wipe_idem (σ : L2.St) : ∀ vs : List Nat, wipe (wipe σ vs) vs = wipe σ vs := fun vs => by
  have e : ∀ us : List Nat, (∀ j ∈ us, j ∈ vs) → wipe (wipe σ us) vs = wipe σ vs := by
    intro us
    induction us with
    | nil => intro _; rfl
    | cons w ws ih =>
      intro h
      show wipe ((wipe σ ws).set w none) vs = wipe σ vs
      rw [wipe_set (h w List.mem_cons_self)]
      exact ih fun j hj => h j (List.mem_cons_of_mem _ hj)
  exact e vs fun _ h => h
theorem yg_name {j : Nat} (hj : j < es.length) : Yg K (gName j) d es (es.set j (.im d)) [j] := fun Z F H σ v I r Q q =>
  q (σ.set j (some v)) (I.put hj r) fun vs h => wipe_set (h j (by simp))
theorem ygs_nil : Ygs K gNil [] es es [] := fun Z F H σ vs I r Q q => by
  have e : vs = [] := r
  exact ⟨e, q σ I fun _ _ => rfl⟩
theorem ygs_cons (h1 : Yg K g d es e1 js) (h2 : Ygs K gs ds e1 es' js') : Ygs K (gCons g gs) (d :: ds) es es' (js ++ js') := fun Z F H σ vs I r Q q => by
  obtain ⟨v, r', rfl, r1, r2⟩ := r
  exact ⟨v, r', rfl, h1 Z F H σ v I r1 _ fun σ1 I1 w1 => h2 Z F H σ1 r' I1 r2 Q fun σ2 I2 w2 => q σ2 I2 fun vs h => by
    rw [w2 vs fun j hj => h j (List.mem_append_right _ hj), w1 vs fun j hj => h j (List.mem_append_left _ hj)]⟩
theorem yg_tup {n : Nat} (hn : ds.length = n) (h : Ygs K gs ds es es' js) : Yg K (gTup K n gs) (.tuple ds) es es' js := fun Z F H σ v I r Q q => by
  obtain ⟨a, vs, rfl, ha, r1⟩ := r
  exact ⟨a, vs, rfl, .inl (.inl (wo_sub _ _ ha)), by rw [← r1.length]; exact hn, h Z F H σ vs I r1 Q q⟩
theorem yg_unl {n : Nat} (hn : ds.length = n) (h : Ygs K gs ds es es' js) : Yg K (gUnl K n gs) (.list ds) es es' js := fun Z F H σ v I r Q q => by
  obtain ⟨a, vs, rfl, ha, r1⟩ := r
  exact ⟨a, vs, rfl, wo_sub.seq ha, by rw [← r1.length]; exact hn, h Z F H σ vs I r1 Q q⟩
/-! ### statements -/
theorem yo_nx : Yo K tNext es (.nx es) := fun Z F H σ D I G => G F H σ I
theorem yo_seq {e1 : List Ent} (h1 : Yo K t es (.nx e1)) (h2 : Yo K u e1 o) : Yo K (tSeq t u) es o := fun Z F H σ D I G =>
  h1 Z F H σ { D with nx := u D } I fun F' H' σ' I' => h2 Z F' H' σ' D I' G
theorem yo_seqR (h1 : Yo K t es (.rt d)) : Yo K (tSeq t u) es (.rt d) := fun Z F H σ D I G => h1 Z F H σ { D with nx := u D } I G
theorem yo_asg {i : Nat} (h : Ye K te es d) (hi : i < es.length := by exact Nat.le_of_ble_eq_true rfl) : Yo K (tAsg te (gName i)) es (.nx (es.set i (.im d))) := fun Z F H σ D I G =>
  h Z F H σ I _ fun v H' s r => G F H' _ ((I.mono s).put hi r)
theorem yo_asgG (h : Ye K te es d) (hg : Yg K g d es es' js) : Yo K (tAsg te g) es (.nx es') := fun Z F H σ D I G =>
  h Z F H σ I _ fun v H' s r => hg Z F H' σ v (I.mono s) r _ fun σ' I' _ => G F H' σ' I'
theorem yo_asgM {i : Nat} (h : Yf K te es xs) (hi : i < es.length := by exact Nat.le_of_ble_eq_true rfl) : Yo K (tAsg te (gName i)) es (.nx (es.set i (.ml xs))) := fun Z F H σ D I G =>
  h Z F H σ I _ fun p vs H' s hp hx r => G (add p F) H' _ (I.mine s hp ⟨_, hx⟩ hi ⟨p, vs, rfl, rfl, hx, r⟩)
theorem yo_par {i j : Nat} {x y : PyData} (h : Ya K tA es [x, y]) (hi : i < es.length := by exact Nat.le_of_ble_eq_true rfl) (hj : j < es.length := by exact Nat.le_of_ble_eq_true rfl) : Yo K (tPar i j tA) es (.nx ((es.set i (.im x)).set j (.im y))) := fun Z F H σ D I G =>
  h Z F H σ I _ fun vs H' s r => by
    obtain ⟨v, r', rfl, r1, w, r'', rfl, r2, rfl⟩ := r
    exact ⟨v, w, rfl, G F H' _ (((I.mono s).put hi r1).put (by rw [List.length_set]; exact hj) r2)⟩
theorem yo_ret (h : Ye K te es d) : Yo K (tRet te) es (.rt d) := fun Z F H σ D I G =>
  h Z F H σ I _ fun v H' s r => G H' v (fun b o e => ((I.mono s).base b o e).1) (Rp.mono (wo_le I.hid) r)
/-- an own list, handed out -/
theorem yo_retM {i : Nat} (h : es[i]? = some (.ml xs)) : Yo K (tRet (tVar i)) es (.rl xs) := fun Z F H σ D I G => by
  obtain ⟨p, vs, e, fp, f0, hp, r⟩ := I.ml h
  have nb : Z.B p = none := by
    cases q : Z.B p with
    | none => rfl
    | some o =>
      have z := (I.base p o q).2 fp
      rw [f0] at z
      cases z
  refine ⟨.ref p, e, G H p vs (fun b o e => (I.base b o e).1) nb hp (RpAll.mono (wo_le fun b hb => ?_) r)⟩
  unfold add at hb
  rcases Bool.or_eq_true_iff.mp hb with z | z
  · exact I.hid b z
  · have e := of_decide_eq_true z
    subst e
    exact fp
theorem yo_if (h : Yt K tt es b) (h1 : b = true → Yo K t es o) (h2 : b = false → Yo K u es o) : Yo K (tIfS tt t u) es o := fun Z F H σ D I G => h Z F H σ I _ fun H' s => by
  cases b with
  | true => exact h1 rfl Z F H' σ D (I.mono s) G
  | false => exact h2 rfl Z F H' σ D (I.mono s) G
theorem yo_drop (h : Ye K te es d) : Yo K (tDrop te) es (.nx es) := fun Z F H σ D I G => h Z F H σ I _ fun v H' s r => G F H' σ (I.mono s)
theorem yo_aug {i : Nat} {f : Int → Int → Int} {x y : Int} (hx : es[i]? = some (.im (.int x))) (h : Ye K te es (.int y)) : Yo K (tAug i te (ipI f)) es (.nx (es.set i (.im (.int (f x y))))) := fun Z F H σ D I G => by
  obtain ⟨v, e, r⟩ := I.im hx
  cases (show v = .int x from r)
  refine ⟨.int x, e, h Z F H σ I _ fun w H' s r => ?_⟩
  cases (show w = .int y from r)
  exact ⟨x, y, rfl, rfl, G F H' _ ((I.mono s).put (List.getElem?_eq_some_iff.mp hx).1 rfl)⟩
/-- what is owned becomes a datum -/
theorem yo_freeze {i : Nat} (he : es[i]? = some (.ml xs)) (h : Yo K t (es.set i (.im (.list xs))) o) : Yo K t es o := fun Z F H σ D I G => by
  obtain ⟨F', I'⟩ := I.freeze (d := .list xs) he fun own F' le no hq => by
    obtain ⟨p, vs, e, ho, hp, r⟩ := hq
    exact ⟨_, e, p, vs, rfl, .inl (.inl (wo_at (no p ho) hp)), RpAll.mono (wo_le le) r⟩
  exact h Z F' H σ D I' G
theorem yo_freezeD {i : Nat} {kvs : List (List Int × PyData)} (he : es[i]? = some (.md kvs)) (h : Yo K t (es.set i (.im (.dict (toPD kvs)))) o) : Yo K t es o := fun Z F H σ D I G => by
  obtain ⟨F', I'⟩ := I.freeze (d := .dict (toPD kvs)) he fun own F' le no hq => by
    obtain ⟨p, vs, e, ho, hp, r⟩ := hq
    exact ⟨_, e, p, vs, rfl, wo_at (no p ho) hp, RpKv.mono (wo_le le) r⟩
  exact h Z F' H σ D I' G
theorem rows_rp {F F' : Addr → Bool} {H : Hp} (le : ∀ b, F' b = true → F b = true) : ∀ {rows : List (List PyData)} {as : List Addr}, (∀ a ∈ as, F' a = false) → RowsAt K F H rows as → RpAll K (wo F' H) (rows.map .list) (as.map V.ref)
  | [], [], _, _ => rfl
  | [], _ :: _, _, h => by
    have e := h.1
    simp at e
  | _ :: _, [], _, h => by
    have e := h.1
    simp at e
  | r :: rows, a :: as, no, h => by
    obtain ⟨vs, q1, q2⟩ := h.2 0 a r rfl rfl
    refine ⟨.ref a, as.map V.ref, rfl, ⟨a, vs, rfl, .inl (.inl (wo_at (no a List.mem_cons_self) q1)), RpAll.mono (wo_le le) q2⟩, rows_rp le (fun b hb => no b (List.mem_cons_of_mem _ hb)) ⟨?_, fun i b s h1 h2 => h.2 (i + 1) b s h1 h2⟩⟩
    have e := h.1
    simp at e
    exact e
theorem yo_freezeT {i : Nat} {rows : List (List PyData)} (he : es[i]? = some (.mt rows)) (h : Yo K t (es.set i (.im (.list (rows.map .list)))) o) : Yo K t es o := fun Z F H σ D I G => by
  obtain ⟨F', I'⟩ := I.freeze (d := .list (rows.map .list)) he fun own F' le no hq => by
    obtain ⟨p, as, e, ho, ha, hn, hd, hp, r⟩ := hq
    exact ⟨_, e, p, as.map V.ref, rfl, .inl (.inl (wo_at (no p ho) hp)), rows_rp le (fun a h => no a (ha a h)) r⟩
  exact h Z F' H σ D I' G
/-- a list of its own: append, store -/
theorem yo_app {i : Nat} (he : es[i]? = some (.ml xs)) (h : Ye K te es d) (hz : xs.length < 100000) : Yo K (tDrop (tBM K "list" rAppend (tVar i) (tCons te tNil))) es (.nx (es.set i (.ml (xs ++ [d])))) := fun Z F H σ D I G => by
  obtain ⟨p, vs, e, fp, f0, hp, r⟩ := I.ml he
  refine ⟨.ref p, e, .inl ⟨rfl, vs, .inl (.inl hp)⟩, h Z F H σ I _ fun v H' s r' => ⟨p, vs, v, rfl, rfl, s _ _ hp, sz_lt (by rw [← r.length]; exact hz), ?_⟩⟩
  refine G F _ σ ((I.mono s).change (p := p) he fun own o1 o2 o3 => ?_)
  obtain ⟨p2, vs2, e2, ho, hp2, r2⟩ := o3 i _ he
  rw [e] at e2
  cases e2
  refine ⟨ho, p, vs ++ [v], e, ho, upd_same, ?_⟩
  rw [wo_upd fp]
  exact (RpAll.mono (wo_mono s) r).append (RpAll.one r')
theorem yo_setM {i j : Nat} (he : es[i]? = some (.ml xs)) (h : Ye K te es d) (hk : Ye K ta es (.int j)) (hj : j < xs.length) : Yo K (tAsg te (gSub (tVar i) ta rSetL)) es (.nx (es.set i (.ml (xs.set j d)))) := fun Z F H σ D I G =>
  h Z F H σ I _ fun v H1 s1 r1 => by
    obtain ⟨p, vs, e, fp, f0, hp, r⟩ := (I.mono s1).ml he
    refine ⟨.ref p, e, hk Z F H1 σ (I.mono s1) _ fun w H2 s2 r2 => ?_⟩
    cases (show w = .int j from r2)
    have hl := r.length
    refine ⟨p, vs, j, j, rfl, rfl, s2 _ _ hp, ?_, ?_⟩
    · unfold ixN
      rw [if_pos (by omega), if_pos (by omega)]
      simp
    · refine G F _ σ (((I.mono s1).mono s2).change (p := p) he fun own o1 o2 o3 => ?_)
      obtain ⟨p2, vs2, e2, ho, hp2, r3⟩ := o3 i _ he
      rw [e] at e2
      cases e2
      refine ⟨ho, p, vs.set j v, e, ho, upd_same, ?_⟩
      rw [wo_upd fp]
      exact RpAll.set (Rp.mono (wo_mono s2) r1) j (RpAll.mono (wo_mono s2) r)
/-! ### what is walked -/
theorem yi_list (h : Ye K te es (.list xs)) : Yi K (iList K te) es xs := fun Z F H σ I R q => h Z F H σ I _ fun v H' s r => by
  obtain ⟨a, vs, rfl, h1, r1⟩ := r
  refine ⟨a, rfl, ⟨vs, wo_sub.seq h1⟩, q _ H' s ⟨fun F2 H2 i g hi => ?_, fun F2 H2 g => ?_, fun F2 H2 i x H3 g fn hi y => ?_⟩⟩
  · have hl : i < vs.length := by rw [← r1.length]; exact hi
    exact ⟨vs, vs[i], (g.trans wo_sub).seq h1, List.getElem?_eq_getElem hl⟩
  · exact ⟨vs, (g.trans wo_sub).seq h1, by rw [r1.length]; exact Nat.le_refl _⟩
  · obtain ⟨rfl, y⟩ := y
    obtain ⟨d, q1, q2⟩ := r1.getV (y vs ((g.trans wo_sub).seq h1))
    exact ⟨Same.refl _, d, q1, Rp.mono g q2⟩
theorem yi_tup (h : Ye K te es (.tuple xs)) : Yi K (iTup K te) es xs := fun Z F H σ I R q => h Z F H σ I _ fun v H' s r => by
  obtain ⟨a, vs, rfl, h1, r1⟩ := r
  have at2 : ∀ {F2 : Addr → Bool} {H2 : Hp}, Same (wo F H') (wo F2 H2) → SqT K H2 a vs := fun g => .inl (.inl (wo_sub _ _ (g _ _ h1)))
  refine ⟨a, rfl, ⟨vs, .inl (.inl (wo_sub _ _ h1))⟩, q _ H' s ⟨fun F2 H2 i g hi => ?_, fun F2 H2 g => ?_, fun F2 H2 i x H3 g fn hi y => ?_⟩⟩
  · have hl : i < vs.length := by rw [← r1.length]; exact hi
    exact ⟨vs, vs[i], at2 g, List.getElem?_eq_getElem hl⟩
  · exact ⟨vs, at2 g, by rw [r1.length]; exact Nat.le_refl _⟩
  · obtain ⟨rfl, y⟩ := y
    obtain ⟨d, q1, q2⟩ := r1.getV (y vs (at2 g))
    exact ⟨Same.refl _, d, q1, Rp.mono g q2⟩
/-- n numbers, told by their place -/
def rgV (v : Nat → Int) (n : Nat) : List PyData := (List.range n).map fun i : Nat => .int (v i)
theorem rgV_len {v : Nat → Int} {n : Nat} : (rgV v n).length = n := by
  unfold rgV
  rw [List.length_map, List.length_range]
theorem rgV_get {v : Nat → Int} {n i : Nat} (h : i < n) : (rgV v n)[i]? = some (.int (v i)) := by
  unfold rgV
  rw [List.getElem?_map, List.getElem?_range h]
  rfl
abbrev upN : Nat → Int := fun i => (i : Int)
theorem it_range {G : Hp} {lo : Int} {n : Nat} {v : Nat → Int} (hv : ∀ i : Nat, v i = lo + i) : ItOk K G (Itr lo n) (rgV v n) :=
  ⟨fun F H i _ hi => by rw [rgV_len] at hi; exact hi, fun F H _ => by rw [rgV_len]; exact Nat.le_refl _, fun F H i x H' _ _ hi y => by
    obtain ⟨rfl, rfl⟩ := y
    rw [rgV_len] at hi
    exact ⟨Same.refl _, _, rgV_get hi, by rw [hv]; rfl⟩⟩
theorem yi_range1 {n : Int} (h : Ya K tA es [.int n]) (h1 : -100000 ≤ n) (h2 : n ≤ 100000) : Yi K (iRng1 tA) es (rgV upN n.toNat) := fun Z F H σ I R q => h Z F H σ I _ fun vs H' s r => by
  obtain ⟨v, r', rfl, r1, rfl⟩ := r
  cases (show v = .int n from r1)
  exact ⟨n, rfl, by omega, by omega, q _ H' s (it_range fun i => by show (i : Int) = 0 + i; omega)⟩
theorem yi_range2 {m n : Int} (h : Ya K tA es [.int m, .int n]) (h1 : -100000 ≤ n ∧ n ≤ 100000 ∧ -100000 ≤ m ∧ m ≤ 100000) : Yi K (iRng2 tA) es (rgV (fun i => m + i) (n - m).toNat) := fun Z F H σ I R q => h Z F H σ I _ fun vs H' s r => by
  obtain ⟨v, r', rfl, r1, w, r'', rfl, r2, rfl⟩ := r
  cases (show v = .int m from r1)
  cases (show w = .int n from r2)
  exact ⟨m, n, rfl, ⟨by omega, by omega, by omega, by omega⟩, q _ H' s (it_range fun i => rfl)⟩
theorem yi_range3 {m n c : Int} {k : Nat} (h : Ya K tA es [.int m, .int n, .int c]) (hk : RgC m n c k) : Yi K (iRng3 tA) es (rgV (fun i => m + i * c) k) := fun Z F H σ I R q => h Z F H σ I _ fun vs H' s r => by
  obtain ⟨v, r', rfl, r1, w, r'', rfl, r2, u, r3, rfl, r4, rfl⟩ := r
  cases (show v = .int m from r1)
  cases (show w = .int n from r2)
  cases (show u = .int c from r4)
  refine ⟨m, n, c, k, rfl, hk, q _ H' s ⟨fun F H i _ hi => by rw [rgV_len] at hi; exact hi, fun F H _ => by rw [rgV_len]; exact Nat.le_refl _, fun F H i x H' _ _ hi y => ?_⟩⟩
  obtain ⟨rfl, rfl⟩ := y
  rw [rgV_len] at hi
  exact ⟨Same.refl _, _, rgV_get hi, rfl⟩
/-! ### loops -/
/-- m turns go on; then the items are all, or a turn hands back -/
theorem yo_forX {items : List PyData} (hi : Yi K wi es items) (m : Nat) (hm : m ≤ items.length) (W : Nat → List Ent) (h0 : W 0 = es)
    (step : ∀ (i : Nat) (d : PyData), i < m → items[i]? = some d → ∃ e1 js, Yg K g d (W i) e1 js ∧ Yo K t e1 (.nx (W (i + 1))))
    (last : (m = items.length ∧ o = .nx (W m)) ∨ ∃ d e1 js r, items[m]? = some d ∧ Yg K g d (W m) e1 js ∧ Yo K t e1 (.rt r) ∧ o = .rt r) : Yo K (tFor wi g t) es o := fun Z F H σ D I G => by
  refine hi Z F H σ I _ fun J H1 s1 ok => ?_
  have I1 := I.mono s1
  refine ⟨fun i k σ' H' => k = items.length - i ∧ i ≤ m ∧ ∃ F', Env K (nowB Z F H1) F' H' σ' (W i), ⟨items.length, rfl, Nat.zero_le _, F, by rw [h0]; exact I1.now⟩, ?_⟩
  rintro i k σ' H' ⟨rfl, hi, F', I'⟩
  have sn := I1.since I'
  by_cases hlt : i < m
  · refine .inr ⟨ok.go F' H' i sn (by omega), fun σ2 H2 => ∃ F2, Env K (nowB Z F H1) F2 H2 σ2 (W (i + 1)), fun σ2 H2 hn => ⟨items.length - (i + 1), by omega, rfl, hlt, hn⟩, fun x H2 y => ?_⟩
    obtain ⟨s2, d, hd, rd⟩ := ok.yld F' H' i x H2 sn I'.fin (by omega) y
    obtain ⟨e1, js, hg, hb⟩ := step i d hlt hd
    refine hg _ F' H2 σ' x (I'.mono s2) rd _ fun σ3 I3 _ => ?_
    exact hb _ F' H2 σ3 _ I3 fun F4 H4 σ4 I4 => ⟨F4, I4⟩
  · have e : i = m := by omega
    subst e
    rcases last with ⟨hl, rfl⟩ | ⟨d, e1, js, r, hd, hg, hb, rfl⟩
    · subst hl
      exact .inl ⟨ok.stop F' H' sn, G F' H' σ' (I1.was I')⟩
    · have hlt : i < items.length := (List.getElem?_eq_some_iff.mp hd).1
      refine .inr ⟨ok.go F' H' i sn hlt, fun _ _ => False, fun _ _ z => z.elim, fun x H2 y => ?_⟩
      obtain ⟨s2, d2, hd2, rd⟩ := ok.yld F' H' i x H2 sn I'.fin hlt y
      rw [hd] at hd2
      cases hd2
      refine hg _ F' H2 σ' x (I'.mono s2) rd _ fun σ3 I3 _ => ?_
      exact hb _ F' H2 σ3 _ I3 fun H4 v s r => G H4 v (I1.sinceB s) r
theorem yo_for {items : List PyData} (hi : Yi K wi es items) (W : Nat → List Ent) (h0 : W 0 = es) (step : ∀ (i : Nat) (d : PyData), items[i]? = some d → ∃ e1 js, Yg K g d (W i) e1 js ∧ Yo K t e1 (.nx (W (i + 1)))) : Yo K (tFor wi g t) es (.nx (W items.length)) :=
  yo_forX hi items.length (Nat.le_refl _) W h0 (fun i d _ h => step i d h) (.inl ⟨rfl, rfl⟩)
/-- over a range, to a name -/
theorem yo_forN {v : Nat → Int} {n j : Nat} (hi : Yi K wi es (rgV v n)) (W : Nat → List Ent) (h0 : W 0 = es) (hj : ∀ i, j < (W i).length) (step : ∀ i, i < n → Yo K t ((W i).set j (.im (.int (v i)))) (.nx (W (i + 1)))) : Yo K (tFor wi (gName j) t) es (.nx (W n)) := by
  have q := yo_for hi W h0 (g := gName j) (t := t) fun i d h => by
    have hn : i < n := by
      have z := (List.getElem?_eq_some_iff.mp h).1
      rw [rgV_len] at z
      exact z
    rw [rgV_get hn] at h
    cases h
    exact ⟨_, [j], yg_name (hj i), step i hn⟩
  rw [rgV_len] at q
  exact q
/-- while: n turns -/
theorem yo_while (n : Nat) (W : Nat → List Ent) (h0 : W 0 = es) (ht : ∀ i, i < n → Yt K tt (W i) true) (hs : ∀ i, i < n → Yo K t (W i) (.nx (W (i + 1)))) (he : Yt K tt (W n) false) : Yo K (tWhile tt t) es (.nx (W n)) := fun Z F H σ D I G => by
  refine ⟨fun k σ' H' => ∃ i F', k = n - i ∧ i ≤ n ∧ Env K Z F' H' σ' (W i), ⟨n, 0, F, rfl, Nat.zero_le _, by rw [h0]; exact I⟩, ?_⟩
  rintro k σ' H' ⟨i, F', rfl, hi, I'⟩
  by_cases hlt : i < n
  · refine ht i hlt Z F' H' σ' I' _ fun H2 s2 => ?_
    refine ⟨fun σ3 H3 => ∃ F3, Env K Z F3 H3 σ3 (W (i + 1)), fun σ3 H3 ⟨F3, I3⟩ => ⟨n - (i + 1), by omega, i + 1, F3, rfl, hlt, I3⟩, ?_⟩
    exact hs i hlt Z F' H2 σ' _ (I'.mono s2) fun F3 H3 σ3 I3 => ⟨F3, I3⟩
  · have e : i = n := by omega
    subst e
    exact he Z F' H' σ' I' _ fun H2 s2 => G F' H2 σ' (I'.mono s2)
/-! ### comprehensions -/
def wipeE (es : List Ent) : List Nat → List Ent
  | [] => es
  | v :: vs => (wipeE es vs).set v .no
theorem Env.wipe {Z : Bs} {F : Addr → Bool} {H : Hp} {σ : L2.St} (I : Env K Z F H σ es) : ∀ vs : List Nat, Env K Z F H (wipe σ vs) (wipeE es vs)
  | [] => I
  | v :: vs => (Env.wipe I vs).wipe1
/-- the items that pass, each by what is told of it -/
theorem yf_lc {items : List PyData} {vs : List Nat} (f : PyData → Bool) (w : PyData → PyData) (hi : Yi K wi es items) (hz : items.length ≤ 50000)
    (step : ∀ (i : Nat) (d : PyData), items[i]? = some d → ∃ e1 js, (∀ j ∈ js, j ∈ vs) ∧ Yg K g d (wipeE es vs) e1 js ∧ Yt K tt e1 (f d) ∧ (f d = true → Ye K te e1 (w d))) :
    Yf K (tLc wi g tt te vs) es ((items.filter f).map w) := fun Z F H σ I Q q => by
  refine hi Z F H σ I _ fun J H1 s1 ok D hD => ?_
  have I1 := I.mono s1
  refine ⟨fun i k H' => k = items.length - i ∧ i ≤ items.length ∧ Same H1 H' ∧ ∃ acc, H' D = some (.lst acc) ∧ RpAll K (wo (add D F) H') (((items.take i).filter f).map w) acc,
    ⟨items.length, rfl, Nat.zero_le _, same_new hD, [], upd_same, rfl⟩, ?_⟩
  rintro i k H' ⟨rfl, hi, sH, acc, hacc, racc⟩
  have J1 : Env K Z (add D F) H' σ es := I1.hide sH hD ⟨_, hacc⟩
  have sn : Same (wo F H1) (wo (add D F) H') := same_hide sH hD
  by_cases hlt : i < items.length
  · refine .inr ⟨ok.go _ H' i sn hlt, fun H2 => Same H1 H2 ∧ ∃ acc, H2 D = some (.lst acc) ∧ RpAll K (wo (add D F) H2) (((items.take (i + 1)).filter f).map w) acc, fun H2 ⟨h1, h2⟩ => ⟨items.length - (i + 1), by omega, rfl, hlt, h1, h2⟩, fun x H2 y => ?_⟩
    obtain ⟨s2, d, hd, rd⟩ := ok.yld _ H' i x H2 sn J1.fin hlt y
    obtain ⟨e1, js, hjs, hg, ht, he⟩ := step i d hd
    have J2 : Env K Z (add D F) H2 (wipe σ vs) (wipeE es vs) := (J1.mono s2).wipe vs
    have tk : (items.take (i + 1)) = items.take i ++ [d] := by
      rw [List.take_add_one, hd]
      rfl
    have len : acc.length ≤ items.length := by
      rw [← racc.length, List.length_map]
      refine Nat.le_trans (List.length_filter_le _ _) ?_
      rw [List.length_take]
      omega
    refine hg _ _ H2 _ x J2 rd _ fun σ3 I3 w3 => ⟨by rw [w3 vs hjs, wipe_idem], ht _ _ H2 σ3 I3 _ fun H3 s3 => ?_⟩
    cases hf : f d with
    | true =>
      refine he hf _ _ H3 σ3 (I3.mono s3) _ fun v H4 s4 r4 => ⟨acc, (s2.trans (s3.trans s4)) _ _ hacc, sz_lt (by omega), ?_, acc ++ [v], upd_same, ?_⟩
      · have z : Same H1 H4 := (sH.trans s2).trans (s3.trans s4)
        intro b u e
        rw [upd_ne (ne_of_none e hD)]
        exact z b u e
      · rw [wo_upd add_self, tk, List.filter_append, List.map_append]
        refine (RpAll.mono (wo_mono (s2.trans (s3.trans s4))) racc).append ?_
        rw [List.filter_cons, if_pos hf]
        exact RpAll.one r4
    | false =>
      refine ⟨(sH.trans s2).trans s3, acc, (s2.trans s3) _ _ hacc, ?_⟩
      rw [tk, List.filter_append, List.map_append, List.filter_cons, if_neg (by rw [hf]; exact Bool.false_ne_true)]
      show RpAll K _ (_ ++ []) acc
      rw [List.append_nil]
      exact RpAll.mono (wo_mono (s2.trans s3)) racc
  · have e : i = items.length := by omega
    subst e
    refine .inl ⟨ok.stop _ H' sn, q D acc H' (s1.trans sH) (s1.free hD) hacc ?_⟩
    rw [List.take_length] at racc
    exact racc
/-- typed items -/
theorem yf_lcA {α : Type} {as : List α} {enc : α → PyData} {vs : List Nat} (f : α → Bool) (w : α → PyData) (hi : Yi K wi es (as.map enc)) (hz : as.length ≤ 50000)
    (step : ∀ (i : Nat) (a : α), as[i]? = some a → ∃ e1 js, (∀ j ∈ js, j ∈ vs) ∧ Yg K g (enc a) (wipeE es vs) e1 js ∧ Yt K tt e1 (f a) ∧ (f a = true → Ye K te e1 (w a))) :
    Yf K (tLc wi g tt te vs) es ((as.filter f).map w) := fun Z F H σ I Q q => by
  refine hi Z F H σ I _ fun J H1 s1 ok D hD => ?_
  have I1 := I.mono s1
  refine ⟨fun i k H' => k = as.length - i ∧ i ≤ as.length ∧ Same H1 H' ∧ ∃ acc, H' D = some (.lst acc) ∧ RpAll K (wo (add D F) H') (((as.take i).filter f).map w) acc,
    ⟨as.length, rfl, Nat.zero_le _, same_new hD, [], upd_same, rfl⟩, ?_⟩
  have lm : (as.map enc).length = as.length := List.length_map _
  rintro i k H' ⟨rfl, hi, sH, acc, hacc, racc⟩
  have J1 : Env K Z (add D F) H' σ es := I1.hide sH hD ⟨_, hacc⟩
  have sn : Same (wo F H1) (wo (add D F) H') := same_hide sH hD
  by_cases hlt : i < as.length
  · refine .inr ⟨ok.go _ H' i sn (by omega), fun H2 => Same H1 H2 ∧ ∃ acc, H2 D = some (.lst acc) ∧ RpAll K (wo (add D F) H2) (((as.take (i + 1)).filter f).map w) acc, fun H2 ⟨h1, h2⟩ => ⟨as.length - (i + 1), by omega, rfl, hlt, h1, h2⟩, fun x H2 y => ?_⟩
    obtain ⟨s2, d, hd, rd⟩ := ok.yld _ H' i x H2 sn J1.fin (by omega) y
    rw [List.getElem?_map, List.getElem?_eq_getElem hlt] at hd
    obtain ⟨e1, js, hjs, hg, ht, he⟩ := step i as[i] (List.getElem?_eq_getElem hlt)
    have J2 : Env K Z (add D F) H2 (wipe σ vs) (wipeE es vs) := (J1.mono s2).wipe vs
    have tk : (as.take (i + 1)) = as.take i ++ [as[i]] := by
      rw [List.take_add_one, List.getElem?_eq_getElem hlt]
      rfl
    have len : acc.length ≤ as.length := by
      rw [← racc.length, List.length_map]
      refine Nat.le_trans (List.length_filter_le _ _) ?_
      rw [List.length_take]
      omega
    have ed : enc as[i] = d := Option.some.inj hd
    subst ed
    refine hg _ _ H2 _ x J2 rd _ fun σ3 I3 w3 => ⟨by rw [w3 vs hjs, wipe_idem], ht _ _ H2 σ3 I3 _ fun H3 s3 => ?_⟩
    cases hf : f as[i] with
    | true =>
      refine he hf _ _ H3 σ3 (I3.mono s3) _ fun v H4 s4 r4 => ⟨acc, (s2.trans (s3.trans s4)) _ _ hacc, sz_lt (by omega), ?_, acc ++ [v], upd_same, ?_⟩
      · have z : Same H1 H4 := (sH.trans s2).trans (s3.trans s4)
        intro b u e
        rw [upd_ne (ne_of_none e hD)]
        exact z b u e
      · rw [wo_upd add_self, tk, List.filter_append, List.map_append]
        refine (RpAll.mono (wo_mono (s2.trans (s3.trans s4))) racc).append ?_
        rw [List.filter_cons, if_pos hf]
        exact RpAll.one r4
    | false =>
      refine ⟨(sH.trans s2).trans s3, acc, (s2.trans s3) _ _ hacc, ?_⟩
      rw [tk, List.filter_append, List.map_append, List.filter_cons, if_neg (by rw [hf]; exact Bool.false_ne_true)]
      show RpAll K _ (_ ++ []) acc
      rw [List.append_nil]
      exact RpAll.mono (wo_mono (s2.trans s3)) racc
  · have e : i = as.length := by omega
    subst e
    refine .inl ⟨by rw [← lm]; exact ok.stop _ H' sn, q D acc H' (s1.trans sH) (s1.free hD) hacc ?_⟩
    rw [List.take_length] at racc
    exact racc
/-- over a range, all kept -/
theorem yf_lcN {v : Nat → Int} {n j : Nat} {vs : List Nat} (w : Nat → PyData) (hi : Yi K wi es (rgV v n)) (hz : n ≤ 50000) (hj : j ∈ vs) (hl : j < es.length)
    (step : ∀ i, i < n → Ye K te ((wipeE es vs).set j (.im (.int (v i)))) (w i)) : Yf K (tLc wi (gName j) tYes te vs) es ((List.range n).map w) := by
  have q := yf_lcA (K := K) (es := es) (wi := wi) (g := gName j) (tt := tYes) (te := te) (vs := vs) (as := List.range n) (enc := fun i : Nat => .int (v i)) (fun _ => true) w hi (by rw [List.length_range]; exact hz) fun i a h => by
    have z := List.getElem?_eq_some_iff.mp h
    obtain ⟨z1, z2⟩ := z
    rw [List.getElem_range] at z2
    rw [List.length_range] at z1
    subst z2
    have wl : ∀ vs : List Nat, (wipeE es vs).length = es.length := by
      intro vs
      induction vs with
      | nil => rfl
      | cons v vs ih =>
        show ((wipeE es vs).set v .no).length = _
        rw [List.length_set, ih]
    exact ⟨_, [j], fun k hk => by simp at hk; rw [hk]; exact hj, yg_name (by rw [wl]; exact hl), yt_yes, fun _ => step i z1⟩
  rw [List.filter_eq_self.mpr (fun _ _ => rfl)] at q
  exact q
/-- over a range, those that pass -/
theorem yf_lcF {v : Nat → Int} {n j : Nat} {vs : List Nat} (f : Nat → Bool) (w : Nat → PyData) (hi : Yi K wi es (rgV v n)) (hz : n ≤ 50000) (hj : j ∈ vs) (hl : j < es.length)
    (step : ∀ i, i < n → Yt K tt ((wipeE es vs).set j (.im (.int (v i)))) (f i) ∧ (f i = true → Ye K te ((wipeE es vs).set j (.im (.int (v i)))) (w i))) : Yf K (tLc wi (gName j) tt te vs) es (((List.range n).filter f).map w) := by
  refine yf_lcA (K := K) (es := es) (wi := wi) (g := gName j) (tt := tt) (te := te) (vs := vs) (as := List.range n) (enc := fun i : Nat => .int (v i)) f w hi (by rw [List.length_range]; exact hz) fun i a h => ?_
  obtain ⟨z1, z2⟩ := List.getElem?_eq_some_iff.mp h
  rw [List.getElem_range] at z2
  rw [List.length_range] at z1
  subst z2
  have wl : ∀ vs : List Nat, (wipeE es vs).length = es.length := by
    intro vs
    induction vs with
    | nil => rfl
    | cons v vs ih =>
      show ((wipeE es vs).set v .no).length = _
      rw [List.length_set, ih]
  exact ⟨_, [j], fun k hk => by simp at hk; rw [hk]; exact hj, yg_name (by rw [wl]; exact hl), (step i z1).1, (step i z1).2⟩
end
/-! ### forgetting -/
inductive Wk : List Ent → List Ent → Prop where
  | nil : Wk [] []
  | same {e : Ent} {a b : List Ent} : Wk a b → Wk (e :: a) (e :: b)
  | drop {e : Ent} {a b : List Ent} : Wk a b → Wk (e :: a) (.no :: b)
theorem Wk.refl : ∀ a : List Ent, Wk a a
  | [] => .nil
  | _ :: a => .same (Wk.refl a)
theorem Wk.len {a b : List Ent} (h : Wk a b) : a.length = b.length := by
  induction h with
  | nil => rfl
  | same _ ih => rw [List.length_cons, List.length_cons, ih]
  | drop _ ih => rw [List.length_cons, List.length_cons, ih]
theorem Wk.at_ {a b : List Ent} (h : Wk a b) : ∀ {i : Nat} {e : Ent}, b[i]? = some e → e = .no ∨ a[i]? = some e := by
  induction h with
  | nil => intro i e q; simp at q
  | same _ ih =>
    intro i e q
    cases i with
    | zero => exact .inr q
    | succ i => exact ih q
  | drop _ ih =>
    intro i e q
    cases i with
    | zero => exact .inl (Option.some.inj q).symm
    | succ i => exact ih q
theorem Env.weak {K : PySem.W.Frag} {Z : Bs} {F : Addr → Bool} {H : Hp} {σ : L2.St} {a b : List Ent} (I : Env K Z F H σ a) (w : Wk a b) : Env K Z F H σ b := by
  obtain ⟨own, o1, o2, o3⟩ := I.own
  refine ⟨I.base, I.hid, I.fin, by rw [I.len]; exact w.len, own, o1, o2, fun i e h => ?_⟩
  rcases w.at_ h with rfl | h
  · trivial
  · exact o3 i e h
theorem yo_weak {K : PySem.W.Frag} {t : TS} {es a b : List Ent} (h : Yo K t es (.nx a)) (w : Wk a b) : Yo K t es (.nx b) := fun Z F H σ D I G => h Z F H σ D I fun F' H' σ' I' => G F' H' σ' (I'.weak w)
theorem yo_pre {K : PySem.W.Frag} {t : TS} {a b : List Ent} {o : Oc} (w : Wk a b) (h : Yo K t b o) : Yo K t a o := fun Z F H σ D I G => h Z F H σ D (I.weak w) G
theorem Yo.to {K : PySem.W.Frag} {t : TS} {es a b : List Ent} (h : Yo K t es (.nx a)) (e : a = b) : Yo K t es (.nx b) := e ▸ h
/-! ### a def -/
def ents (N : List Str) (ds : List PyData) : List Ent := ds.map Ent.im ++ List.replicate (N.length - ds.length) Ent.no
theorem env_start {K : PySem.W.Frag} {F : Addr → Bool} {H : Hp} {N : List Str} {ds : List PyData} {vs : List V} (fin : ∀ b, F b = true → ∃ o, H b = some o) (r : RpAll K (wo F H) ds vs) (hl : ds.length ≤ N.length) : Env K ⟨H, F⟩ F H (L2.start N vs) (ents N ds) := by
  have len := r.length
  refine ⟨fun b o e => ⟨e, fun h => h⟩, fun b h => h, fin, ?_, fun _ _ => False, fun _ _ h => h.elim, fun _ _ _ h => h.elim, fun i e h => ?_⟩
  · unfold L2.start ents
    rw [List.length_append, List.length_append, List.length_map, List.length_map, List.length_replicate, List.length_replicate, len]
  · unfold ents at h
    unfold L2.start
    by_cases hi : i < ds.length
    · rw [List.getElem?_append_left (by rw [List.length_map]; exact hi), List.getElem?_map, List.getElem?_eq_getElem hi] at h
      cases h
      obtain ⟨v, q1, q2⟩ := r.get (List.getElem?_eq_getElem hi)
      refine ⟨v, ?_, q2⟩
      rw [List.getElem?_append_left (by rw [List.length_map, ← len]; exact hi), List.getElem?_map, q1]
      rfl
    · rw [List.getElem?_append_right (by rw [List.length_map]; omega)] at h
      rw [List.eq_of_mem_replicate (List.mem_of_getElem? h)]
      trivial
section
variable {P : Program} {w : World} {K : PySem.W.Frag} {mg : Str → Option Value} {base : Heap}
theorem fn_by {x qual : Str} {st : Stmt} {f : Addr} {fd : FuncData} {N ps : List Str} {k : Nat} {g : List PyData → PyData → Prop} (F : Fun K x qual st f fd) (S : FnScope N ps (defScope st)) (hps : ps.length ≤ N.length)
    (body : ∀ (cdv : Value) (A : Around) (outer : List PySem.Env) (s : Shared) (H : Hp) (E : XK), Room k (A.deeper (PyProof.Rows.envOfC qual (defScope st) s.heap.objs.size f cdv)) →
      ∃ t, PSs (cxOf CX0 P w K mg base N qual (defScope st) f cdv A outer s H E).nox (defBody st) t ∧ ∀ ds r, ds.length = ps.length → g ds r → Yo K t (ents N ds) (.rt r) ∨ ∃ e, Yo K t (ents N ds) (.nx e) ∧ r = .none) :
    FnOk P w K mg base CX0 (k + 1) f fd ps (spD K ps.length g) := by
  refine F.ok S (fun vs H Q E h => ?_) (fun cdv A outer s H vs Q E hr h => ?_)
  · obtain ⟨F, ds, r, h1, _, h2, _⟩ := h
    rw [← h2.length, h1]
  · obtain ⟨F, ds, r, h1, fin, h2, hg, q⟩ := h
    obtain ⟨t, ht, hy⟩ := body cdv A outer s H E hr
    refine ⟨t, ht, ?_⟩
    have I := env_start (N := N) fin h2 (by omega)
    rcases hy ds r h1 hg with hy | ⟨e, hy, rfl⟩
    · exact hy _ F H _ _ I fun H' v s r => q v H' s r
    · exact hy _ F H _ _ I fun F' H' σ' I' => q .non H' (fun b o e => (I'.base b o e).1) rfl
/-- a def that can be called -/
structure Cal (P : Program) (w : World) (K : PySem.W.Frag) (mg : Str → Option Value) (base : Heap) (k : Nat) (x : Str) (ps : List Str) (g : List PyData → PyData → Prop) : Prop where
  ex : ∃ f fd, FnOk P w K mg base CX0 k f fd ps (spD K ps.length g) ∧ mg x = some (.ref f) ∧ PySem.W.keepIn K (.ref f) = true ∧ Binds K fd ps []
theorem fn_byF {x qual : Str} {st : Stmt} {f : Addr} {fd : FuncData} {N ps : List Str} {k : Nat} {g : List PyData → List PyData → Prop} (F : Fun K x qual st f fd) (S : FnScope N ps (defScope st)) (hps : ps.length ≤ N.length)
    (body : ∀ (cdv : Value) (A : Around) (outer : List PySem.Env) (s : Shared) (H : Hp) (E : XK), Room k (A.deeper (PyProof.Rows.envOfC qual (defScope st) s.heap.objs.size f cdv)) →
      ∃ t, PSs (cxOf CX0 P w K mg base N qual (defScope st) f cdv A outer s H E).nox (defBody st) t ∧ ∀ ds xs, ds.length = ps.length → g ds xs → Yo K t (ents N ds) (.rl xs)) :
    FnOk P w K mg base CX0 (k + 1) f fd ps (spF K ps.length g) := by
  refine F.ok S (fun vs H Q E h => ?_) (fun cdv A outer s H vs Q E hr h => ?_)
  · obtain ⟨F, ds, r, h1, _, h2, _⟩ := h
    rw [← h2.length, h1]
  · obtain ⟨F, ds, xs, h1, fin, h2, hg, q⟩ := h
    obtain ⟨t, ht, hy⟩ := body cdv A outer s H E hr
    refine ⟨t, ht, ?_⟩
    have I := env_start (N := N) fin h2 (by omega)
    exact hy ds xs h1 hg _ F H _ _ I fun H' p ws s hn hx r => q p ws H' s hn hx r
structure CalF (P : Program) (w : World) (K : PySem.W.Frag) (mg : Str → Option Value) (base : Heap) (k : Nat) (x : Str) (ps : List Str) (g : List PyData → List PyData → Prop) : Prop where
  ex : ∃ f fd, FnOk P w K mg base CX0 k f fd ps (spF K ps.length g) ∧ mg x = some (.ref f) ∧ PySem.W.keepIn K (.ref f) = true ∧ Binds K fd ps []
end
theorem pe_calF {X : Cx} {x : Str} {ps : List Str} {g : List PyData → List PyData → Prop} {k : Nat} {e : Expr} {es : List Expr} {p pos : Pos} {t : TA} (c : CalF X.prog X.w X.K X.mg X.base k x ps g) (hr : Room k X.A) (hg : Gl X x) (ha : PA X (e :: es) t)
    (hdb : (x == ("__debug__" : Str)) = false := by decide) (he : starEach (e :: es) X.env = (false, eval e X.env) :: starEach es X.env := by rfl) (hpl : (backTo pos (starEach es X.env)).any (·.1) = false := by rfl) : PE X (.Call (.Name x p) (e :: es) [] pos) (tCall (spF X.K ps.length g) [] E0 t) := by
  obtain ⟨f, fd, F, hm, hk, hb⟩ := c.ex
  exact pe_call F hr hg hm hk hb .nil pass0 ha hdb he hpl
theorem pe_cal {X : Cx} {x : Str} {ps : List Str} {g : List PyData → PyData → Prop} {k : Nat} {e : Expr} {es : List Expr} {p pos : Pos} {t : TA} (c : Cal X.prog X.w X.K X.mg X.base k x ps g) (hr : Room k X.A) (hg : Gl X x) (ha : PA X (e :: es) t)
    (hdb : (x == ("__debug__" : Str)) = false := by decide) (he : starEach (e :: es) X.env = (false, eval e X.env) :: starEach es X.env := by rfl) (hpl : (backTo pos (starEach es X.env)).any (·.1) = false := by rfl) : PE X (.Call (.Name x p) (e :: es) [] pos) (tCall (spD X.K ps.length g) [] E0 t) := by
  obtain ⟨f, fd, F, hm, hk, hb⟩ := c.ex
  exact pe_call F hr hg hm hk hb .nil pass0 ha hdb he hpl
end Sr
set_option Elab.async false
set_option linter.all false
set_option maxRecDepth 100000
set_option maxHeartbeats 2000000
set_option autoImplicit false
/-! The rules whose readings name the written part, with that part handed in (so a comprehension's block reads the same). -/
namespace Sr
open PySem L2
section
variable {X : Cx} (K : PySem.W.Frag)
theorem ixL (h : X.K = K) : IxR X (rIxL K) := by subst h; exact ix_list
theorem ixT (h : X.K = K) : IxR X (rIxT K) := by subst h; exact ix_tup
theorem ixD (w : World) (h : X.K = K) (h2 : X.w = w) : IxR X (rIxD K w) := by subst h h2; exact ix_kdict
theorem slL (h : X.K = K) : SlR X (rSlL K) := by subst h; exact sl_list
theorem slA (h : X.K = K) : SlR X (rSlA K) := by subst h; exact sl_tupA
theorem opCatA (h : X.K = K) : OpR X (binaryOp .Add) (rCatA K) := by subst h; exact op_catA
theorem opEqD (h : X.K = K) (hu : X.A.units + 64 < cLine) : OpR X (compareOp .Eq) (rEqD K) := by subst h; exact op_eqD hu
theorem opNeD (h : X.K = K) (hu : X.A.units + 64 < cLine) : OpR X (compareOp .NotEq) (rNeD K) := by subst h; exact op_neD hu
theorem opIn (h : X.K = K) : OpR X (compareOp .In) (rIn K false) := by subst h; exact op_in_seq
theorem opNotIn (h : X.K = K) : OpR X (compareOp .NotIn) (rIn K true) := by subst h; exact op_notIn_seq
theorem opNotInD (h : X.K = K) (hu : X.A.units + 65 < cLine) : OpR X (compareOp .NotIn) (rNotInD K) := by subst h; exact op_notInD hu
theorem cLen (h : X.K = K) : CallR X (.builtin "len") (rLen K) := by subst h; exact call_len_seq
theorem cList (h : X.K = K) : CallR X (.type "list") (rListOf K) := by subst h; exact call_list_of
theorem cTuple (h : X.K = K) : CallR X (.type "tuple") (rTupOf K) := by subst h; exact call_tuple_of
theorem cAny (h : X.K = K) (hc : X.calm = true) : CallR X (.builtin "any") (rAny K) := by subst h; exact cr_any hc
theorem cAll (h : X.K = K) (hc : X.calm = true) : CallR X (.builtin "all") (rAll K) := by subst h; exact cr_all hc
theorem cMax (h : X.K = K) (hc : X.calm = true) : CallR X (.builtin "max") (rMax K) := by subst h; exact cr_max hc
theorem cIsi (h : X.K = K) : CallR X (.builtin "isinstance") (rIsi K) := by subst h; exact call_isi
/-- the written dict, as a thing that one asks -/
abbrev rInK (K : PySem.W.Frag) (d : Addr) : R2 := fun x y H Q => ∃ (z : Str) (r : Option Value), x = .str z ∧ y = .ref d ∧ PySem.W.nsIn K d z = some r ∧ Q (.bl r.isSome) H
theorem opInK {w : World} {d : Addr} {es : Array DictEntry} {n : Nat} (h : X.K = K) (h2 : X.w = w) (D : KDict K w d es n) : OpR X (compareOp .In) (rInK K d) := by subst h h2; exact op_in_kd D
variable {tg l : Expr} {tl : TE} {es : List Expr} {t : TGs} {k n : Nat} {pos : Pos}
theorem piL (h : X.K = K) (hl : PE X l tl) : PI X tg l (iList K tl) := by subst h; exact pi_list hl
theorem piT (h : X.K = K) (hl : PE X l tl) : PI X tg l (iTup K tl) := by subst h; exact pi_tup hl
theorem pgT (h' : X.K = K) (hc : X.calm = true) (h : PGs X es t) (hn : (assignEach es X.env).length = n := by rfl) (hst : (assignEach es X.env).findIdx? (·.1) = none := by rfl) : PG X (.Tuple es k pos) (gTup K n t) := by
  subst h'
  exact L2.pg_tup hc h hn hst
theorem pgU (h' : X.K = K) (hc : X.calm = true) (h : PGs X es t) (hn : (assignEach es X.env).length = n := by rfl) (hst : (assignEach es X.env).findIdx? (·.1) = none := by rfl) : PG X (.Tuple es k pos) (gUnl K n t) := by
  subst h'
  exact pg_unl hc h hn hst
theorem peRev {e : Expr} {te : TE} {k : Nat} {p1 p2 p3 pos : Pos} (h : X.K = K) (he : PE X e te) : PE X (.Subscript e (.Slice none none (some (.UnaryOp .USub (.Constant (.int 1) k p1) p2)) p3) pos) (tRevL K te) := by
  subst h
  exact pe_revL he
theorem peApp {o e : Expr} {to te : TE} {apos cpos : Pos} (h : X.K = K) (ho : PE X o to) (ha : PE X e te) (hbase : attributeBase o "append" X.env (eval o X.env) = eval o X.env := by rfl)
    (hfew : ((backTo cpos (starEach [e] X.env)).all (fun x => !x.1) && (backToKw cpos (keywordEach [] X.env)).all (fun x => x.1.isSome)
      && decide (([e] : List Expr).length + ([] : List Keyword).length + (if ([] : List Keyword).isEmpty then 0 else 1) < 30)) = true := by rfl)
    (hline : (apos.endLine == cpos.line) = true := by rfl) (hs : starEach [e] X.env = (false, eval e X.env) :: starEach [] X.env := by rfl) (hplain : (backTo cpos (starEach [] X.env)).any (·.1) = false := by rfl) :
    PE X (.Call (.Attribute o "append" apos) [e] [] cpos) (tBM K "list" rAppend to (tCons te tNil)) := by
  subst h
  exact pe_bm PySem.F.plainAttrs_list PySem.F.slot_list_append PySem.F.type_list_append mt_append ho (pa_cons ha pa_nil hs) hbase hfew hline hs hplain
theorem peCal {P : Program} {w : World} {mg : Str → Option Value} {base : Heap} {x : Str} {ps : List Str} {g : List PyData → PyData → Prop} {k : Nat} {e : Expr} {es : List Expr} {p pos : Pos} {t : TA} (c : Cal P w K mg base k x ps g) (hK : X.K = K) (hP : X.prog = P) (hw : X.w = w) (hm : X.mg = mg) (hb : X.base = base)
    (hr : Room k X.A) (hg : Gl X x) (ha : PA X (e :: es) t)
    (hdb : (x == ("__debug__" : Str)) = false := by decide) (he : starEach (e :: es) X.env = (false, eval e X.env) :: starEach es X.env := by rfl) (hpl : (backTo pos (starEach es X.env)).any (·.1) = false := by rfl) :
    PE X (.Call (.Name x p) (e :: es) [] pos) (tCall (spD K ps.length g) [] E0 t) := by
  subst hK hP hw hm hb
  exact pe_cal c hr hg ha hdb he hpl
end
end Sr
set_option Elab.async false
set_option linter.all false
set_option maxRecDepth 100000
set_option maxHeartbeats 4000000
set_option autoImplicit false
/-! enumerate(a tuple); zip of tuples and {k: v} with a key that is a tuple, over data. -/
namespace Sr
open PySem PySem.Spec PyProof.Rows L2
/-- making enumerate(v) when v's own iterator is known -/
theorem enum_made {v : Value} {o : Obj} {Hs : Heap → Prop} (B : Begins v o Hs) :
    Meets (Builtin.«enumerate.__new__» ⟨[.type "enumerate", v], []⟩) fun _ R s => Hs s.heap ∧
      R (.ok (.ret (.ref (s.heap.push o).objs.size)))
        { s with heap := (s.heap.push o).push { cls := .type "enumerate", data := .fields #[.none, .bool false, .ref s.heap.objs.size, rawInt 0, .none, .none] } } :=
  .of_wp fun prog w A R s h => by
    have isub := sub_enumerate
    obtain ⟨hp, g, d, tk, os⟩ := s
    obtain ⟨hH, hR⟩ := h
    have start : ∀ {A2 : Around} {E2 Q2 : Value → Shared → Prop}, Q2 (.ref hp.objs.size) ⟨hp.push o, g, d, tk, os⟩ → wpAny (model prog w) A2 (pyIter v) Q2 E2 ⟨hp, g, d, tk, os⟩ := fun q =>
      B.iter prog w _ _ ⟨hp, g, d, tk, os⟩ _ hH q
    wp_walk using start
    refine wpAny_stack_any fun st => wpAny_pure ?_
    split
    · rename_i cl _ _ _ _ _
      cases cl == Value.type "enumerate" with
      | true =>
        wp_walk using start
        exact ⟨_, rfl, hR⟩
      | false =>
        wp_walk using start
        exact ⟨_, rfl, hR⟩
    · wp_walk using start
      exact ⟨_, rfl, hR⟩
section
variable {prog : Program} {w : World} {A : Around} {E : Value → Shared → Prop} {s : Shared}
theorem enum_call {v : Value} {o : Obj} {Hs : Heap → Prop} {Q : Value → Shared → Prop} (B : Begins v o Hs) (hH : Hs s.heap)
    (k : ∀ h', IsEnum h' (s.heap.objs.size + 1) s.heap.objs.size 0 .none → h'.get? s.heap.objs.size = some o → (∀ b u, s.heap.get? b = some u → h'.get? b = some u) → Q (.ref (s.heap.objs.size + 1)) { s with heap := h' }) :
    wpAny (model prog w) A (call (.type "enumerate") [v]) Q E s := by
  have z : (s.heap.push o).objs.size = s.heap.objs.size + 1 := Heap.size_push ..
  refine callType_new F.called_enumerate (by decide) (F.typeCall_enumerate_1 _) (F.newCall_enumerate_1 _) (fun obj => F.args_object_init_2 obj _) F.entry_enumerate_new (enum_made B) ⟨hH, ?_⟩
  show _ ∧ _
  rw [z]
  have en := Heap.get?_push_size (s.heap.push o) (o := { cls := .type "enumerate", data := .fields #[.none, .bool false, .ref s.heap.objs.size, rawInt 0, .none, .none] }) rfl
  rw [z] at en
  exact ⟨⟨_, en, rfl⟩, k _ en (Heap.get?_push_of_some _ (Heap.get?_push_size _ B.free)) fun b u q => Heap.get?_push_of_some _ (Heap.get?_push_of_some _ q)⟩
end
/-- the tuple at a as it stands, each item in a new pair with its place -/
def ItEnT (K : PySem.W.Frag) (a : Addr) : It where
  go := fun i H => ∃ (xs : List V) (x : V), SqT K H a xs ∧ xs[i]? = some x
  yld := fun i H v H' => ∃ T x, v = .ref T ∧ H T = none ∧ H' = upd H T (.tup [.int (i : Nat), x]) ∧ ∀ xs, SqT K H a xs → xs[i]? = some x
  stop := fun i H => ∃ xs : List V, SqT K H a xs ∧ xs.length ≤ i
theorem turnEnT {P : Program} {w : World} {K : PySem.W.Frag} {elts : List Expr} {kk : Nat} {tpos : Pos} (a e it : Addr) :
    Turn P w K (.Tuple elts kk tpos) (ItEnT K a) [e, it] e (fun i h => (∃ old, IsEnum h e it ((i : Nat) : Int) old) ∧ h.IsTupleIter it a i ∧ e ≠ it ∧ a ≠ it ∧ e ≠ a) where
  mem := List.mem_cons_self
  obj := fun i h st b hb => by
    obtain ⟨⟨old, he⟩, ⟨o, ho, hc, hd⟩, _⟩ := st
    rcases List.mem_cons.mp hb with z | z
    · subst z
      exact ⟨_, he, fun v q => nomatch q⟩
    · obtain rfl := List.mem_singleton.mp z
      exact ⟨o, ho, fun v q => by rw [hd] at q; cases q⟩
  keep := fun i h h' st k => by
    obtain ⟨⟨old, he⟩, hi, r⟩ := st
    exact ⟨⟨old, k e (by simp) _ he⟩, hi.at fun o q => k it (by simp) o q, r⟩
  item := by
    intro X hP hw hK hc i pins s σ H E I hf st hg
    subst hP hw hK
    obtain ⟨⟨old, he⟩, hit, n1, n2, n3⟩ := st
    obtain ⟨xs, x, hq, hx⟩ := hg
    obtain ⟨its, rv, p, hz⟩ := I.tuple hq
    obtain ⟨u, hu, ru⟩ := rv.get hx
    have ha : s.heap.IsTuple a its.toArray := p
    have D := Draws.tuple (prog := X.prog) (w := X.w) (A := X.A.in1) (I.ok.hd hc) it a n2 its.toArray
    have el : e < s.heap.objs.size := Heap.lt_size he
    have il : it < s.heap.objs.size := by
      obtain ⟨_, q, _⟩ := hit
      exact Heap.lt_size q
    have lt : i < its.toArray.size := by
      have := (List.getElem?_eq_some_iff.mp hu).1
      simpa using this
    refine wpAny_pyNext_enum_itemC D he ⟨hit, ha⟩ lt n1 (by simp [n1, n3]) fun y h' tk hy ho st' hT hsz hk => ?_
    have ey : y = u := by
      have q : its.toArray[i]? = some u := by simpa using hu
      rw [q] at hy
      exact (Option.some.inj hy).symm
    subst ey
    refine ⟨_, rfl, wpAny_letOwnedTupleGo_enum (s := { s with heap := h', toks := tk + 1 }) ho fun h'' he' sb => ?_⟩
    have hT2 : h''.get? s.heap.objs.size = some { cls := .type "tuple", data := .seq #[.int i tk, y] } := (sb.2 _ (Nat.ne_of_gt el)).trans hT
    have ob : ObjOk X.prog X.w (upd H s.heap.objs.size (.tup [.int (i : Nat), x])) h'' s.heap.objs.size (.tup [.int (i : Nat), x]) := by
      refine ⟨by show 2 ≤ sizeLine; decide, [.int i tk, y], .cons ⟨_, rfl⟩ (.cons ru .nil), ⟨_, hT2, rfl, _, rfl⟩⟩
    have far : ∀ b ∈ [e, it], b < s.heap.objs.size := fun b hb => by
      rcases List.mem_cons.mp hb with z | z
      · rw [z]
        exact el
      · rw [List.mem_singleton.mp z]
        exact il
    refine ⟨.ref s.heap.objs.size, _, I.turnedNew (ch := [e, it]) (fun b ob hb q => (sb.2 b (fun z => hb (by simp [z]))).trans (hk b ob (fun z => hb (by simp [z])) (fun z => hb (by simp [z])) q)) hf (Nat.le_refl _) ob, rfl, ?_, ?_, fun b hb => ?_⟩
    · exact ⟨_, x, rfl, I.hok.fresh (Nat.le_refl _), rfl, fun ys hy => by rw [I.tuple_inj hy hq]; exact hx⟩
    · refine ⟨⟨y, ?_⟩, st'.1.at fun o q => (sb.2 it (Ne.symm n1)).trans q, n1, n2, n3⟩
      have z : ((i + 1 : Nat) : Int) = (i : Int) + 1 := by omega
      rw [z]
      exact he'
    · rw [upd_ne (Nat.ne_of_lt (far b hb))]
      exact (hf b hb).1
  done := by
    intro X hP hw hK hc i pins s σ H E I hf st hg
    subst hP hw hK
    obtain ⟨⟨old, he⟩, hit, n1, n2, n3⟩ := st
    obtain ⟨xs, hq, hx⟩ := hg
    obtain ⟨its, rv, p, hz⟩ := I.tuple hq
    have ha : s.heap.IsTuple a its.toArray := p
    obtain ⟨f0, f1, f2, f3, f4, f5⟩ := hf it (by simp)
    have hl := rv.length
    have D : Draws X.prog X.w X.A.in1 it [it, a] i (fun j v => its.toArray[j]? = some v) (fun j h => (j = i → h.IsTupleIter it a i) ∧ (j = i → h.IsTuple a its.toArray) ∧ (j ≠ i → False)) := by
      have D0 := Draws.tuple (prog := X.prog) (w := X.w) (A := X.A.in1) (I.ok.hd hc) it a n2 its.toArray
      refine ⟨fun j h st => ?_, fun j h h' st k => ⟨fun z => (st.1 z).at fun o q => k it (by simp) o q, fun z => (st.2.1 z).at fun o q => k a (by simp) o q, st.2.2⟩, fun j s Q E hj st => absurd rfl (fun _ : j = j => st.2.2 (Nat.ne_of_lt hj)), fun s Q E st hE => ?_⟩
      · by_cases z : j = i
        · obtain ⟨o, q, _⟩ := st.1 z
          exact ⟨o, q⟩
        · exact (st.2.2 z).elim
      · exact wpAny_nextOf_tuple_end (I.ok.hd hc) (st.1 rfl) (st.2.1 rfl) (by simp; omega) hE
    exact wpAny_pyNext_enum_endD D he ⟨fun _ => hit, fun _ => ha, fun z => z rfl⟩ fun h' eb => ⟨rfl, I.turned (t' := s.toks) (fun b o hb q => eb b o hb q) f0 f1 f3 f4 f5⟩
  self := fun A i s Q E st h => by
    obtain ⟨⟨_, he⟩, _⟩ := st
    exact wpAny_pyIter_enum he h
def iEnT (K : PySem.W.Frag) (ta : TA) : TI := fun σ H R => ta σ H fun vs H1 => ∃ a xs, vs = [.ref a] ∧ SqT K H1 a xs ∧ R (ItEnT K a) H1
theorem pi_enumT {X : Cx} (K : PySem.W.Frag) {e : Expr} {ta : TA} {p pos tpos : Pos} {elts : List Expr} {kk : Nat} (hK : X.K = K) (hg : Gl X "enumerate") (hm : X.mg "enumerate" = none) (ha : PA X [e] ta)
    (hs : starEach [e] X.env = [(false, eval e X.env)] := by rfl) : PI X (.Tuple elts kk tpos) (.Call (.Name "enumerate" p) [e] [] pos) (iEnT K ta) := by
  subst hK
  refine ⟨fun pins s σ H R I h => ?_⟩
  refine Call_ (ld_blt I hg hm boot_enumerate (PyProof.Rows.callWith_type1 (thn (ha.run pos pins s σ H _ I h) fun us s1 ⟨vs, H1, I1, r1, q1⟩ => ?_) hs rfl))
  obtain ⟨a, xs, rfl, hq, q⟩ := q1
  obtain ⟨u, rfl, ru⟩ := vals1 r1
  cases ru
  obtain ⟨its, rv, tp, _⟩ := I1.tuple hq
  have al : a < s1.heap.objs.size := tp.lt
  refine enum_call (begins_tuple a its.toArray) tp fun h' he hit hk => wpAny_pyIter_enum he ?_
  have fr : ∀ b ∈ [s1.heap.objs.size + 1, s1.heap.objs.size], FpOk X pins H1 b := fun b hb => by
    have le : s1.heap.objs.size ≤ b := by
      rcases List.mem_cons.mp hb with z | z
      · rw [z]
        exact Nat.le_add_right _ _
      · rw [List.mem_singleton.mp z]
        exact Nat.le_refl _
    exact I1.fpOk le (I1.hok.fresh le)
  exact ⟨s1.heap.objs.size + 1, [s1.heap.objs.size + 1, s1.heap.objs.size], _, _, H1, rfl, I1.kept (t' := s1.toks) hk, turnEnT a (s1.heap.objs.size + 1) s1.heap.objs.size,
    ⟨⟨.none, he⟩, ⟨_, hit, rfl, rfl⟩, Nat.succ_ne_self _, Nat.ne_of_lt al, Nat.ne_of_gt (Nat.lt_succ_of_lt al)⟩, fr, q⟩
section
variable {K : PySem.W.Frag} {es : List Ent} {te : TE} {xs ys : List PyData} {tA : TA}
/-- data with their places -/
def enD (xs : List PyData) : List PyData := xs.mapIdx fun i d => .tuple [.int (i : Nat), d]
theorem enD_get {xs : List PyData} {i : Nat} {d : PyData} (h : xs[i]? = some d) : (enD xs)[i]? = some (.tuple [.int (i : Nat), d]) := by
  unfold enD
  rw [List.getElem?_mapIdx, h]
  rfl
theorem enD_len {xs : List PyData} : (enD xs).length = xs.length := by
  unfold enD
  rw [List.length_mapIdx]
/-- a new pair, as it was yielded -/
theorem pair_new {F : Addr → Bool} {H H3 : Hp} {x : V} {T : Addr} {u v : V} {d e : PyData} (fn : ∀ b, F b = true → ∃ o, H b = some o) (hx : x = .ref T) (hT : H T = none) (hH : H3 = upd H T (.tup [u, v])) (hu : Rp K (wo F H) d u) (hv : Rp K (wo F H) e v) :
    Same H H3 ∧ Rp K (wo F H3) (.tuple [d, e]) x := by
  subst hx hH
  have fT : F T = false := by
    cases q : F T with
    | false => rfl
    | true =>
      obtain ⟨o, e⟩ := fn T q
      rw [hT] at e
      cases e
  have sm : Same H (upd H T (.tup [u, v])) := same_new hT
  exact ⟨sm, T, [u, v], rfl, wo_at fT upd_same, u, [v], rfl, Rp.mono (wo_mono sm) hu, v, [], rfl, Rp.mono (wo_mono sm) hv, rfl⟩
theorem yi_enumT (h : Ye K te es (.tuple xs)) : Yi K (iEnT K (tCons te tNil)) es (enD xs) := fun Z F H σ I R q => h Z F H σ I _ fun v H' s r => by
  obtain ⟨a, vs, rfl, h1, r1⟩ := r
  have at2 : ∀ {F2 : Addr → Bool} {H2 : Hp}, Same (wo F H') (wo F2 H2) → SqT K H2 a vs := fun g => .inl (.inl (wo_sub _ _ (g _ _ h1)))
  refine ⟨a, vs, rfl, .inl (.inl (wo_sub _ _ h1)), q _ H' s ⟨fun F2 H2 i g hi => ?_, fun F2 H2 g => ?_, fun F2 H2 i x H3 g fn hi y => ?_⟩⟩
  · have hl : i < vs.length := by
      rw [← r1.length, ← enD_len (xs := xs)]
      exact hi
    exact ⟨vs, vs[i], at2 g, List.getElem?_eq_getElem hl⟩
  · exact ⟨vs, at2 g, by rw [enD_len, r1.length]; exact Nat.le_refl _⟩
  · obtain ⟨T, z, hx, hT, hH, y⟩ := y
    obtain ⟨d, q1, q2⟩ := r1.getV (y vs (at2 g))
    obtain ⟨m1, m2⟩ := pair_new (d := .int (i : Nat)) fn hx hT hH rfl (Rp.mono g q2)
    exact ⟨m1, _, enD_get q1, m2⟩
/-- two tuples of one length side by side -/
def zipD (xs ys : List PyData) : List PyData := (xs.zip ys).map fun p => .tuple [p.1, p.2]
theorem yi_zipT {ta tb : TE} (ha : Ye K ta es (.tuple xs)) (hb : Ye K tb es (.tuple ys)) : Yi K (RZ.iZipA K (tCons ta (tCons tb tNil))) es (zipD xs ys) := fun Z F H σ I R q => ha Z F H σ I _ fun v H1 s1 r => by
  obtain ⟨a, vs, rfl, h1, r1⟩ := r
  refine hb Z F H1 σ (I.mono s1) _ fun w H2 s2 r => ?_
  obtain ⟨b, ws, rfl, h2, r2⟩ := r
  have r1 := RpAll.mono (wo_mono s2) r1
  have h1 := wo_mono (F := F) s2 _ _ h1
  have at2 : ∀ {F3 : Addr → Bool} {H3 : Hp}, Same (wo F H2) (wo F3 H3) → SqT K H3 a vs ∧ SqT K H3 b ws := fun g => ⟨.inl (.inl (wo_sub _ _ (g _ _ h1))), .inl (.inl (wo_sub _ _ (g _ _ h2)))⟩
  have zl : (zipD xs ys).length = min vs.length ws.length := by
    unfold zipD
    rw [List.length_map, List.length_zip, r1.length, r2.length]
  refine ⟨a, b, vs, ws, rfl, .inr ⟨.inl (.inl (wo_sub _ _ h1)), .inl (.inl (wo_sub _ _ h2)), q _ H2 (s1.trans s2) ⟨fun F3 H3 i g hi => ?_, fun F3 H3 g => ?_, fun F3 H3 i x H4 g fn hi y => ?_⟩⟩⟩
  · rw [zl] at hi
    have l1 : i < vs.length := by omega
    have l2 : i < ws.length := by omega
    exact ⟨vs, ws, vs[i], ws[i], (at2 g).1, (at2 g).2, List.getElem?_eq_getElem l1, List.getElem?_eq_getElem l2⟩
  · exact ⟨vs, ws, (at2 g).1, (at2 g).2, by rw [zl]; omega⟩
  · obtain ⟨T, z1, z2, hx, hT, hH, y1, y2⟩ := y
    obtain ⟨d, q1, q2⟩ := r1.getV (y1 vs (at2 g).1)
    obtain ⟨e, q3, q4⟩ := r2.getV (y2 ws (at2 g).2)
    obtain ⟨m1, m2⟩ := pair_new fn hx hT hH (Rp.mono g q2) (Rp.mono g q4)
    refine ⟨m1, _, ?_, m2⟩
    unfold zipD
    rw [List.getElem?_map, List.getElem?_zip_eq_some (z := (d, e)) |>.mpr ⟨q1, q3⟩]
    rfl
end
end Sr
set_option Elab.async false
set_option linter.all false
set_option maxRecDepth 100000
set_option maxHeartbeats 4000000
set_option autoImplicit false
/-! Dicts whose keys are tuples of ints; lists of lists of a def's own. -/
namespace Sr
open PySem PySem.Spec L2
/-- {k: v}, k a tuple -/
def tDispT (tk tv : TE) : TE := fun σ H Q => ∀ p, H p = none → tk σ (upd H p (.dT [])) fun x H1 => tv σ H1 fun y H2 => H2 p = some (.dT []) ∧ ∃ kk b, x = .ref b ∧ H2 b = some (.tup (kk.map kV)) ∧ Q (.ref p) (upd H2 p (.dT [(kk, y)]))
theorem pe_dispT {X : Cx} {k v : Expr} {tk tv : TE} {pos : Pos} (hu : X.A.units + 1 < cLine) (hk : PE X k tk) (hv : PE X v tv) : PE X (.Dict [some k] [v] pos) (tDispT tk tv) := by
  refine ⟨fun pins s σ H Q I q => ?_⟩
  have hn := I.hok.fresh (Nat.le_refl s.heap.objs.size)
  have I1 := I.laid (a := s.heap.objs.size) (o := .dT []) (h' := s.heap.push { cls := .type "dict", data := .dict #[] }) (t' := s.toks) (fun _ _ q => Heap.get?_push_of_some _ q) (Nat.le_refl _) (dt_empty s.heap I.big)
  refine wpAny_Dict_any rfl rfl (by simp) (by simp) ?_
  refine pairTrees_cons_walk (thn (hk.run pins _ σ _ _ I1 (q _ hn)) fun u s1 ⟨x, H1, I2, rx, q1⟩ => thn (hv.run pins s1 σ H1 _ I2 q1) fun w2 s2 ⟨y, H2, I3, ry, q2⟩ => ?_)
  refine pairTrees_nil_walk ?_
  obtain ⟨e, kk, b, rfl, hb, q3⟩ := q2
  cases rx
  obtain ⟨z, hd, xs, rel, dd⟩ := dt_of I3.hok e
  have ex : xs = [] := by
    cases rel
    rfl
  subst ex
  unfold storeAll
  rw [List.forIn_cons]
  refine wpAny_bind (wpAny_bind (wpAny_dictSet_heap (hsz := Nat.zero_le _) (knd := tupleKind (mixKind X.prog X.w)) (show X.A.units < cLine by omega) (key_of I3.hok hb) dd fun h' dd' hs => wpAny_pure ?_))
  show wpAny _ _ (forIn ([] : List (Value × Value)) PUnit.unit _) _ _ _
  rw [List.forIn_nil]
  refine wpAny_pure ?_
  obtain ⟨o, es, ep, ho, h2, h3, h4, _, h5⟩ := dd'
  refine ⟨.ref s.heap.objs.size, _, d_write (t' := _) (ob := .dT [(kk, y)]) I3 (by rw [e]; exact True.intro) hs ⟨o, ho⟩ ⟨by show 1 ≤ sizeLine; decide, hd, _, ?_, o, es, ep, ho, h2, h3, h4, h5⟩, rfl, q3⟩
  refine .cons ⟨rfl, ?_, ry⟩ .nil
  show (upd H2 s.heap.objs.size (.dT [(kk, y)])) b = some (.tup (kk.map kV))
  rw [upd_ne (ne_of hb e (fun z => nomatch z))]
  exact hb
section
variable {K : PySem.W.Frag} {es : List Ent} {te ta tb tc td : TE} {d : PyData} {kvs : List (List Int × PyData)} {key : List Int}
/-! ### dicts -/
def lk (kvs : List (List Int × PyData)) (key : List Int) : Option PyData := (kvs.find? fun p => decide (p.1 = key)).map (·.2)
theorem lk_nil : lk [] key = none := rfl
theorem lk_app (kvs : List (List Int × PyData)) (k : List Int) (d : PyData) (h : lk kvs k = none) (j : List Int) : lk (kvs ++ [(k, d)]) j = if j = k then some d else lk kvs j := by
  induction kvs with
  | nil =>
    show ((List.find? (fun p : List Int × PyData => decide (p.1 = j)) [(k, d)]).map fun p => p.2) = _
    rw [List.find?_cons]
    by_cases c : k = j
    · subst c
      simp
    · rw [decide_eq_false c, if_neg (Ne.symm c)]
      rfl
  | cons p r ih =>
    have e : ∀ q : List Int, lk (p :: r) q = if p.1 = q then some p.2 else lk r q := fun q => by
      unfold lk
      rw [List.find?_cons]
      by_cases c : p.1 = q
      · rw [decide_eq_true c, if_pos c]
        rfl
      · rw [decide_eq_false c, if_neg c]
    have e2 : lk ((p :: r) ++ [(k, d)]) j = if p.1 = j then some p.2 else lk (r ++ [(k, d)]) j := by
      unfold lk
      rw [List.cons_append, List.find?_cons]
      by_cases c : p.1 = j
      · rw [decide_eq_true c, if_pos c]
        rfl
      · rw [decide_eq_false c, if_neg c]
    rw [e] at h
    have hk : ¬ p.1 = k := fun c => by rw [if_pos c] at h; cases h
    rw [if_neg hk] at h
    rw [e2, e, ih h]
    by_cases c : p.1 = j
    · rw [if_pos c, if_pos c, if_neg (fun z => hk (c.trans z))]
    · rw [if_neg c, if_neg c]
theorem keyD_inj : ∀ {a : List Key} {b : List Int}, a.map keyD = b.map PyData.int → a = b.map Sum.inl
  | [], [], _ => rfl
  | [], _ :: _, h => by cases h
  | _ :: _, [], h => by cases h
  | .inl i :: a, j :: b, h => by
    rw [List.map_cons, List.map_cons] at h
    injection h with h1 h2
    injection h1 with h1
    rw [List.map_cons, keyD_inj h2, h1]
  | .inr x :: a, j :: b, h => by
    rw [List.map_cons, List.map_cons] at h
    injection h with h1 h2
    cases h1
theorem inl_inj : ∀ {a b : List Int}, a.map (Sum.inl : Int → Key) = b.map Sum.inl → a = b
  | [], [], _ => rfl
  | [], _ :: _, h => by cases h
  | _ :: _, [], h => by cases h
  | i :: a, j :: b, h => by
    rw [List.map_cons, List.map_cons] at h
    injection h with h1 h2
    injection h1 with h1
    rw [inl_inj h2, h1]
theorem rpKv_look {H : Hp} : ∀ {kvs : List (List Int × PyData)} {ks : List (List Key × V)}, RpKv K H (toPD kvs) ks → ∀ key : List Int, (lk kvs key = none → valV ks (key.map Sum.inl) = none) ∧ ∀ d, lk kvs key = some d → ∃ v, valV ks (key.map Sum.inl) = some v ∧ Rp K H d v
  | [], _, h, key => by
    have e : _ = [] := h
    subst e
    exact ⟨fun _ => rfl, fun d z => by cases z⟩
  | (k, d) :: r, _, h, key => by
    obtain ⟨kk, v, s, rfl, e1, r1, r2⟩ := h
    injection e1 with e1
    have e3 := keyD_inj e1.symm
    subst e3
    obtain ⟨i1, i2⟩ := rpKv_look (kvs := r) r2 key
    have e : lk ((k, d) :: r) key = if k = key then some d else lk r key := by
      unfold lk
      rw [List.find?_cons]
      by_cases c : k = key
      · rw [decide_eq_true c, if_pos c]
        rfl
      · rw [decide_eq_false c, if_neg c]
    rw [e]
    by_cases c : k = key
    · subst c
      rw [if_pos rfl]
      refine ⟨fun z => (by cases z), fun d' z => ?_⟩
      cases z
      exact ⟨v, valV_pos rfl, r1⟩
    · rw [if_neg c, valV_neg (fun z => c (inl_inj z))]
      exact ⟨i1, i2⟩
theorem rpKv_app {H : Hp} {v : V} (r : Rp K H d v) : ∀ {kvs : List (List Int × PyData)} {ks : List (List Key × V)}, RpKv K H (toPD kvs) ks → RpKv K H (toPD (kvs ++ [(key, d)])) (ks ++ [(key.map Sum.inl, v)])
  | [], _, h => by
    have e : _ = [] := h
    subst e
    refine ⟨key.map Sum.inl, v, [], rfl, ?_, r, rfl⟩
    rw [List.map_map]
    rfl
  | _ :: kr, _, h => by
    obtain ⟨kk, u, s, rfl, e1, r1, r2⟩ := h
    exact ⟨kk, u, _, rfl, e1, r1, rpKv_app r r2⟩
/-- a dict to be read -/
def Yd (K : PySem.W.Frag) (te : TE) (es : List Ent) (kvs : List (List Int × PyData)) : Prop := ∀ Z F H σ, Env K Z F H σ es → ∀ Q : VK, (∀ a ks H', Same H H' → H' a = some (.dT ks) → RpKv K (wo F H') (toPD kvs) ks → Q (.ref a) H') → te σ H Q
theorem yd_var {i : Nat} (h : es[i]? = some (.md kvs)) : Yd K (tVar i) es kvs := fun Z F H σ I Q q => by
  obtain ⟨p, ks, e, _, _, hp, r⟩ := I.md h
  exact ⟨.ref p, e, q p ks H (Same.refl H) hp r⟩
theorem yd_im (h : Ye K te es (.dict (toPD kvs))) : Yd K te es kvs := fun Z F H σ I Q q => h Z F H σ I _ fun v H' s r => by
  obtain ⟨a, ks, rfl, h1, r1⟩ := r
  exact q a ks H' s (wo_sub _ _ h1) r1
theorem rp_key {H : Hp} {v : V} (h : Rp K H (.tuple (key.map .int)) v) : ∃ b, v = .ref b ∧ H b = some (.tup ((key.map Sum.inl).map kV)) := by
  obtain ⟨b, vs, rfl, hb, r⟩ := h
  refine ⟨b, rfl, ?_⟩
  rw [rpAll_ints r] at hb
  rw [List.map_map]
  exact hb
theorem ye_dIn (ha : Ye K ta es (.tuple (key.map .int))) (hd : Yd K td es kvs) : Ye K (tDIn ta td) es (.bool (lk kvs key).isSome) := fun Z F H σ I Q q => ha Z F H σ I _ fun v H1 s1 r1 => hd Z F H1 σ (I.mono s1) _ fun a ks H2 s2 h2 r2 => by
  obtain ⟨b, rfl, hb⟩ := rp_key r1
  obtain ⟨l1, l2⟩ := rpKv_look r2 key
  refine ⟨a, _, rfl, DGet.t h2 (s2 _ _ (wo_sub _ _ hb)), ?_⟩
  cases e : lk kvs key with
  | none =>
    rw [l1 e]
    refine q _ H2 (s1.trans s2) ?_
    rw [e]
    rfl
  | some d =>
    obtain ⟨v, e1, _⟩ := l2 d e
    rw [e1]
    refine q _ H2 (s1.trans s2) ?_
    rw [e]
    rfl
theorem ye_dNotIn (ha : Ye K ta es (.tuple (key.map .int))) (hd : Yd K td es kvs) : Ye K (tDNotIn ta td) es (.bool (!(lk kvs key).isSome)) := fun Z F H σ I Q q => ha Z F H σ I _ fun v H1 s1 r1 => hd Z F H1 σ (I.mono s1) _ fun a ks H2 s2 h2 r2 => by
  obtain ⟨b, rfl, hb⟩ := rp_key r1
  obtain ⟨l1, l2⟩ := rpKv_look r2 key
  refine ⟨a, _, rfl, DGet.t h2 (s2 _ _ (wo_sub _ _ hb)), ?_⟩
  cases e : lk kvs key with
  | none =>
    rw [l1 e]
    refine q _ H2 (s1.trans s2) ?_
    rw [e]
    rfl
  | some d =>
    obtain ⟨v, e1, _⟩ := l2 d e
    rw [e1]
    refine q _ H2 (s1.trans s2) ?_
    rw [e]
    rfl
theorem ye_dGet (hd : Yd K td es kvs) (ha : Ye K ta es (.tuple (key.map .int))) (hl : lk kvs key = some d) : Ye K (tDGet td ta) es d := fun Z F H σ I Q q => hd Z F H σ I _ fun a ks H1 s1 h1 r1 => ha Z F H1 σ (I.mono s1) _ fun v H2 s2 r2 => by
  obtain ⟨b, rfl, hb⟩ := rp_key r2
  obtain ⟨l1, l2⟩ := rpKv_look (RpKv.mono (wo_mono s2) r1) key
  obtain ⟨v, e1, rv⟩ := l2 d hl
  refine ⟨a, v, rfl, ?_, q v H2 (s1.trans s2) rv⟩
  rw [← e1]
  exact DGet.t (s2 _ _ h1) (wo_sub _ _ hb)
theorem yo_dput {i : Nat} (he : es[i]? = some (.md kvs)) (hv : Ye K te es d) (hk : Ye K ta es (.tuple (key.map .int))) (hn : lk kvs key = none) (hz : kvs.length < 100000) : Yo K (sDPut (tVar i) ta te) es (.nx (es.set i (.md (kvs ++ [(key, d)])))) := fun Z F H σ D I G =>
  hv Z F H σ I _ fun v H1 s1 r1 => by
    obtain ⟨p, ks, e, fp, f0, hp, r⟩ := (I.mono s1).md he
    refine ⟨.ref p, e, hk Z F H1 σ (I.mono s1) _ fun w H2 s2 r2 => ?_⟩
    obtain ⟨b, rfl, hb⟩ := rp_key r2
    have r' := RpKv.mono (wo_mono (F := F) s2) r
    have nk : valV ks (key.map Sum.inl) = none := (rpKv_look r' key).1 hn
    have lz : ks.length = kvs.length := by
      have e : ∀ {kvs : List (List Int × PyData)} {ks : List (List Key × V)}, RpKv K (wo F H2) (toPD kvs) ks → ks.length = kvs.length := by
        intro kvs
        induction kvs with
        | nil =>
          intro ks h
          have e : ks = [] := h
          rw [e] <;> rfl
        | cons q qs ih =>
          intro ks h
          obtain ⟨kk, u, s, rfl, _, _, h2⟩ := h
          rw [List.length_cons, List.length_cons, ih h2]
      exact e r'
    refine ⟨p, _, rfl, DPut.t (s2 _ _ hp) (wo_sub _ _ hb) (sz_lt (by omega)), ?_⟩
    refine G F _ σ (((I.mono s1).mono s2).change (p := p) he fun own o1 o2 o3 => ?_)
    obtain ⟨p2, ks2, e2, ho, hp2, r3⟩ := o3 i _ he
    rw [e] at e2
    cases e2
    refine ⟨ho, p, _, e, ho, upd_same, ?_⟩
    rw [wo_upd fp, putK_new v nk]
    exact rpKv_app (Rp.mono (wo_mono s2) r1) r'
/-- a new dict -/
def Ydf (K : PySem.W.Frag) (te : TE) (es : List Ent) (kvs : List (List Int × PyData)) : Prop := ∀ Z F H σ, Env K Z F H σ es → ∀ Q : VK, (∀ p ks H', Same H H' → H p = none → H' p = some (.dT ks) → RpKv K (wo (add p F) H') (toPD kvs) ks → Q (.ref p) H') → te σ H Q
theorem ydf_empty : Ydf K tDNewT es [] := fun Z F H σ I Q q p hp => q p [] _ (same_new hp) hp upd_same rfl
theorem ydf_one (hk : Ye K ta es (.tuple (key.map .int))) (hv : Ye K tb es d) : Ydf K (tDispT ta tb) es [(key, d)] := fun Z F H σ I Q q p hp => by
  have J : Env K Z (add p F) (upd H p (.dT [])) σ es := I.hide (same_new hp) hp ⟨_, upd_same⟩
  refine hk Z (add p F) _ σ J _ fun x H1 s1 r1 => hv Z (add p F) H1 σ (J.mono s1) _ fun y H2 s2 r2 => ?_
  obtain ⟨b, rfl, hb⟩ := rp_key r1
  refine ⟨(s1.trans s2) _ _ upd_same, key.map Sum.inl, b, rfl, s2 _ _ (wo_sub _ _ hb), q p _ _ (fun c o e => ?_) hp upd_same ?_⟩
  · have nc := ne_of_none e hp
    rw [upd_ne nc]
    exact (s1.trans s2) _ _ (by rw [upd_ne nc]; exact e)
  · rw [wo_upd add_self]
    refine ⟨key.map Sum.inl, y, [], rfl, ?_, r2, rfl⟩
    rw [List.map_map]
    rfl
theorem yo_asgD {i : Nat} (h : Ydf K te es kvs) (hi : i < es.length := by exact Nat.le_of_ble_eq_true rfl) : Yo K (tAsg te (gName i)) es (.nx (es.set i (.md kvs))) := fun Z F H σ D I G =>
  h Z F H σ I _ fun p ks H' s hp hx r => G (add p F) H' _ (I.mine s hp ⟨_, hx⟩ hi ⟨p, ks, rfl, rfl, hx, r⟩)
/-! ### lists of lists of its own -/
def addS (S F : Addr → Bool) : Addr → Bool := fun b => F b || S b
theorem same_hideS {F S : Addr → Bool} {H H' : Hp} (s : Same H H') (hS : ∀ b, S b = true → H b = none) : Same (wo F H) (wo (addS S F) H') := fun b o q => by
  have z := wo_iff.mp q
  refine wo_at ?_ (s b o z.2)
  unfold addS
  rw [z.1]
  cases c : S b with
  | false => rfl
  | true =>
    have y := z.2
    rw [hS b c] at y
    cases y
theorem EntAt.hideS {F S : Addr → Bool} {H H' : Hp} {own : Addr → Prop} {o : Option (Option V)} (s2 : Same H H') (hS : ∀ b, S b = true → H b = none) : ∀ {e : Ent}, EntAt K F H own o e → EntAt K (addS S F) H' own o e := by
  have s1 : Same (wo F H) (wo (addS S F) H') := same_hideS s2 hS
  intro e h
  cases e with
  | no => trivial
  | im d =>
    obtain ⟨v, e, h⟩ := h
    exact ⟨v, e, Rp.mono s1 h⟩
  | ml xs =>
    obtain ⟨q, vs, e, ho, hq, h⟩ := h
    exact ⟨q, vs, e, ho, s2 _ _ hq, RpAll.mono s1 h⟩
  | md xs =>
    obtain ⟨q, vs, e, ho, hq, h⟩ := h
    exact ⟨q, vs, e, ho, s2 _ _ hq, RpKv.mono s1 h⟩
  | mt rows =>
    obtain ⟨q, as, e, ho, ha, hn, hd, hq, hl, h⟩ := h
    refine ⟨q, as, e, ho, ha, hn, hd, s2 _ _ hq, hl, fun i a r h1 h2 => ?_⟩
    obtain ⟨vs, q1, q2⟩ := h i a r h1 h2
    exact ⟨vs, s2 _ _ q1, RpAll.mono s1 q2⟩
theorem Env.hideS {Z : Bs} {F S : Addr → Bool} {H H' : Hp} {σ : L2.St} (I : Env K Z F H σ es) (s : Same H H') (hS : ∀ b, S b = true → H b = none ∧ ∃ o, H' b = some o) : Env K Z (addS S F) H' σ es := by
  obtain ⟨own, o1, o2, o3⟩ := I.own
  have le : ∀ b, F b = true → addS S F b = true := fun b h => by simp [addS, h]
  refine ⟨fun b o q => ?_, fun b q => le b (I.hid b q), fun b q => ?_, I.len, own, fun i q h => ⟨le q (o1 i q h).1, (o1 i q h).2⟩, o2, fun i e h => (o3 i e h).hideS s fun b hb => (hS b hb).1⟩
  · have z := I.base b o q
    refine ⟨s _ _ z.1, fun h => ?_⟩
    cases c : S b with
    | true =>
      have y := z.1
      rw [(hS b c).1] at y
      cases y
    | false => exact z.2 (by simpa [addS, c] using h)
  · cases c : S b with
    | true => exact (hS b c).2
    | false =>
      obtain ⟨o, e⟩ := I.fin b (by simpa [addS, c] using q)
      exact ⟨o, s _ _ e⟩
theorem Env.mineS {Z : Bs} {F S : Addr → Bool} {H H' : Hp} {σ : L2.St} {v : V} {i : Nat} {e : Ent} (I : Env K Z F H σ es) (s : Same H H') (hS : ∀ b, S b = true → H b = none ∧ ∃ o, H' b = some o) (hi : i < es.length)
    (h : EntAt K (addS S F) H' (fun q => S q = true) (some (some v)) e) : Env K Z (addS S F) H' (σ.set i (some v)) (es.set i e) := by
  have J := I.hideS s hS
  have no : ∀ q, S q = true → F q = false := fun q h => I.fresh (hS q h).1
  obtain ⟨own, o1, o2, o3⟩ := I.own
  refine ⟨J.base, J.hid, J.fin, by rw [List.length_set, List.length_set]; exact I.len, fun j q => if j = i then S q = true else own j q, fun j q hq => ?_, fun j k q h1 h2 => ?_, fun j e' q => ?_⟩
  · by_cases c : j = i
    · have hq' : S q = true := by simpa [c] using hq
      refine ⟨by simp [addS, hq'], ?_⟩
      cases hf : Z.F0 q with
      | false => rfl
      | true =>
        have y := no q hq'
        rw [I.hid q hf] at y
        cases y
    · have hq' : own j q := by simpa [c] using hq
      exact ⟨by simp [addS, (o1 j q hq').1], (o1 j q hq').2⟩
  · have no2 : ∀ l, own l q → S q = true → False := fun l h3 h4 => by
      have y := no q h4
      rw [(o1 l q h3).1] at y
      cases y
    by_cases c : j = i <;> by_cases c2 : k = i
    · rw [c, c2]
    · exact (no2 k (by simpa [c2] using h2) (by simpa [c] using h1)).elim
    · exact (no2 j (by simpa [c] using h1) (by simpa [c2] using h2)).elim
    · exact o2 j k q (by simpa [c] using h1) (by simpa [c2] using h2)
  · by_cases c : j = i
    · subst c
      rw [List.getElem?_set_self hi] at q
      cases q
      rw [List.getElem?_set_self (by rw [I.len]; exact hi)]
      have e0 : (fun q => if j = j then S q = true else own j q) = fun q => S q = true := by
        funext q
        rw [if_pos rfl]
      show EntAt K (addS S F) H' (fun q => if j = j then S q = true else own j q) _ _
      rw [e0]
      exact h
    · rw [List.getElem?_set_ne (Ne.symm c)] at q
      rw [List.getElem?_set_ne (Ne.symm c)]
      have e0 : (fun q => if j = i then S q = true else own j q) = own j := by
        funext q
        rw [if_neg c]
      show EntAt K (addS S F) H' (fun q => if j = i then S q = true else own j q) _ _
      rw [e0]
      exact (o3 j e' q).hideS s fun b hb => (hS b hb).1
/-- a new list of new lists: p, and as -/
def Yft (K : PySem.W.Frag) (te : TE) (es : List Ent) (rows : List (List PyData)) : Prop := ∀ Z F H σ, Env K Z F H σ es → ∀ Q : VK,
  (∀ (p : Addr) (as : List Addr) (S : Addr → Bool) (H' : Hp), Same H H' → (∀ b, S b = true → H b = none ∧ ∃ o, H' b = some o) → S p = true → (∀ a ∈ as, S a = true) → p ∉ as → as.Nodup → H' p = some (.lst (as.map V.ref)) → RowsAt K (addS S F) H' rows as → Q (.ref p) H') → te σ H Q
theorem yo_asgT {i : Nat} {rows : List (List PyData)} (h : Yft K te es rows) (hi : i < es.length := by exact Nat.le_of_ble_eq_true rfl) : Yo K (tAsg te (gName i)) es (.nx (es.set i (.mt rows))) := fun Z F H σ D I G =>
  h Z F H σ I _ fun p as S H' s hS hp ha hn hd hx r => G (addS S F) H' _ (I.mineS s hS hi ⟨p, as, rfl, hp, ha, hn, hd, hx, r⟩)
/-- [new list for i in range ..] -/
theorem yft_lc {wi : TI} {v : Nat → Int} {n j : Nat} {vs : List Nat} (row : Nat → List PyData) (hi : Yi K wi es (rgV v n)) (hz : n ≤ 50000) (hj : j ∈ vs) (hl : j < es.length)
    (step : ∀ i, i < n → Yf K te ((wipeE es vs).set j (.im (.int (v i)))) (row i)) : Yft K (tLc wi (gName j) tYes te vs) es ((List.range n).map row) := fun Z F H σ I Q q => by
  refine hi Z F H σ I _ fun J H1 s1 ok D hD => ?_
  have I1 := I.mono s1
  have wl : ∀ vs : List Nat, (wipeE es vs).length = es.length := by
    intro vs
    induction vs with
    | nil => rfl
    | cons v vs ih =>
      show ((wipeE es vs).set v .no).length = _
      rw [List.length_set, ih]
  refine ⟨fun i k H' => k = n - i ∧ i ≤ n ∧ Same H1 H' ∧ ∃ as : List Addr, H' D = some (.lst (as.map V.ref)) ∧ as.length = i ∧ as.Nodup ∧ D ∉ as ∧ (∀ a ∈ as, H1 a = none) ∧
      ∀ (l : Nat) (a : Addr), as[l]? = some a → ∃ ws, H' a = some (.lst ws) ∧ RpAll K (wo (addS (fun b => decide (b = D ∨ b ∈ as)) F) H') (row l) ws,
    ⟨n, rfl, Nat.zero_le _, same_new hD, [], upd_same, rfl, List.nodup_nil, List.not_mem_nil, fun a h => (by cases h), fun l a h => by simp at h⟩, ?_⟩
  rintro i k H' ⟨rfl, hi, sH, as, hacc, hlen, hnd, hDas, hfr, hrow⟩
  have hS : ∀ b, decide (b = D ∨ b ∈ as) = true → H1 b = none ∧ ∃ o, H' b = some o := fun b hb => by
    rcases of_decide_eq_true hb with z | z
    · subst z
      exact ⟨hD, _, hacc⟩
    · obtain ⟨l, hl⟩ := List.mem_iff_getElem?.mp z
      obtain ⟨ws, h1, _⟩ := hrow l b hl
      exact ⟨hfr b z, _, h1⟩
  have J1 : Env K Z (addS (fun b => decide (b = D ∨ b ∈ as)) F) H' σ es := I1.hideS sH hS
  have sn : Same (wo F H1) (wo (addS (fun b => decide (b = D ∨ b ∈ as)) F) H') := same_hideS sH fun b hb => (hS b hb).1
  by_cases hlt : i < n
  · refine .inr ⟨ok.go _ H' i sn (by rw [rgV_len]; exact hlt), fun H2 => Same H1 H2 ∧ ∃ as : List Addr, H2 D = some (.lst (as.map V.ref)) ∧ as.length = i + 1 ∧ as.Nodup ∧ D ∉ as ∧ (∀ a ∈ as, H1 a = none) ∧
      ∀ (l : Nat) (a : Addr), as[l]? = some a → ∃ ws, H2 a = some (.lst ws) ∧ RpAll K (wo (addS (fun b => decide (b = D ∨ b ∈ as)) F) H2) (row l) ws, fun H2 ⟨h1, h2⟩ => ⟨n - (i + 1), by omega, rfl, hlt, h1, h2⟩, fun x H2 y => ?_⟩
    obtain ⟨s2, d, hd, rd⟩ := ok.yld _ H' i x H2 sn J1.fin (by rw [rgV_len]; exact hlt) y
    rw [rgV_get hlt] at hd
    cases hd
    have J2 : Env K Z (addS (fun b => decide (b = D ∨ b ∈ as)) F) H2 (wipe σ vs) (wipeE es vs) := (J1.mono s2).wipe vs
    have J3 := J2.put (i := j) (d := .int (v i)) (by rw [wl]; exact hl) rd
    refine ⟨by rw [wipe_set hj, wipe_idem], ?_⟩
    refine step i hlt _ _ H2 _ J3 _ fun p ws H3 s3 hp hx rw' => ?_
    have nD : p ≠ D := fun z => by
      subst z
      rw [s2 _ _ hacc] at hp
      cases hp
    have nas : p ∉ as := fun z => by
      obtain ⟨o, e⟩ := (hS p (decide_eq_true (.inr z))).2
      rw [s2 _ _ e] at hp
      cases hp
    have p1 : H1 p = none := (sH.trans s2).free hp
    refine ⟨as.map V.ref, (s2.trans s3) _ _ hacc, sz_lt (by rw [List.length_map]; omega), ?_, as ++ [p], ?_, by rw [List.length_append, hlen]; rfl, ?_, ?_, fun a ha => ?_, fun l a hla => ?_⟩
    · intro b u e
      rw [upd_ne (ne_of_none e hD)]
      exact (sH.trans (s2.trans s3)) b u e
    · rw [upd_same, List.map_append]
      rfl
    · exact List.nodup_append.mpr ⟨hnd, by simp, fun a ha b hb => by simp at hb; subst hb; exact fun z => nas (by rw [← z]; exact ha)⟩
    · intro z
      rcases List.mem_append.mp z with z | z
      · exact hDas z
      · exact nD (List.mem_singleton.mp z).symm
    · rcases List.mem_append.mp ha with z | z
      · exact hfr a z
      · rw [List.mem_singleton.mp z]
        exact p1
    · have eqF : ∀ H4 : Hp, wo (addS (fun b => decide (b = D ∨ b ∈ as ++ [p])) F) (upd H4 D (.lst (as.map V.ref ++ [.ref p]))) = wo (add p (addS (fun b => decide (b = D ∨ b ∈ as)) F)) H4 := fun H4 => by
        funext b
        unfold wo
        by_cases c : b = D
        · subst c
          rw [if_pos (by simp [addS]), if_pos (by simp [addS, add])]
        · have e1 : addS (fun b => decide (b = D ∨ b ∈ as ++ [p])) F b = add p (addS (fun b => decide (b = D ∨ b ∈ as)) F) b := by
            unfold addS add
            simp [c, List.mem_append, Bool.or_assoc, Bool.decide_or]
          rw [e1, upd_ne c]
      by_cases c : l < as.length
      · rw [List.getElem?_append_left c] at hla
        obtain ⟨us, h1, h2⟩ := hrow l a hla
        have na : a ≠ D := fun z => hDas (by rw [← z]; exact List.mem_of_getElem? hla)
        refine ⟨us, by rw [upd_ne na]; exact (s2.trans s3) _ _ h1, ?_⟩
        rw [eqF]
        refine RpAll.mono (fun b o q => ?_) h2
        have z := wo_iff.mp q
        have hb3 := (s2.trans s3) _ _ z.2
        refine wo_at ?_ hb3
        have np : b ≠ p := fun y => by
          subst y
          rw [s2 _ _ z.2] at hp
          cases hp
        rw [add_ne np]
        exact z.1
      · have el : l = as.length := by
          have := (List.getElem?_eq_some_iff.mp hla).1
          rw [List.length_append] at this
          simp at this
          omega
        subst el
        rw [List.getElem?_append_right (Nat.le_refl _)] at hla
        simp at hla
        subst hla
        refine ⟨ws, by rw [upd_ne nD]; exact hx, ?_⟩
        rw [eqF, hlen]
        exact rw'
  · have e : i = n := by omega
    subst e
    refine .inl ⟨by have q := ok.stop _ H' sn; rw [rgV_len] at q; exact q, q D as _ H' (s1.trans sH) (fun b hb => ⟨s1.free (hS b hb).1, (hS b hb).2⟩) (decide_eq_true (.inl rfl)) (fun a ha => decide_eq_true (.inr ha)) hDas hnd hacc ⟨by rw [List.length_map, List.length_range]; exact hlen, fun l a r h1 h2 => ?_⟩⟩
    have hl : l < i := by
      have := (List.getElem?_eq_some_iff.mp h1).1
      omega
    rw [List.getElem?_map, List.getElem?_range hl] at h2
    cases h2
    exact hrow l a h1
/-- a row of it is changed -/
theorem Env.row {Z : Bs} {F : Addr → Bool} {H : Hp} {σ : L2.St} {rows : List (List PyData)} {i j : Nat} {p a : Addr} {as : List Addr} {ws : List V} {r : List PyData} (I : Env K Z F H σ es) (he : es[i]? = some (.mt rows)) (e : σ[i]? = some (some (.ref p))) (hp : H p = some (.lst (as.map V.ref))) (ha : as[j]? = some a)
    (h : RpAll K (wo F H) r ws) : Env K Z F (upd H a (.lst ws)) σ (es.set i (.mt (rows.set j r))) :=
  I.change (p := a) he fun own o1 o2 o3 => by
    obtain ⟨p2, as2, e2, ho, hm, hn, hd, hp2, hl, hr⟩ := o3 i _ he
    rw [e] at e2
    cases e2
    rw [hp] at hp2
    injection hp2 with hp2
    injection hp2 with hp2
    have inj : ∀ {a b : List Addr}, a.map V.ref = b.map V.ref → a = b := by
      intro a
      induction a with
      | nil =>
        intro b q
        cases b with
        | nil => rfl
        | cons y r => cases q
      | cons x r ih =>
        intro b q
        cases b with
        | nil => cases q
        | cons y r' =>
          rw [List.map_cons, List.map_cons] at q
          injection q with q1 q2
          injection q1 with q1
          rw [q1, ih q2]
    have ea := inj hp2
    subst ea
    have ham := List.mem_of_getElem? ha
    have hF := (o1 i a (hm a ham)).1
    refine ⟨hm a ham, p, as, e, ho, hm, hn, hd, ?_, by rw [List.length_set]; exact hl, fun l b s h1 h2 => ?_⟩
    · rw [upd_ne (fun z => hn (by rw [z]; exact ham))]
      exact hp
    · rw [wo_upd hF]
      by_cases c : l = j
      · subst c
        rw [ha] at h1
        cases h1
        have lt := (List.getElem?_eq_some_iff.mp ha).1
        rw [List.getElem?_set_self (by omega)] at h2
        cases h2
        exact ⟨ws, upd_same, h⟩
      · rw [List.getElem?_set_ne (Ne.symm c)] at h2
        obtain ⟨us, q1, q2⟩ := hr l b s h1 h2
        have nb : b ≠ a := fun z => by
          subst z
          exact c (nd_ix hd h1 ha)
        exact ⟨us, by rw [upd_ne nb]; exact q1, q2⟩
theorem ixN_at {n j : Nat} (h : j < n) : ixN n (j : Int) = some j := by
  unfold ixN
  rw [if_pos (by omega), if_pos (by omega)]
  simp
theorem yo_mtSet {rows : List (List PyData)} {r : List PyData} {i j k : Nat} (he : es[i]? = some (.mt rows)) (hv : Ye K te es d) (hj : Ye K tb es (.int j)) (hk : Ye K tc es (.int k)) (hr : rows[j]? = some r) (hkl : k < r.length) :
    Yo K (tAsg te (gSub (tOp (rIxL K) (tVar i) tb) tc rSetL)) es (.nx (es.set i (.mt (rows.set j (r.set k d))))) := fun Z F H σ D I G =>
  hv Z F H σ I _ fun v H1 s1 r1 => by
    obtain ⟨p, as, e, _⟩ := (I.mono s1).mt he
    refine ⟨.ref p, e, hj Z F H1 σ (I.mono s1) _ fun w H2 s2 r2 => ?_⟩
    cases (show w = .int j from r2)
    have I2 := (I.mono s1).mono s2
    obtain ⟨p', as, e', hp, hn, hd, hF, hl, hrow⟩ := I2.mt he
    rw [e] at e'
    cases e'
    have lt : j < as.length := by
      rw [hl]
      exact (List.getElem?_eq_some_iff.mp hr).1
    have ha : as[j]? = some as[j] := List.getElem?_eq_getElem lt
    obtain ⟨us, q1, q2⟩ := hrow j _ r ha hr
    refine ⟨p, as.map V.ref, j, .ref as[j], rfl, rfl, .inl (.inl hp), atI_nat (by rw [List.getElem?_map, ha]; rfl), hk Z F H2 σ I2 _ fun y H3 s3 r3 => ?_⟩
    cases (show y = .int k from r3)
    have I3 := I2.mono s3
    refine ⟨as[j], us, k, k, rfl, rfl, s3 _ _ q1, ixN_at (by rw [← q2.length]; exact hkl), ?_⟩
    exact G F _ σ (I3.row he e (s3 _ _ hp) ha (RpAll.set (Rp.mono (wo_mono (s2.trans s3)) r1) k (RpAll.mono (wo_mono s3) q2)))
theorem yo_mtApp {rows : List (List PyData)} {r : List PyData} {i j : Nat} (he : es[i]? = some (.mt rows)) (hj : Ye K tb es (.int j)) (hv : Ye K te es d) (hr : rows[j]? = some r) (hz : r.length < 100000) :
    Yo K (tDrop (tBM K "list" rAppend (tOp (rIxL K) (tVar i) tb) (tCons te tNil))) es (.nx (es.set i (.mt (rows.set j (r ++ [d]))))) := fun Z F H σ D I G => by
  obtain ⟨p, as, e, _⟩ := I.mt he
  refine ⟨.ref p, e, hj Z F H σ I _ fun w H2 s2 r2 => ?_⟩
  cases (show w = .int j from r2)
  have I2 := I.mono s2
  obtain ⟨p', as, e', hp, hn, hd, hF, hl, hrow⟩ := I2.mt he
  rw [e] at e'
  cases e'
  have lt : j < as.length := by
    rw [hl]
    exact (List.getElem?_eq_some_iff.mp hr).1
  have ha : as[j]? = some as[j] := List.getElem?_eq_getElem lt
  obtain ⟨us, q1, q2⟩ := hrow j _ r ha hr
  refine ⟨p, as.map V.ref, j, .ref as[j], rfl, rfl, .inl (.inl hp), atI_nat (by rw [List.getElem?_map, ha]; rfl), .inl ⟨rfl, us, .inl (.inl q1)⟩, hv Z F H2 σ I2 _ fun y H3 s3 r3 => ?_⟩
  have I3 := I2.mono s3
  refine ⟨as[j], us, y, rfl, rfl, s3 _ _ q1, sz_lt (by rw [← q2.length]; exact hz), ?_⟩
  exact G F _ σ (I3.row he e (s3 _ _ hp) ha ((RpAll.mono (wo_mono s3) q2).append (RpAll.one r3)))
end
end Sr
set_option Elab.async false
set_option linter.all false
set_option maxRecDepth 100000
set_option maxHeartbeats 2000000
set_option autoImplicit false
/-! The text by places, and what its top has left. -/
namespace Sr
open PySem L2
def topS (i : Nat) : Stmt := PySem.Challenge.pw_stairrooms_k31_whole_least_closed.main.body.getD i (.Pass ⟨0, 0, 0, 0⟩)
abbrev s_whole_number : Stmt := topS 12
theorem sc_whole_number : FnScope ["thing"] ["thing"] (defScope s_whole_number) := ⟨rfl, rfl, rfl, by decide +kernel, rfl, by decide +kernel, by decide +kernel⟩
abbrev s_room_of : Stmt := topS 13
theorem sc_room_of : FnScope ["thing", "many"] ["thing", "many"] (defScope s_room_of) := ⟨rfl, rfl, rfl, by decide +kernel, rfl, by decide +kernel, by decide +kernel⟩
abbrev s_sign_of_way : Stmt := topS 14
theorem sc_sign_of_way : FnScope ["thing"] ["thing"] (defScope s_sign_of_way) := ⟨rfl, rfl, rfl, by decide +kernel, rfl, by decide +kernel, by decide +kernel⟩
abbrev s_way_of : Stmt := topS 15
theorem sc_way_of : FnScope ["thing", "many", "room", "deed", "other", "sign"] ["thing", "many"] (defScope s_way_of) := ⟨rfl, rfl, rfl, by decide +kernel, rfl, by decide +kernel, by decide +kernel⟩
abbrev s_is_house : Stmt := topS 16
theorem sc_is_house : FnScope ["thing", "many", "ways", "way"] ["thing"] (defScope s_is_house) := ⟨rfl, rfl, rfl, by decide +kernel, rfl, by decide +kernel, by decide +kernel⟩
abbrev s_check_house : Stmt := topS 17
theorem sc_check_house : FnScope ["house"] ["house"] (defScope s_check_house) := ⟨rfl, rfl, rfl, by decide +kernel, rfl, by decide +kernel, by decide +kernel⟩
abbrev s_check_places : Stmt := topS 18
theorem sc_check_places : FnScope ["house", "places", "room", "number"] ["house", "places"] (defScope s_check_places) := ⟨rfl, rfl, rfl, by decide +kernel, rfl, by decide +kernel, by decide +kernel⟩
abbrev s_check_place : Stmt := topS 19
theorem sc_check_place : FnScope ["house", "place"] ["house", "place"] (defScope s_check_place) := ⟨rfl, rfl, rfl, by decide +kernel, rfl, by decide +kernel, by decide +kernel⟩
abbrev s_deed_open : Stmt := topS 20
theorem sc_deed_open : FnScope ["deed", "number"] ["deed", "number"] (defScope s_deed_open) := ⟨rfl, rfl, rfl, by decide +kernel, rfl, by decide +kernel, by decide +kernel⟩
abbrev s_deed_number : Stmt := topS 21
theorem sc_deed_number : FnScope ["deed", "number"] ["deed", "number"] (defScope s_deed_number) := ⟨rfl, rfl, rfl, by decide +kernel, rfl, by decide +kernel, by decide +kernel⟩
abbrev s_closed_table : Stmt := topS 23
theorem sc_closed_table : FnScope ["table", "many", "rows", "row", "amid", "p", "q"] ["table"] (defScope s_closed_table) := ⟨rfl, rfl, rfl, by decide +kernel, rfl, by decide +kernel, by decide +kernel⟩
abbrev s_steps_table : Stmt := topS 24
theorem sc_steps_table : FnScope ["house", "deeds", "many", "ways", "table", "room", "deed", "other", "sign"] ["house", "deeds"] (defScope s_steps_table) := ⟨rfl, rfl, rfl, by decide +kernel, rfl, by decide +kernel, by decide +kernel⟩
abbrev s_behind_table : Stmt := topS 25
theorem sc_behind_table : FnScope ["one", "other", "many", "table", "room", "p", "amid", "q"] ["one", "other"] (defScope s_behind_table) := ⟨rfl, rfl, rfl, by decide +kernel, rfl, by decide +kernel, by decide +kernel⟩
abbrev s_either_table : Stmt := topS 26
theorem sc_either_table : FnScope ["one", "other", "many", "p", "q"] ["one", "other"] (defScope s_either_table) := ⟨rfl, rfl, rfl, by decide +kernel, rfl, by decide +kernel, by decide +kernel⟩
abbrev s_own_table : Stmt := topS 27
theorem sc_own_table : FnScope ["many", "p", "q"] ["many"] (defScope s_own_table) := ⟨rfl, rfl, rfl, by decide +kernel, rfl, by decide +kernel, by decide +kernel⟩
abbrev s_hill_table : Stmt := topS 28
theorem sc_hill_table : FnScope ["house", "keeps"] ["house", "keeps"] (defScope s_hill_table) := ⟨rfl, rfl, rfl, by decide +kernel, rfl, by decide +kernel, by decide +kernel⟩
abbrev s_keeps_table : Stmt := topS 29
theorem sc_keeps_table : FnScope ["house", "keeps", "going", "more"] ["house"] (defScope s_keeps_table) := ⟨rfl, rfl, rfl, by decide +kernel, rfl, by decide +kernel, by decide +kernel⟩
abbrev s_ground_table : Stmt := topS 30
theorem sc_ground_table : FnScope ["house", "keeps", "steps"] ["house", "keeps"] (defScope s_ground_table) := ⟨rfl, rfl, rfl, by decide +kernel, rfl, by decide +kernel, by decide +kernel⟩
abbrev s_rises_table : Stmt := topS 31
theorem sc_rises_table : FnScope ["house", "keeps"] ["house", "keeps"] (defScope s_rises_table) := ⟨rfl, rfl, rfl, by decide +kernel, rfl, by decide +kernel, by decide +kernel⟩
abbrev s_falls_table : Stmt := topS 32
theorem sc_falls_table : FnScope ["house", "keeps"] ["house", "keeps"] (defScope s_falls_table) := ⟨rfl, rfl, rfl, by decide +kernel, rfl, by decide +kernel, by decide +kernel⟩
abbrev s_is_number : Stmt := topS 36
theorem sc_is_number : FnScope ["thing"] ["thing"] (defScope s_is_number) := ⟨rfl, rfl, rfl, by decide +kernel, rfl, by decide +kernel, by decide +kernel⟩
abbrev s_is_rising : Stmt := topS 37
theorem sc_is_rising : FnScope ["row", "low", "high", "x", "last"] ["row", "low", "high"] (defScope s_is_rising) := ⟨rfl, rfl, rfl, by decide +kernel, rfl, by decide +kernel, by decide +kernel⟩
abbrev s_is_stair : Stmt := topS 38
theorem sc_is_stair : FnScope ["thing", "base", "step", "once", "again"] ["thing"] (defScope s_is_stair) := ⟨rfl, rfl, rfl, by decide +kernel, rfl, by decide +kernel, by decide +kernel⟩
abbrev s_check_stair : Stmt := topS 39
theorem sc_check_stair : FnScope ["stair"] ["stair"] (defScope s_check_stair) := ⟨rfl, rfl, rfl, by decide +kernel, rfl, by decide +kernel, by decide +kernel⟩
abbrev s_bits_of : Stmt := topS 40
theorem sc_bits_of : FnScope ["stair", "many", "base", "step", "once", "again", "bits", "x", "far"] ["stair", "many"] (defScope s_bits_of) := ⟨rfl, rfl, rfl, by decide +kernel, rfl, by decide +kernel, by decide +kernel⟩
abbrev s_least_step : Stmt := topS 41
theorem sc_least_step : FnScope ["bits", "base", "step", "by"] ["bits", "base", "step"] (defScope s_least_step) := ⟨rfl, rfl, rfl, by decide +kernel, rfl, by decide +kernel, by decide +kernel⟩
abbrev s_least_of_bits : Stmt := topS 42
theorem sc_least_of_bits : FnScope ["bits", "base", "step", "once", "x", "again"] ["bits", "base", "step"] (defScope s_least_of_bits) := ⟨rfl, rfl, rfl, by decide +kernel, rfl, by decide +kernel, by decide +kernel⟩
abbrev s_least_by : Stmt := topS 43
theorem sc_least_by : FnScope ["stair"] ["stair"] (defScope s_least_by) := ⟨rfl, rfl, rfl, by decide +kernel, rfl, by decide +kernel, by decide +kernel⟩
abbrev s_least : Stmt := topS 44
theorem sc_least : FnScope ["stair"] ["stair"] (defScope s_least) := ⟨rfl, rfl, rfl, by decide +kernel, rfl, by decide +kernel, by decide +kernel⟩
abbrev s_rooms_behind : Stmt := topS 46
theorem sc_rooms_behind : FnScope ["rooms", "table", "q", "p"] ["rooms", "table"] (defScope s_rooms_behind) := ⟨rfl, rfl, rfl, by decide +kernel, rfl, by decide +kernel, by decide +kernel⟩
abbrev s_joined_rooms : Stmt := topS 47
theorem sc_joined_rooms : FnScope ["one", "other"] ["one", "other"] (defScope s_joined_rooms) := ⟨rfl, rfl, rfl, by decide +kernel, rfl, by decide +kernel, by decide +kernel⟩
abbrev s_lower_levels : Stmt := topS 48
theorem sc_lower_levels : FnScope ["house", "place", "keeps", "falls", "rises", "firsts", "level", "rows"] ["house", "place", "keeps"] (defScope s_lower_levels) := ⟨rfl, rfl, rfl, by decide +kernel, rfl, by decide +kernel, by decide +kernel⟩
abbrev s_levels_from : Stmt := topS 49
theorem sc_levels_from : FnScope ["house", "place", "keeps", "rises", "rows", "seen"] ["house", "place"] (defScope s_levels_from) := ⟨rfl, rfl, rfl, by decide +kernel, rfl, by decide +kernel, by decide +kernel⟩
abbrev s_forward : Stmt := topS 50
theorem sc_forward : FnScope ["house", "place", "rows", "back", "stairs", "room", "once", "x", "again"] ["house", "place"] (defScope s_forward) := ⟨rfl, rfl, rfl, by decide +kernel, rfl, by decide +kernel, by decide +kernel⟩
abbrev s_ways_of_rooms : Stmt := topS 52
theorem sc_ways_of_rooms : FnScope ["house", "many", "ways", "rows", "room", "k", "way"] ["house"] (defScope s_ways_of_rooms) := ⟨rfl, rfl, rfl, by decide +kernel, rfl, by decide +kernel, by decide +kernel⟩
abbrev s_search_from : Stmt := topS 53
theorem sc_search_from : FnScope ["house", "place", "top", "rows", "ahead", "queue", "at", "room", "number", "k", "deed", "other", "found"] ["house", "place", "top"] (defScope s_search_from) := ⟨rfl, rfl, rfl, by decide +kernel, rfl, by decide +kernel, by decide +kernel⟩
abbrev s_traced : Stmt := topS 54
theorem sc_traced : FnScope ["ahead", "goal", "walk", "behind"] ["ahead", "goal"] (defScope s_traced) := ⟨rfl, rfl, rfl, by decide +kernel, rfl, by decide +kernel, by decide +kernel⟩
abbrev s_shortest_below : Stmt := topS 55
theorem sc_shortest_below : FnScope ["house", "place", "goal", "top", "ahead"] ["house", "place", "goal", "top"] (defScope s_shortest_below) := ⟨rfl, rfl, rfl, by decide +kernel, rfl, by decide +kernel, by decide +kernel⟩
abbrev s_shortest : Stmt := topS 56
theorem sc_shortest : FnScope ["house", "place", "goal"] ["house", "place", "goal"] (defScope s_shortest) := ⟨rfl, rfl, rfl, by decide +kernel, rfl, by decide +kernel, by decide +kernel⟩
abbrev s__law_holds : Stmt := topS 58
theorem sc__law_holds : FnScope ["_law_stair", "_law_x", "_law_base", "_law_step", "_law_once", "_law_again"] ["_law_stair", "_law_x"] (defScope s__law_holds) := ⟨rfl, rfl, rfl, by decide +kernel, rfl, by decide +kernel, by decide +kernel⟩
abbrev s__law_mixed : Stmt := topS 59
theorem sc__law_mixed : FnScope ["_law_cell_here", "_law_k", "_law_prime", "_law_far"] ["_law_cell_here", "_law_k", "_law_prime"] (defScope s__law_mixed) := ⟨rfl, rfl, rfl, by decide +kernel, rfl, by decide +kernel, by decide +kernel⟩
abbrev s__law_draws : Stmt := topS 60
theorem sc__law_draws : FnScope ["_law_cell_here", "_law_widths", "_law_prime", "_law_left", "_law_found", "_law_k"] ["_law_cell_here", "_law_widths", "_law_prime"] (defScope s__law_draws) := ⟨rfl, rfl, rfl, by decide +kernel, rfl, by decide +kernel, by decide +kernel⟩
abbrev s__law_spare : Stmt := topS 61
theorem sc__law_spare : FnScope ["_law_cell_here", "_law_width"] ["_law_cell_here", "_law_width"] (defScope s__law_spare) := ⟨rfl, rfl, rfl, by decide +kernel, rfl, by decide +kernel, by decide +kernel⟩
abbrev s__law_ring_house : Stmt := topS 62
theorem sc__law_ring_house : FnScope ["_law_cell_here", "_law_prime", "_law_draws_here", "_law_one", "_law_two", "_law_many", "_law_ways", "_law_k"] ["_law_cell_here", "_law_prime"] (defScope s__law_ring_house) := ⟨rfl, rfl, rfl, by decide +kernel, rfl, by decide +kernel, by decide +kernel⟩
abbrev s__law_unlike : Stmt := topS 63
theorem sc__law_unlike : FnScope ["_law_ways", "_law_found", "_law_way"] ["_law_ways"] (defScope s__law_unlike) := ⟨rfl, rfl, rfl, by decide +kernel, rfl, by decide +kernel, by decide +kernel⟩
abbrev s__law_gate_house : Stmt := topS 64
theorem sc__law_gate_house : FnScope ["_law_cell_here", "_law_prime", "_law_draws_here", "_law_up", "_law_down", "_law_many", "_law_ways", "_law_k"] ["_law_cell_here", "_law_prime"] (defScope s__law_gate_house) := ⟨rfl, rfl, rfl, by decide +kernel, rfl, by decide +kernel, by decide +kernel⟩
abbrev s__law_drawn_house : Stmt := topS 65
theorem sc__law_drawn_house : FnScope ["_law_cell_here", "_law_prime", "_law_draws_here", "_law_many", "_law_often", "_law_ways", "_law_k", "_law_room", "_law_deed", "_law_other", "_law_sign", "_law_word"] ["_law_cell_here", "_law_prime"] (defScope s__law_drawn_house) := ⟨rfl, rfl, rfl, by decide +kernel, rfl, by decide +kernel, by decide +kernel⟩
abbrev s__law_house : Stmt := topS 66
theorem sc__law_house : FnScope ["_law_cell_here", "_law_prime", "_law_kind", "_law_left"] ["_law_cell_here", "_law_prime"] (defScope s__law_house) := ⟨rfl, rfl, rfl, by decide +kernel, rfl, by decide +kernel, by decide +kernel⟩
abbrev s__law_cell : Stmt := topS 67
theorem sc__law_cell : FnScope ["_law_script", "_law_k"] ["_law_script", "_law_k"] (defScope s__law_cell) := ⟨rfl, rfl, rfl, by decide +kernel, rfl, by decide +kernel, by decide +kernel⟩
abbrev s__law_place : Stmt := topS 68
theorem sc__law_place : FnScope ["_law_house_here", "_law_cell_here", "_law_prime", "_law_draws_here"] ["_law_house_here", "_law_cell_here", "_law_prime"] (defScope s__law_place) := ⟨rfl, rfl, rfl, by decide +kernel, rfl, by decide +kernel, by decide +kernel⟩
abbrev s__law_whole : Stmt := topS 69
theorem sc__law_whole : FnScope ["_law_found"] ["_law_found"] (defScope s__law_whole) := ⟨rfl, rfl, rfl, by decide +kernel, rfl, by decide +kernel, by decide +kernel⟩
abbrev s__law_rises : Stmt := topS 70
theorem sc__law_rises : FnScope ["_law_row", "_law_low", "_law_high", "_law_part", "_law_one", "_law_two"] ["_law_row", "_law_low", "_law_high"] (defScope s__law_rises) := ⟨rfl, rfl, rfl, by decide +kernel, rfl, by decide +kernel, by decide +kernel⟩
abbrev s__law_is_stair : Stmt := topS 71
theorem sc__law_is_stair : FnScope ["_law_found"] ["_law_found"] (defScope s__law_is_stair) := ⟨rfl, rfl, rfl, by decide +kernel, rfl, by decide +kernel, by decide +kernel⟩
abbrev s__law_walk : Stmt := topS 72
theorem sc__law_walk : FnScope ["_law_found", "_law_most", "_law_part"] ["_law_found", "_law_most"] (defScope s__law_walk) := ⟨rfl, rfl, rfl, by decide +kernel, rfl, by decide +kernel, by decide +kernel⟩
abbrev s__law_behind : Stmt := topS 73
theorem sc__law_behind : FnScope ["_law_house_here", "_law_place_here", "_law_found", "_law_k", "_law_room", "_law_deed", "_law_other", "_law_sign"] ["_law_house_here", "_law_place_here"] (defScope s__law_behind) := ⟨rfl, rfl, rfl, by decide +kernel, rfl, by decide +kernel, by decide +kernel⟩
abbrev s__law_gone : Stmt := topS 74
theorem sc__law_gone : FnScope ["_law_house_here", "_law_place_here", "_law_walk_here", "_law_found", "_law_k", "_law_there", "_law_way", "_law_far"] ["_law_house_here", "_law_place_here", "_law_walk_here"] (defScope s__law_gone) := ⟨rfl, rfl, rfl, by decide +kernel, rfl, by decide +kernel, by decide +kernel⟩
abbrev s__law_shut : Stmt := topS 75
theorem sc__law_shut : FnScope ["_law_house_here", "_law_stairs", "_law_top", "_law_stair", "_law_room", "_law_deed", "_law_other", "_law_sign", "_law_low", "_law_high", "_law_more", "_law_x"] ["_law_house_here", "_law_stairs"] (defScope s__law_shut) := ⟨rfl, rfl, rfl, by decide +kernel, rfl, by decide +kernel, by decide +kernel⟩
abbrev s_law : Stmt := topS 76
theorem sc_law : FnScope ["_law_script", "_law_house_here", "_law_place_here", "_law_stairs", "_law_one", "_law_k", "_law_draws_here", "_law_goal", "_law_walk_here", "_law_places"] ["_law_script"] (defScope s_law) := ⟨rfl, rfl, rfl, by decide +kernel, rfl, by decide +kernel, by decide +kernel⟩
/-- a def of the top -/
def Df (K : PySem.W.Frag) (mg : Str → Option Value) (x : Str) (st : Stmt) : Prop := ∃ f fd, Fun K x x st f fd ∧ mg x = some (.ref f)
theorem df_mk {K : PySem.W.Frag} {h : Heap} {mg : Str → Option Value} {x : Str} {st : Stmt} (X : K.In h) (G : h.Ns mainGlobals mg) {f : Addr} {oc : Value} {od an : Option Addr} {osl : Array (Option Value)} {kV doc pm cdv ct : Value}
    (a : PySem.W.nsIn K mainGlobals x = some (some (.ref f))) (l : K.lookup f = some ⟨oc, od, .func (PySem.W.fnOf x x (defArgs st) (defBody st) (defScope st) .none kV doc pm an cdv ct), osl⟩)
    (c : PySem.W.codeIn K cdv x = true) (k : PySem.W.keepIn K (.ref f) = true) : Df K mg x st := ⟨f, _, fun_mk l c k, PySem.W.mg_of X G a⟩
/-- what the walk asks of the top -/
structure Txt0 (K : PySem.W.Frag) (mg : Str → Option Value) : Prop where
  b_len : mg "len" = none
  b_range : mg "range" = none
  b_list : mg "list" = none
  b_tuple : mg "tuple" = none
  b_isinstance : mg "isinstance" = none
  b_int : mg "int" = none
  b_bool : mg "bool" = none
  b_str : mg "str" = none
  b_any : mg "any" = none
  b_all : mg "all" = none
  b_set : mg "set" = none
  b_sorted : mg "sorted" = none
  b_max : mg "max" = none
  b_min : mg "min" = none
  b_enumerate : mg "enumerate" = none
  b_zip : mg "zip" = none
  c_MOST_ROOMS : ∃ t, mg "MOST_ROOMS" = some (.int 12 t)
  c_MOST_WAYS : ∃ t, mg "MOST_WAYS" = some (.int 100 t)
  c_HIGHEST : ∃ t, mg "HIGHEST" = some (.int 1000 t)
  c_GREATEST_BASE : ∃ t, mg "GREATEST_BASE" = some (.int 3000 t)
  c_GREATEST_STEP : ∃ t, mg "GREATEST_STEP" = some (.int 840 t)
  c_LETTERS : ∃ t, mg "LETTERS" = some (.str "abcdefghijklmnopqrstuvwxyz" t)
  f_whole_number : Df K mg "whole_number" s_whole_number
  f_room_of : Df K mg "room_of" s_room_of
  f_sign_of_way : Df K mg "sign_of_way" s_sign_of_way
  f_way_of : Df K mg "way_of" s_way_of
  f_is_house : Df K mg "is_house" s_is_house
  f_check_house : Df K mg "check_house" s_check_house
  f_check_places : Df K mg "check_places" s_check_places
  f_check_place : Df K mg "check_place" s_check_place
  f_deed_open : Df K mg "deed_open" s_deed_open
  f_deed_number : Df K mg "deed_number" s_deed_number
  f_closed_table : Df K mg "closed_table" s_closed_table
  f_steps_table : Df K mg "steps_table" s_steps_table
  f_behind_table : Df K mg "behind_table" s_behind_table
  f_either_table : Df K mg "either_table" s_either_table
  f_own_table : Df K mg "own_table" s_own_table
  f_hill_table : Df K mg "hill_table" s_hill_table
  f_keeps_table : Df K mg "keeps_table" s_keeps_table
  f_ground_table : Df K mg "ground_table" s_ground_table
  f_rises_table : Df K mg "rises_table" s_rises_table
  f_falls_table : Df K mg "falls_table" s_falls_table
  f_is_number : Df K mg "is_number" s_is_number
  f_is_rising : Df K mg "is_rising" s_is_rising
  f_is_stair : Df K mg "is_stair" s_is_stair
  f_check_stair : Df K mg "check_stair" s_check_stair
  f_bits_of : Df K mg "bits_of" s_bits_of
  f_least_step : Df K mg "least_step" s_least_step
  f_least_of_bits : Df K mg "least_of_bits" s_least_of_bits
  f_least_by : Df K mg "least_by" s_least_by
  f_least : Df K mg "least" s_least
  f_rooms_behind : Df K mg "rooms_behind" s_rooms_behind
  f_joined_rooms : Df K mg "joined_rooms" s_joined_rooms
  f_lower_levels : Df K mg "lower_levels" s_lower_levels
  f_levels_from : Df K mg "levels_from" s_levels_from
  f_forward : Df K mg "forward" s_forward
  f_ways_of_rooms : Df K mg "ways_of_rooms" s_ways_of_rooms
  f_search_from : Df K mg "search_from" s_search_from
  f_traced : Df K mg "traced" s_traced
  f_shortest_below : Df K mg "shortest_below" s_shortest_below
  f_shortest : Df K mg "shortest" s_shortest
  f__law_holds : Df K mg "_law_holds" s__law_holds
  f__law_mixed : Df K mg "_law_mixed" s__law_mixed
  f__law_draws : Df K mg "_law_draws" s__law_draws
  f__law_spare : Df K mg "_law_spare" s__law_spare
  f__law_ring_house : Df K mg "_law_ring_house" s__law_ring_house
  f__law_unlike : Df K mg "_law_unlike" s__law_unlike
  f__law_gate_house : Df K mg "_law_gate_house" s__law_gate_house
  f__law_drawn_house : Df K mg "_law_drawn_house" s__law_drawn_house
  f__law_house : Df K mg "_law_house" s__law_house
  f__law_cell : Df K mg "_law_cell" s__law_cell
  f__law_place : Df K mg "_law_place" s__law_place
  f__law_whole : Df K mg "_law_whole" s__law_whole
  f__law_rises : Df K mg "_law_rises" s__law_rises
  f__law_is_stair : Df K mg "_law_is_stair" s__law_is_stair
  f__law_walk : Df K mg "_law_walk" s__law_walk
  f__law_behind : Df K mg "_law_behind" s__law_behind
  f__law_gone : Df K mg "_law_gone" s__law_gone
  f__law_shut : Df K mg "_law_shut" s__law_shut
  f_law : Df K mg "law" s_law
structure Txt (K : PySem.W.Frag) (w : World) (mg : Str → Option Value) (aR : Addr) (es : Array DictEntry) (n : Nat) : Prop extends Txt0 K mg where
  c_RAISES : mg "RAISES" = some (.ref aR)
  d_RAISES : KDict K w aR es n
  r_up : ∃ t, PySem.W.nsIn K aR "up" = some (some (.int 1 t))
  r_down : ∃ t, PySem.W.nsIn K aR "down" = some (some (.int (-1) t))
  r_stay : ∃ t, PySem.W.nsIn K aR "stay" = some (some (.int 0 t))
  r_zero : ∃ t, PySem.W.nsIn K aR "zero" = some (some (.int 0 t))
theorem txt_mk {K : PySem.W.Frag} {w : World} {h : Heap} {mg : Str → Option Value} (X : K.In h) (G : h.Ns mainGlobals mg) {aR : Addr} {es : Array DictEntry} {n : Nat} {t1 t2 t3 t4 : Tok}
    (a1 : PySem.W.nsIn K mainGlobals "RAISES" = some (some (.ref aR))) (a2 : K.lookup aR = some ⟨.type "dict", none, .dict es n, #[]⟩) (a3 : PySem.W.KeysLit w.params es.toList) (a4 : (aR == sysModules) = false)
    (r1 : PySem.W.nsIn K aR "up" = some (some (.int 1 t1))) (r2 : PySem.W.nsIn K aR "down" = some (some (.int (-1) t2))) (r3 : PySem.W.nsIn K aR "stay" = some (some (.int 0 t3))) (r4 : PySem.W.nsIn K aR "zero" = some (some (.int 0 t4)))
    (T : Txt0 K mg) : ∃ (aR : Addr) (es : Array DictEntry) (n : Nat), Txt K w mg aR es n :=
  ⟨aR, es, n, { T with c_RAISES := PySem.W.mg_of X G a1, d_RAISES := ⟨a2, a3, a4⟩, r_up := ⟨_, r1⟩, r_down := ⟨_, r2⟩, r_stay := ⟨_, r3⟩, r_zero := ⟨_, r4⟩ }⟩
theorem ci_mk {K : PySem.W.Frag} {h : Heap} {mg : Str → Option Value} (X : K.In h) (G : h.Ns mainGlobals mg) {x : Str} {i : Int} {t : Tok} (a : PySem.W.nsIn K mainGlobals x = some (some (.int i t))) : ∃ t, mg x = some (.int i t) := ⟨t, PySem.W.mg_of X G a⟩
theorem cs_mk {K : PySem.W.Frag} {h : Heap} {mg : Str → Option Value} (X : K.In h) (G : h.Ns mainGlobals mg) {x i : Str} {t : Tok} (a : PySem.W.nsIn K mainGlobals x = some (some (.str i t))) : ∃ t, mg x = some (.str i t) := ⟨t, PySem.W.mg_of X G a⟩
theorem use_txt {K : PySem.W.Frag} {w : World} {h : Heap} {mg : Str → Option Value} {Pr : Prop} (X : K.In h) (G : h.Ns mainGlobals mg) {aR : Addr} {es : Array DictEntry} {n : Nat} {t1 t2 t3 t4 : Tok}
    (a1 : PySem.W.nsIn K mainGlobals "RAISES" = some (some (.ref aR))) (a2 : K.lookup aR = some ⟨.type "dict", none, .dict es n, #[]⟩) (a3 : PySem.W.KeysLit w.params es.toList) (a4 : (aR == sysModules) = false)
    (r1 : PySem.W.nsIn K aR "up" = some (some (.int 1 t1))) (r2 : PySem.W.nsIn K aR "down" = some (some (.int (-1) t2))) (r3 : PySem.W.nsIn K aR "stay" = some (some (.int 0 t3))) (r4 : PySem.W.nsIn K aR "zero" = some (some (.int 0 t4)))
    (T : Txt0 K mg) (k : ∀ (aR : Addr) (es : Array DictEntry) (n : Nat), Txt K w mg aR es n → Pr) : Pr := by
  obtain ⟨aR, es, n, T⟩ := txt_mk (w := w) X G a1 a2 a3 a4 r1 r2 r3 r4 T
  exact k aR es n T
section
variable {X : Cx}
theorem pe_globI {x : Str} {i : Int} {pos : Pos} (hg : Gl X x) (h : ∃ t, X.mg x = some (.int i t)) (hd : (x == ("__debug__" : Str)) = false := by decide) : PE X (.Name x pos) (tC (.int i)) := by
  obtain ⟨t, h⟩ := h
  exact pe_glob hg h ⟨t, rfl⟩ hd
theorem pe_globS {x : Str} {i : Str} {pos : Pos} (hg : Gl X x) (h : ∃ t, X.mg x = some (.str i t)) (hd : (x == ("__debug__" : Str)) = false := by decide) : PE X (.Name x pos) (tC (.str i)) := by
  obtain ⟨t, h⟩ := h
  exact pe_glob hg h ⟨t, rfl⟩ hd
end
end Sr
set_option Elab.async false
set_option linter.all false
set_option maxRecDepth 100000
set_option maxHeartbeats 2000000
set_option autoImplicit false
/-! Tables of truths, as data. -/
namespace Sr
open PySem L2
def encB (r : List Bool) : PyData := .list (r.map .bool)
def encT (T : List (List Bool)) : PyData := .list (T.map encB)
theorem at_map {α : Type} {xs : List α} {f : α → PyData} {j : Nat} {x : α} (h : xs[j]? = some x) : atI (xs.map f) (j : Int) = some (f x) := atI_nat (by rw [List.getElem?_map, h]; rfl)
structure Sq (n : Nat) (T : List (List Bool)) : Prop where
  len : T.length = n
  row : ∀ r ∈ T, r.length = n
theorem Sq.at_ {n : Nat} {T : List (List Bool)} (s : Sq n T) {p : Nat} (h : p < n) : T[p]? = some (T.getD p []) ∧ (T.getD p []).length = n := by
  have hl : p < T.length := by rw [s.len]; exact h
  have e : T[p]? = some (T.getD p []) := by rw [List.getD_eq_getElem?_getD, List.getElem?_eq_getElem hl]; rfl
  exact ⟨e, s.row _ (List.mem_of_getElem? e)⟩
theorem Sq.set {n : Nat} {T : List (List Bool)} (s : Sq n T) (p : Nat) {r : List Bool} (h : r.length = n) : Sq n (T.set p r) :=
  ⟨by rw [List.length_set]; exact s.len, fun q hq => (List.mem_or_eq_of_mem_set hq).elim (s.row q) fun e => by rw [e]; exact h⟩
theorem bit_at {n q : Nat} {r : List Bool} (hl : r.length = n) (h : q < n) : r[q]? = some (r.getD q false) := by
  have hl : q < r.length := by rw [hl]; exact h
  rw [List.getD_eq_getElem?_getD, List.getElem?_eq_getElem hl]
  rfl
section
variable {K : PySem.W.Frag} {es : List Ent} {te ta tb tc : TE}
/-- t[p][q] of a table -/
theorem ye_bit {n p q : Nat} {T : List (List Bool)} (s : Sq n T) (h : Yl K ta es (T.map encB)) (hp : Ye K tb es (.int p)) (hq : Ye K tc es (.int q)) (h1 : p < n) (h2 : q < n) :
    Ye K (tOp (rIxL K) (tOp (rIxL K) ta tb) tc) es (.bool ((T.getD p []).getD q false)) :=
  ye_ixL (Ye.yl (ye_ixL h hp (at_map (s.at_ h1).1))) hq (at_map (bit_at (s.at_ h1).2 h2))
end
/-! ### closed_table -/
def orRow (n : Nat) (a b : List Bool) : List Bool := (List.range n).map fun q => a.getD q false || b.getD q false
theorem orRow_len {n : Nat} {a b : List Bool} : (orRow n a b).length = n := by
  unfold orRow
  rw [List.length_map, List.length_range]
def clStep (n m : Nat) (rows : List (List Bool)) (p : Nat) : List (List Bool) := if (rows.getD p []).getD m false = true then rows.set p (orRow n (rows.getD p []) (rows.getD m [])) else rows
def clAmid (n m : Nat) (rows : List (List Bool)) (i : Nat) : List (List Bool) := (List.range i).foldl (clStep n m) rows
def clAll (n : Nat) (rows : List (List Bool)) (i : Nat) : List (List Bool) := (List.range i).foldl (fun r m => clAmid n m r n) rows
theorem clAmid_succ {n m : Nat} {rows : List (List Bool)} {i : Nat} : clAmid n m rows (i + 1) = clStep n m (clAmid n m rows i) i := by
  unfold clAmid
  rw [List.range_succ, List.foldl_append]
  rfl
theorem clAll_succ {n : Nat} {rows : List (List Bool)} {i : Nat} : clAll n rows (i + 1) = clAmid n i (clAll n rows i) n := by
  unfold clAll
  rw [List.range_succ, List.foldl_append]
  rfl
theorem clStep_sq {n m : Nat} {rows : List (List Bool)} {p : Nat} (s : Sq n rows) : Sq n (clStep n m rows p) := by
  unfold clStep
  split
  · exact s.set p orRow_len
  · exact s
theorem clAmid_sq {n m : Nat} {rows : List (List Bool)} (s : Sq n rows) : ∀ i, Sq n (clAmid n m rows i)
  | 0 => s
  | i + 1 => by
    rw [clAmid_succ]
    exact clStep_sq (clAmid_sq s i)
theorem clAll_sq {n : Nat} {rows : List (List Bool)} (s : Sq n rows) : ∀ i, Sq n (clAll n rows i)
  | 0 => s
  | i + 1 => by
    rw [clAll_succ]
    exact clAmid_sq (clAll_sq s i) n
def closed (n : Nat) (T : List (List Bool)) : List (List Bool) := clAll n T n
def g_closed_table : List PyData → PyData → Prop := fun ds r => ∃ n T, n ≤ 12 ∧ Sq n T ∧ ds = [encT T] ∧ r = encT (closed n T)
end Sr
set_option Elab.async false
set_option linter.all false
set_option maxRecDepth 100000
set_option maxHeartbeats 2000000
set_option autoImplicit false
/-! Houses, places, rows, tables as data. -/
namespace Sr
open PySem L2
inductive Dd where
  | up
  | down
  | stay
  | zero
deriving DecidableEq
def Dd.str : Dd → Str
  | .up => "up"
  | .down => "down"
  | .stay => "stay"
  | .zero => "zero"
theorem Dd.str_inj : ∀ {a b : Dd}, a.str = b.str → a = b := by
  intro a b
  cases a <;> cases b <;> first | (intro _; rfl) | (intro h; revert h; decide)
structure Way where
  room : Nat
  deed : Dd
  other : Nat
  sign : Nat
deriving DecidableEq
def chr (c : Nat) : Str := ⟨#[c]⟩
def Way.enc (w : Way) : PyData := .tuple [.int w.room, .str w.deed.str, .int w.other, .str (chr w.sign)]
structure House where
  many : Nat
  ways : List Way
def encWs (ws : List Way) : PyData := .tuple (ws.map Way.enc)
def House.enc (h : House) : PyData := .tuple [.int h.many, encWs h.ways]
def Sgn (c : Nat) : Prop := c = 97 ∨ c = 98 ∨ c = 99
structure Good (h : House) : Prop where
  pos : 1 ≤ h.many
  few : h.many ≤ 12
  short : h.ways.length ≤ 40
  room : ∀ w ∈ h.ways, w.room < h.many
  other : ∀ w ∈ h.ways, w.other < h.many
  sign : ∀ w ∈ h.ways, Sgn w.sign
  nd : h.ways.Nodup
def Dd.opn : Dd → Nat → Bool
  | .down, x => decide (0 < x)
  | .zero, x => decide (x = 0)
  | .up, _ => true
  | .stay, _ => true
def Dd.num : Dd → Nat → Nat
  | .up, x => x + 1
  | .down, x => x - 1
  | .stay, x => x
  | .zero, x => x
def Dd.rise : Dd → Int
  | .up => 1
  | .down => -1
  | .stay => 0
  | .zero => 0
theorem Dd.num_rise {d : Dd} {x : Nat} (h : d.opn x = true) : ((d.num x : Nat) : Int) = (x : Int) + d.rise := by
  cases d with
  | up => show ((x + 1 : Nat) : Int) = x + 1; omega
  | down =>
    have q : 0 < x := of_decide_eq_true h
    show ((x - 1 : Nat) : Int) = x + (-1)
    omega
  | stay => show ((x : Nat) : Int) = x + 0; omega
  | zero => show ((x : Nat) : Int) = x + 0; omega
/-- a place -/
def encP (p : Nat × Nat) : PyData := .tuple [.int p.1, .int p.2]
/-! ### tables by what they tell -/
def bitT (T : List (List Bool)) (p q : Nat) : Bool := (T.getD p []).getD q false
def tabF (n : Nat) (f : Nat → Nat → Bool) : List (List Bool) := (List.range n).map fun p => (List.range n).map fun q => f p q
theorem getD_map_range {α : Type} {n p : Nat} (h : p < n) (f : Nat → α) (d : α) : ((List.range n).map f).getD p d = f p := by
  rw [List.getD_eq_getElem?_getD, List.getElem?_map, List.getElem?_range h]
  rfl
theorem sq_tabF {n : Nat} {f : Nat → Nat → Bool} : Sq n (tabF n f) where
  len := by simp [tabF]
  row := fun r hr => by
    unfold tabF at hr
    obtain ⟨p, _, rfl⟩ := List.mem_map.mp hr
    simp
theorem bit_tabF {n p q : Nat} {f : Nat → Nat → Bool} (hp : p < n) (hq : q < n) : bitT (tabF n f) p q = f p q := by
  unfold bitT tabF
  rw [getD_map_range hp, getD_map_range hq]
theorem ext_getD {α : Type} (d : α) {a b : List α} (h : a.length = b.length) (e : ∀ i, i < a.length → a.getD i d = b.getD i d) : a = b := by
  refine List.ext_getElem h fun i h1 h2 => ?_
  have z := e i h1
  rw [List.getD_eq_getElem?_getD, List.getD_eq_getElem?_getD, List.getElem?_eq_getElem h1, List.getElem?_eq_getElem h2] at z
  exact z
theorem tabF_bits {n : Nat} {T : List (List Bool)} (s : Sq n T) : tabF n (bitT T) = T := by
  refine ext_getD [] (by rw [sq_tabF.len, s.len]) fun p hp => ?_
  rw [sq_tabF.len] at hp
  have e1 := s.at_ hp
  unfold tabF
  rw [getD_map_range hp]
  refine ext_getD false (by rw [List.length_map, List.length_range, e1.2]) fun q hq => ?_
  rw [List.length_map, List.length_range] at hq
  rw [getD_map_range hq]
  rfl
theorem tabF_congr {n : Nat} {f g : Nat → Nat → Bool} (h : ∀ p, p < n → ∀ q, q < n → f p q = g p q) : tabF n f = tabF n g := by
  unfold tabF
  refine List.map_congr_left fun p hp => List.map_congr_left fun q hq => h p (List.mem_range.mp hp) q (List.mem_range.mp hq)
theorem tabF_inj {n : Nat} {f g : Nat → Nat → Bool} (h : tabF n f = tabF n g) {p q : Nat} (hp : p < n) (hq : q < n) : f p q = g p q := by
  rw [← bit_tabF (f := f) hp hq, h, bit_tabF hp hq]
def encF (n : Nat) (f : Nat → Nat → Bool) : PyData := encT (tabF n f)
theorem encF_congr {n : Nat} {f g : Nat → Nat → Bool} (h : ∀ p, p < n → ∀ q, q < n → f p q = g p q) : encF n f = encF n g := by
  unfold encF
  rw [tabF_congr h]
section
variable {K : PySem.W.Frag} {es : List Ent} {te ta tb tc : TE}
/-- t[p][q] -/
theorem ye_bitF {n p q : Nat} {f : Nat → Nat → Bool} (h : Ye K ta es (encF n f)) (hp : Ye K tb es (.int p)) (hq : Ye K tc es (.int q)) (h1 : p < n) (h2 : q < n) :
    Ye K (tOp (rIxL K) (tOp (rIxL K) ta tb) tc) es (.bool (f p q)) :=
  (ye_bit sq_tabF (Ye.yl h) hp hq h1 h2).to (congrArg PyData.bool (bit_tabF h1 h2))
end
/-- closed_table, by what it tells -/
def clF (n : Nat) (f : Nat → Nat → Bool) : Nat → Nat → Bool := bitT (closed n (tabF n f))
/-- the rooms that pass, rising -/
def rowF (n : Nat) (f : Nat → Bool) : List Int := ((List.range n).filter f).map fun q : Nat => (q : Int)
def encR (n : Nat) (f : Nat → Bool) : PyData := .tuple ((rowF n f).map .int)
theorem rowF_congr {n : Nat} {f g : Nat → Bool} (h : ∀ p, p < n → f p = g p) : rowF n f = rowF n g := by
  unfold rowF
  rw [List.filter_congr fun q hq => h q (List.mem_range.mp hq)]
theorem encR_congr {n : Nat} {f g : Nat → Bool} (h : ∀ p, p < n → f p = g p) : encR n f = encR n g := by
  unfold encR
  rw [rowF_congr h]
theorem mem_rowF {n : Nat} {f : Nat → Bool} {q : Nat} : (q : Int) ∈ rowF n f ↔ q < n ∧ f q = true := by
  unfold rowF
  rw [List.mem_map]
  constructor
  · rintro ⟨p, h1, h2⟩
    have e : p = q := by omega
    subst e
    rw [List.mem_filter, List.mem_range] at h1
    exact h1
  · rintro ⟨h1, h2⟩
    exact ⟨q, List.mem_filter.mpr ⟨List.mem_range.mpr h1, h2⟩, rfl⟩
theorem rowF_inj {n : Nat} {f g : Nat → Bool} (h : rowF n f = rowF n g) {p : Nat} (hp : p < n) : f p = g p := by
  have z : f p = true ↔ g p = true := by
    constructor
    · intro q
      have w := (mem_rowF (n := n) (f := f)).mpr ⟨hp, q⟩
      rw [h] at w
      exact (mem_rowF.mp w).2
    · intro q
      have w := (mem_rowF (n := n) (f := g)).mpr ⟨hp, q⟩
      rw [← h] at w
      exact (mem_rowF.mp w).2
  cases e1 : f p <;> cases e2 : g p <;> simp [e1, e2] at z <;> rfl
theorem rowF_len {n : Nat} {f : Nat → Bool} : (rowF n f).length ≤ n := by
  unfold rowF
  rw [List.length_map]
  exact Nat.le_trans (List.length_filter_le _ _) (by rw [List.length_range]; exact Nat.le_refl _)
/-! ### contracts: houses -/
abbrev Gr := List PyData → PyData → Prop
def g_whole_number : Gr := fun ds r => ∃ i : Int, ds = [.int i] ∧ r = .bool true
def g_room_of : Gr := fun ds r => ∃ i m : Int, ds = [.int i, .int m] ∧ r = .bool (decide (0 ≤ i) && decide (i < m))
def g_sign_of_way : Gr := fun ds r => ∃ c, Sgn c ∧ ds = [.str (chr c)] ∧ r = .bool true
def g_way_of : Gr := fun ds r => ∃ (v : Way) (m : Nat), v.room < m ∧ v.other < m ∧ Sgn v.sign ∧ ds = [v.enc, .int m] ∧ r = .bool true
def g_is_house : Gr := fun ds r => ∃ h, Good h ∧ ds = [h.enc] ∧ r = .bool true
def g_check_house : Gr := fun ds r => ∃ h, Good h ∧ ds = [h.enc] ∧ r = .none
def g_check_places : Gr := fun ds r => ∃ (h : House) (ps : List (Nat × Nat)), (∀ p ∈ ps, p.1 < h.many ∧ p.2 ≤ 1000) ∧ ps.length ≤ 100 ∧ ds = [h.enc, .list (ps.map encP)] ∧ r = .none
def g_check_place : Gr := fun ds r => ∃ (h : House) (p : Nat × Nat), p.1 < h.many ∧ p.2 ≤ 1000 ∧ ds = [h.enc, encP p] ∧ r = .none
def g_deed_open : Gr := fun ds r => ∃ (d : Dd) (x : Nat), ds = [.str d.str, .int x] ∧ r = .bool (d.opn x)
def g_deed_number : Gr := fun ds r => ∃ (d : Dd) (x : Nat), d.opn x = true ∧ ds = [.str d.str, .int x] ∧ r = .int (d.num x : Nat)
theorem kII : kitB "int" "int" = some true := by decide +kernel
theorem kIB : kitB "int" "bool" = some false := by decide +kernel
theorem kSS : kitB "str" "str" = some true := by decide +kernel
theorem kTT : kitB "tuple" "tuple" = some true := by decide +kernel
theorem kLL : kitB "list" "list" = some true := by decide +kernel
section
variable {K : PySem.W.Frag} {es : List Ent} {te ta tb tc : TE}
theorem ye_isI {i : Int} (h : Ye K ta es (.int i)) : Ye K (tCB (rIsi K) (tCons ta (tCons (tC (.ty "int")) tNil))) es (.bool true) := ye_isi h kII
theorem ye_isB {i : Int} (h : Ye K ta es (.int i)) : Ye K (tCB (rIsi K) (tCons ta (tCons (tC (.ty "bool")) tNil))) es (.bool false) := ye_isi h kIB
theorem ye_isS {i : Str} (h : Ye K ta es (.str i)) : Ye K (tCB (rIsi K) (tCons ta (tCons (tC (.ty "str")) tNil))) es (.bool true) := ye_isi h kSS
theorem ye_isT {xs : List PyData} (h : Ye K ta es (.tuple xs)) : Ye K (tCB (rIsi K) (tCons ta (tCons (tC (.ty "tuple")) tNil))) es (.bool true) := ye_isi h kTT
theorem ye_isL {xs : List PyData} (h : Ye K ta es (.list xs)) : Ye K (tCB (rIsi K) (tCons ta (tCons (tC (.ty "list")) tNil))) es (.bool true) := ye_isi h kLL
/-- a sign among the letters -/
theorem ye_inS {i j : Str} (ha : Ye K ta es (.str i)) (hb : Ye K tb es (.str j)) : Ye K (tOp (fun x y H Q => ∃ i j, x = .str i ∧ y = .str j ∧ Q (.bl (!(Builtin.Str.occurrences j i 0 j.length 1).isEmpty)) H) ta tb) es (.bool (!(Builtin.Str.occurrences j i 0 j.length 1).isEmpty)) :=
  ye_bin ha hb fun v w H F Q h1 h2 q _ => by
    cases (show v = .str i from h1)
    cases (show w = .str j from h2)
    exact ⟨i, j, rfl, rfl, q _ H (Same.refl H) rfl⟩
/-- a deed among RAISES, and what it raises -/
theorem ye_inR {w : World} {mg : Str → Option Value} {aR : Addr} {des : Array DictEntry} {dn : Nat} (T : Txt K w mg aR des dn) {d : Dd} (ha : Ye K ta es (.str d.str)) : Ye K (tOp (rInK K aR) ta (tC (.ref aR))) es (.bool true) := fun Z F H σ I Q q => ha Z F H σ I _ fun v H1 s1 r1 => by
  cases (show v = .str d.str from r1)
  have hh : ∃ i t, PySem.W.nsIn K aR d.str = some (some (.int i t)) := by
    cases d with
    | up => obtain ⟨t, h⟩ := T.r_up; exact ⟨_, t, h⟩
    | down => obtain ⟨t, h⟩ := T.r_down; exact ⟨_, t, h⟩
    | stay => obtain ⟨t, h⟩ := T.r_stay; exact ⟨_, t, h⟩
    | zero => obtain ⟨t, h⟩ := T.r_zero; exact ⟨_, t, h⟩
  obtain ⟨i, t, h⟩ := hh
  exact ⟨_, _, rfl, rfl, h, q _ H1 s1 rfl⟩
theorem ye_ixR {w : World} {mg : Str → Option Value} {aR : Addr} {des : Array DictEntry} {dn : Nat} (T : Txt K w mg aR des dn) {d : Dd} (ha : Ye K ta es (.str d.str)) : Ye K (tOp (rIxD K w) (tC (.ref aR)) ta) es (.int d.rise) := fun Z F H σ I Q q => ha Z F H σ I _ fun v H1 s1 r1 => by
  cases (show v = .str d.str from r1)
  have hh : ∃ t, PySem.W.nsIn K aR d.str = some (some (.int d.rise t)) := by
    cases d with
    | up => exact T.r_up
    | down => exact T.r_down
    | stay => exact T.r_stay
    | zero => exact T.r_zero
  obtain ⟨t, h⟩ := hh
  exact ⟨aR, _, .int d.rise, rfl, rfl, ⟨des, dn, _, T.d_RAISES.at_, T.d_RAISES.lit, h, ⟨t, rfl⟩⟩, q _ H1 s1 rfl⟩
end
end Sr
set_option Elab.async false
set_option linter.all false
set_option maxRecDepth 100000
set_option maxHeartbeats 2000000
set_option autoImplicit false
/-! Equal data; the contracts of the tables. -/
namespace Sr
open PySem L2
/-- an encoding under which data are equal where what they tell is -/
structure EqF {α : Type} [DecidableEq α] (f : α → PyData) (k : Nat) : Prop where
  eq : ∀ a b, PyData.eqv (f a) (f b) = decide (a = b)
  lay : ∀ a, (f a).canLay0 = true
  deep : ∀ a, (f a).depth ≤ k
theorem EqF.shaped {α : Type} [DecidableEq α] {f : α → PyData} {k : Nat} (h : EqF f k) (hk : k ≤ 64) (a : α) : SeqAt.shaped (f a) = true := by
  unfold SeqAt.shaped
  rw [h.lay, decide_eq_true (Nat.le_trans (h.deep a) hk)]
  rfl
theorem eqf_bool : EqF PyData.bool 0 where
  eq := fun a b => by
    rw [PyData.eqv]
    cases a <;> cases b <;> rfl
  lay := fun a => by rw [PyData.canLay0]
  deep := fun a => by rw [PyData.depth]; exact Nat.le_refl _
theorem eqf_nat : EqF (fun n : Nat => PyData.int n) 0 where
  eq := fun a b => by
    rw [PyData.eqv, Bool.eq_iff_iff, beq_iff_eq, decide_eq_true_eq]
    omega
  lay := fun a => by rw [PyData.canLay0]
  deep := fun a => by rw [PyData.depth]; exact Nat.le_refl _
section
variable {α : Type} [DecidableEq α] {f : α → PyData} {k : Nat}
theorem EqF.all (h : EqF f k) : ∀ xs ys : List α, PyData.eqvAll (xs.map f) (ys.map f) = decide (xs = ys)
  | [], [] => by rw [List.map_nil, PyData.eqvAll, decide_eq_true rfl]
  | [], y :: ys => by rw [List.map_nil, List.map_cons, PyData.eqvAll, decide_eq_false (by simp)]
  | x :: xs, [] => by rw [List.map_nil, List.map_cons, PyData.eqvAll, decide_eq_false (by simp)]
  | x :: xs, y :: ys => by
    rw [List.map_cons, List.map_cons, PyData.eqvAll, h.eq, h.all xs ys, ← Bool.decide_and]
    refine decide_eq_decide.mpr ?_
    rw [List.cons.injEq]
theorem EqF.lays (h : EqF f k) : ∀ xs : List α, PyData.canLayAll0 (xs.map f) = true
  | [] => by rw [List.map_nil, PyData.canLayAll0]
  | x :: xs => by rw [List.map_cons, PyData.canLayAll0, h.lay, h.lays xs]; rfl
theorem EqF.deeps (h : EqF f k) : ∀ xs : List α, PyData.depthAll (xs.map f) ≤ k
  | [] => by rw [List.map_nil, PyData.depthAll]; exact Nat.zero_le _
  | x :: xs => by rw [List.map_cons, PyData.depthAll]; exact Nat.max_le.mpr ⟨h.deep x, h.deeps xs⟩
theorem EqF.list (h : EqF f k) : EqF (fun xs : List α => PyData.list (xs.map f)) (k + 1) where
  eq := fun a b => by rw [PyData.eqv, h.all]
  lay := fun a => by rw [PyData.canLay0, h.lays]
  deep := fun a => by rw [PyData.depth]; exact Nat.succ_le_succ (h.deeps a)
theorem EqF.tuple (h : EqF f k) : EqF (fun xs : List α => PyData.tuple (xs.map f)) (k + 1) where
  eq := fun a b => by rw [PyData.eqv, h.all]
  lay := fun a => by rw [PyData.canLay0, h.lays]
  deep := fun a => by rw [PyData.depth]; exact Nat.succ_le_succ (h.deeps a)
end
theorem eqf_encP : EqF encP 1 where
  eq := fun a b => by
    have e : ∀ i j : Nat, PyData.eqv (.int i) (.int j) = decide (i = j) := eqf_nat.eq
    unfold encP
    rw [PyData.eqv, PyData.eqvAll, PyData.eqvAll, PyData.eqvAll, e, e, Bool.and_true, ← Bool.decide_and]
    refine decide_eq_decide.mpr ⟨fun h => Prod.ext h.1 h.2, fun h => by rw [h]; exact ⟨rfl, rfl⟩⟩
  lay := fun a => by
    unfold encP
    simp [PyData.canLay0, PyData.canLayAll0]
  deep := fun a => by
    unfold encP
    simp [PyData.depth, PyData.depthAll]
theorem eqf_encT : EqF encT 2 := eqf_bool.list.list
theorem shaped_encF {n : Nat} {f : Nat → Nat → Bool} : SeqAt.shaped (encF n f) = true := eqf_encT.shaped (by decide) _
/-- equal tables -/
def eqTo (n : Nat) (f g : Nat → Nat → Bool) : Prop := ∀ p, p < n → ∀ q, q < n → f p q = g p q
theorem eqv_encF {n : Nat} {f g : Nat → Nat → Bool} : PyData.eqv (encF n f) (encF n g) = true ↔ eqTo n f g := by
  unfold encF
  rw [eqf_encT.eq, decide_eq_true_eq]
  exact ⟨fun h p hp q hq => tabF_inj h hp hq, tabF_congr⟩
/-! ### tables -/
abbrev Tb := Nat → Nat → Bool
def idF : Tb := fun p q => decide (p = q)
def orF (f g : Tb) : Tb := fun p q => f p q || g p q
def compF (n : Nat) (f g : Tb) : Tb := fun p q => (List.range n).any fun a => f p a && g a q
def stepF (h : House) (D : List Dd) : Tb := fun p q => h.ways.any fun v => decide (v.room = p) && decide (v.other = q) && decide (v.deed ∈ D)
def hillF (h : House) (f : Tb) : Tb := compF h.many (compF h.many (stepF h [.up]) f) (stepF h [.down])
def riseF (h : House) (f : Tb) : Tb := compF h.many (stepF h [.up]) f
def fallF (h : House) (f : Tb) : Tb := compF h.many f (stepF h [.down])
def groundF (h : House) (f : Tb) : Tb := clF h.many (orF (orF idF (stepF h [.stay, .zero])) (hillF h f))
def k0F (h : House) : Tb := clF h.many (orF idF (stepF h [.stay]))
def kNext (h : House) (f : Tb) : Tb := clF h.many (orF f (hillF h f))
def kIt (h : House) : Nat → Tb
  | 0 => k0F h
  | i + 1 => kNext h (kIt h i)
/-- the table that the loop of keeps_table ends with -/
structure Kept (h : House) (m : Nat) : Prop where
  fix : eqTo h.many (kIt h (m + 1)) (kIt h m)
  low : m ≤ 1000
  before : ∀ i, i < m → ¬ eqTo h.many (kIt h (i + 1)) (kIt h i)
def g_own_table : Gr := fun ds r => ∃ n : Nat, n ≤ 12 ∧ ds = [.int n] ∧ r = encF n idF
def g_either_table : Gr := fun ds r => ∃ (n : Nat) (f g : Tb), n ≤ 12 ∧ ds = [encF n f, encF n g] ∧ r = encF n (orF f g)
def g_behind_table : Gr := fun ds r => ∃ (n : Nat) (f g : Tb), n ≤ 12 ∧ ds = [encF n f, encF n g] ∧ r = encF n (compF n f g)
def encD (D : List Dd) : PyData := .list (D.map fun d => .str d.str)
def g_steps_table : Gr := fun ds r => ∃ (h : House) (D : List Dd), Good h ∧ ds = [h.enc, encD D] ∧ r = encF h.many (stepF h D)
def g_hill_table : Gr := fun ds r => ∃ (h : House) (f : Tb), Good h ∧ ds = [h.enc, encF h.many f] ∧ r = encF h.many (hillF h f)
def g_keeps_table : Gr := fun ds r => ∃ (h : House) (m : Nat), Good h ∧ Kept h m ∧ ds = [h.enc] ∧ r = encF h.many (kIt h m)
def g_ground_table : Gr := fun ds r => ∃ (h : House) (f : Tb), Good h ∧ ds = [h.enc, encF h.many f] ∧ r = encF h.many (groundF h f)
def g_rises_table : Gr := fun ds r => ∃ (h : House) (f : Tb), Good h ∧ ds = [h.enc, encF h.many f] ∧ r = encF h.many (riseF h f)
def g_falls_table : Gr := fun ds r => ∃ (h : House) (f : Tb), Good h ∧ ds = [h.enc, encF h.many f] ∧ r = encF h.many (fallF h f)
theorem clF_enc {n : Nat} {f : Tb} : encT (closed n (tabF n f)) = encF n (clF n f) := by
  show encT (closed n (tabF n f)) = encT (tabF n (bitT (closed n (tabF n f))))
  rw [tabF_bits (T := closed n (tabF n f)) (clAll_sq sq_tabF n)]
theorem call_closed {n : Nat} {f : Tb} (hn : n ≤ 12) : g_closed_table [encF n f] (encF n (clF n f)) := ⟨n, tabF n f, hn, sq_tabF, rfl, clF_enc.symm⟩
theorem encF_len {n : Nat} {f : Tb} : ((tabF n f).map encB).length = n := by rw [List.length_map, sq_tabF.len]
/-- rows of bits as data -/
theorem encF_rows {n : Nat} {f : Tb} : (tabF n f).map encB = (List.range n).map fun p => PyData.list ((List.range n).map fun q => .bool (f p q)) := by
  unfold tabF encB
  rw [List.map_map]
  refine List.map_congr_left fun p _ => ?_
  show PyData.list (((List.range n).map fun q => f p q).map .bool) = _
  rw [List.map_map]
  rfl
theorem rows_set {n p : Nat} {F : Nat → PyData} {d : PyData} (hp : p < n) : ((List.range n).map F).set p d = (List.range n).map fun i => if i = p then d else F i := by
  refine List.ext_getElem (by simp) fun i h1 h2 => ?_
  rw [List.getElem_set]
  simp only [List.getElem_map, List.getElem_range]
  by_cases e : p = i
  · rw [if_pos e, if_pos e.symm]
  · rw [if_neg e, if_neg fun z => e z.symm]
/-- a new row of falses -/
theorem flat_rep {n : Nat} {d : PyData} : (List.replicate n [d]).flatten = (List.range n).map fun _ => d := by
  refine List.ext_getElem (by simp) fun i h1 h2 => ?_
  simp
/-- behind_table, while it runs -/
def bhF (n : Nat) (f g : Tb) (p i : Nat) : Tb := fun p' q => if p' < p then compF n f g p' q else if p' = p then (List.range i).any fun a => f p a && g a q else false
theorem any_range_succ {i : Nat} {P : Nat → Bool} : (List.range (i + 1)).any P = ((List.range i).any P || P i) := by
  rw [List.range_succ, List.any_append]
  simp
theorem bhF_at {n p i q : Nat} {f g : Tb} : bhF n f g p i p q = (List.range i).any fun a => f p a && g a q := by
  unfold bhF
  rw [if_neg (Nat.lt_irrefl p), if_pos rfl]
theorem bhF_ne {n p i j p' q : Nat} {f g : Tb} (h : p' ≠ p) : bhF n f g p i p' q = bhF n f g p j p' q := by
  unfold bhF
  rw [if_neg h, if_neg h]
theorem bhF_next {n p q p' : Nat} {f g : Tb} : bhF n f g p n p' q = bhF n f g (p + 1) 0 p' q := by
  unfold bhF
  by_cases h : p' < p
  · rw [if_pos h, if_pos (by omega)]
  · by_cases e : p' = p
    · subst e
      rw [if_neg h, if_pos rfl, if_pos (by omega)]
      rfl
    · rw [if_neg h, if_neg e, if_neg (by omega)]
      split <;> rfl
theorem inV_deed {d : Dd} {D : List Dd} : inV (vD (.str d.str)) ((D.map fun d => PyData.str d.str).map vD) = decide (d ∈ D) := by
  unfold inV
  induction D with
  | nil => rfl
  | cons e D ih =>
    rw [List.map_cons, List.map_cons, List.any_cons, ih]
    have z : eqV (vD (.str e.str)) (vD (.str d.str)) = decide (d = e) := by
      cases d <;> cases e <;> decide +kernel
    rw [z, ← Bool.decide_or]
    refine decide_eq_decide.mpr ?_
    rw [List.mem_cons]
/-- steps_table, while it runs -/
def stW (ws : List Way) (D : List Dd) : Tb := fun p q => ws.any fun v => decide (v.room = p) && decide (v.other = q) && decide (v.deed ∈ D)
def rowsOf' (n : Nat) (f : Tb) : List (List PyData) := (List.range n).map fun p => (List.range n).map fun q => .bool (f p q)
theorem rowsOf'_enc {n : Nat} {f : Tb} : (rowsOf' n f).map PyData.list = (tabF n f).map encB := by
  rw [encF_rows]
  unfold rowsOf'
  rw [List.map_map]
  rfl
theorem rowsOf'_set {n p q : Nat} {f g : Tb} (hp : p < n) (hq : q < n) (h : ∀ p' q', g p' q' = (f p' q' || (decide (p = p') && decide (q = q')))) : (rowsOf' n f).set p (((List.range n).map fun q => PyData.bool (f p q)).set q (.bool true)) = rowsOf' n g := by
  unfold rowsOf'
  refine List.ext_getElem (by simp) fun i h1 h2 => ?_
  rw [List.getElem_set]
  simp only [List.getElem_map, List.getElem_range]
  by_cases e : p = i
  · subst e
    rw [if_pos rfl]
    refine List.ext_getElem (by simp) fun j h3 h4 => ?_
    rw [List.getElem_set]
    simp only [List.getElem_map, List.getElem_range, h]
    by_cases e : q = j
    · subst e
      rw [if_pos rfl]
      simp
    · rw [if_neg e]
      simp [e]
  · rw [if_neg e]
    refine List.map_congr_left fun j _ => ?_
    rw [h]
    simp [e]
end Sr
set_option Elab.async false
set_option linter.all false
set_option maxRecDepth 100000
set_option maxHeartbeats 2000000
set_option autoImplicit false
/-! sorted(set(a tuple of ints)). -/
namespace Sr
open PySem L2
def rSetTI (K : PySem.W.Frag) (w : World) : List V → Hp → VK → Prop := fun xs H Q => ∃ (l : Addr) (ns : List Int), xs = [V.ref l] ∧ SqT K H l (ns.map V.int) ∧ ns.length < 64 ∧
  ∀ a c, H a = none → c ≤ ns.length → Q (.ref a) (upd H a (SetO w a (fun j => decide (j ∈ ns)) c))
theorem cr_setTI {X : Cx} (hc : X.calm = true) : CallR X (.type "set") (rSetTI X.K X.w) := by
  intro pins s σ H xs us Q I r h
  obtain ⟨l, ns, rfl, hl, hf, q⟩ := h
  rw [Vals.ref1 r]
  obtain ⟨its, rv, pl, hz⟩ := I.tuple hl
  have hn : H s.heap.objs.size = none := I.hok.fresh (Nat.le_refl _)
  refine call_set_tupI ns (I.ok.hd hc) pl (by simpa using rv.ints) (by unfold scanBound; omega) fun h' tk c R hle k => ?_
  exact ⟨.ref s.heap.objs.size, upd H s.heap.objs.size (SetO X.w s.heap.objs.size (fun j => decide (j ∈ ns)) c), I.laid (t' := tk) k (Nat.le_refl _) (setO_new R), rfl, q _ c hn hle⟩
theorem rising_ext : ∀ {a b : List Int}, a.Pairwise (· < ·) → b.Pairwise (· < ·) → (∀ k, k ∈ a ↔ k ∈ b) → a = b
  | [], [], _, _, _ => rfl
  | [], y :: _, _, _, h => by
    have z := (h y).mpr List.mem_cons_self
    cases z
  | x :: _, [], _, _, h => by
    have z := (h x).mp List.mem_cons_self
    cases z
  | x :: a, y :: b, ha, hb, h => by
    rw [List.pairwise_cons] at ha hb
    have e : x = y := by
      rcases List.mem_cons.mp ((h x).mp List.mem_cons_self) with z | z
      · exact z
      · rcases List.mem_cons.mp ((h y).mpr List.mem_cons_self) with u | u
        · exact u.symm
        · have q1 := hb.1 x z
          have q2 := ha.1 y u
          omega
    subst e
    rw [rising_ext ha.2 hb.2 fun k => ⟨fun z => ?_, fun z => ?_⟩]
    · rcases List.mem_cons.mp ((h k).mp (List.mem_cons_of_mem _ z)) with u | u
      · have q := ha.1 k z
        omega
      · exact u
    · rcases List.mem_cons.mp ((h k).mpr (List.mem_cons_of_mem _ z)) with u | u
      · have q := hb.1 k z
        omega
      · exact u
theorem rpAll_of_ints {K : PySem.W.Frag} {H : Hp} : ∀ ns : List Int, RpAll K H (ns.map PyData.int) (ns.map V.int)
  | [] => rfl
  | n :: ns => ⟨.int n, ns.map V.int, rfl, rfl, rpAll_of_ints ns⟩
section
variable {K : PySem.W.Frag} {es : List Ent} {ta : TE}
theorem yf_sortSet {w : World} {ns out : List Int} (h : Ye K ta es (.tuple (ns.map .int))) (hl : ns.length < 64) (ho : out.Pairwise (· < ·)) (hm : ∀ k, k ∈ out ↔ k ∈ ns) :
    Yf K (tCB (rSortedSet w) (tCons (tCB (rSetTI K w) (tCons ta tNil)) tNil)) es (out.map .int) := fun Z F H σ I Q q => h Z F H σ I _ fun v H1 s1 r1 => by
  obtain ⟨a, vs, rfl, ha, r1⟩ := r1
  have e := rpAll_ints r1
  subst e
  refine ⟨a, ns, rfl, .inl (.inl (wo_sub _ _ ha)), hl, fun b c hb hc => ?_⟩
  refine ⟨b, _, c, rfl, upd_same, by omega, fun out' p hp hk hn hf => ?_⟩
  have e : out' = out := rising_ext hp ho fun k => by rw [hk k, hm k, decide_eq_true_eq]
  subst e
  have s2 : Same H1 (upd H1 b (SetO w b (fun j => decide (j ∈ ns)) c)) := same_new hb
  exact q p _ _ ((s1.trans s2).trans (same_new hf)) ((s1.trans s2).free hf) upd_same (rpAll_of_ints _)
end
theorem rowF_rising {n : Nat} {f : Nat → Bool} : (rowF n f).Pairwise (· < ·) := by
  unfold rowF
  rw [List.pairwise_map]
  refine List.Pairwise.imp (R := fun a b : Nat => a < b) (fun h => by omega) ?_
  exact List.Pairwise.filter _ List.pairwise_lt_range
theorem mem_rowF_int {n : Nat} {f : Nat → Bool} {k : Int} : k ∈ rowF n f ↔ ∃ q : Nat, k = q ∧ q < n ∧ f q = true := by
  unfold rowF
  rw [List.mem_map]
  constructor
  · rintro ⟨q, h, rfl⟩
    rw [List.mem_filter, List.mem_range] at h
    exact ⟨q, rfl, h⟩
  · rintro ⟨q, rfl, h1, h2⟩
    exact ⟨q, List.mem_filter.mpr ⟨List.mem_range.mpr h1, h2⟩, rfl⟩
theorem mem_rowF_or {n : Nat} {f g : Nat → Bool} (k : Int) : k ∈ rowF n (fun q => f q || g q) ↔ k ∈ rowF n f ++ rowF n g := by
  rw [List.mem_append, mem_rowF_int, mem_rowF_int, mem_rowF_int]
  constructor
  · rintro ⟨q, e, h1, h2⟩
    rcases Bool.or_eq_true_iff.mp h2 with z | z
    · exact .inl ⟨q, e, h1, z⟩
    · exact .inr ⟨q, e, h1, z⟩
  · rintro (⟨q, e, h1, h2⟩ | ⟨q, e, h1, h2⟩)
    · exact ⟨q, e, h1, by rw [h2]; rfl⟩
    · exact ⟨q, e, h1, by rw [h2, Bool.or_true]⟩
end Sr
set_option Elab.async false
set_option linter.all false
set_option maxRecDepth 100000
set_option maxHeartbeats 2000000
set_option autoImplicit false
/-! Stairs as data: base, step, and what is held. -/
namespace Sr
open PySem L2
def upTo (lo k : Nat) (P : Nat → Bool) : List Nat := ((List.range k).filter fun i => P (lo + i)).map fun i => lo + i
def encN (ns : List Nat) : PyData := .tuple (ns.map fun n : Nat => .int n)
def encS (b s : Nat) (P : Nat → Bool) : PyData := .tuple [.int b, .int s, encN (upTo 0 b P), encN (upTo b s P)]
theorem mem_upTo {lo k x : Nat} {P : Nat → Bool} : x ∈ upTo lo k P ↔ lo ≤ x ∧ x < lo + k ∧ P x = true := by
  unfold upTo
  rw [List.mem_map]
  constructor
  · rintro ⟨i, h, rfl⟩
    rw [List.mem_filter, List.mem_range] at h
    exact ⟨by omega, by omega, h.2⟩
  · rintro ⟨h1, h2, h3⟩
    refine ⟨x - lo, List.mem_filter.mpr ⟨List.mem_range.mpr (by omega), ?_⟩, by omega⟩
    show P (lo + (x - lo)) = true
    rw [show lo + (x - lo) = x by omega]
    exact h3
theorem upTo_rising {lo k : Nat} {P : Nat → Bool} : (upTo lo k P).Pairwise (· < ·) := by
  unfold upTo
  rw [List.pairwise_map]
  refine List.Pairwise.imp (R := fun a b : Nat => a < b) (fun h => by omega) ?_
  exact List.Pairwise.filter _ List.pairwise_lt_range
theorem upTo_len {lo k : Nat} {P : Nat → Bool} : (upTo lo k P).length ≤ k := by
  unfold upTo
  rw [List.length_map]
  exact Nat.le_trans (List.length_filter_le _ _) (by rw [List.length_range]; exact Nat.le_refl _)
theorem upTo_enc {lo k : Nat} {P : Nat → Bool} : ((List.range k).filter fun i => P (lo + i)).map (fun i : Nat => PyData.int ((lo : Int) + i)) = (upTo lo k P).map fun n : Nat => .int n := by
  unfold upTo
  rw [List.map_map]
  refine List.map_congr_left fun i _ => ?_
  show PyData.int _ = PyData.int ((lo + i : Nat) : Int)
  congr 1
theorem upTo_enc0 {k : Nat} {P : Nat → Bool} : ((List.range k).filter fun i => P i).map (fun i : Nat => PyData.int (i : Int)) = (upTo 0 k P).map fun n : Nat => .int n := by
  unfold upTo
  rw [List.map_map]
  have e : (fun i => P (0 + i)) = P := funext fun i => by rw [Nat.zero_add]
  rw [e]
  refine List.map_congr_left fun i _ => ?_
  show PyData.int _ = PyData.int ((0 + i : Nat) : Int)
  rw [Nat.zero_add]
theorem cut_range {F : Nat → PyData} {m lo hi : Nat} (h1 : lo ≤ hi) (h2 : hi ≤ m) : cutD ((List.range m).map F) (some (lo : Int)) (some (hi : Int)) = (List.range (hi - lo)).map fun i => F (lo + i) := by
  unfold cutD
  rw [HT.sIx_nat, HT.sIx_nat, List.length_map, List.length_range, Nat.min_eq_left h2, Nat.min_eq_left (Nat.le_trans h1 h2)]
  refine List.ext_getElem (by simp; omega) fun i q1 q2 => ?_
  simp
def encBits (m : Nat) (P : Nat → Bool) : PyData := .list ((List.range m).map fun x => .bool (P x))
theorem encBits_bits {m : Nat} {P : Nat → Bool} : (List.range m).map (fun x => PyData.bool (P x)) = ((List.range m).map P).map PyData.bool := by
  rw [List.map_map]
  rfl
theorem eqv_bits {m : Nat} {P Q : Nat → Bool} : PyData.eqv (.list ((List.range m).map fun x => .bool (P x))) (.list ((List.range m).map fun x => .bool (Q x))) = decide (∀ x, x < m → P x = Q x) := by
  rw [encBits_bits, encBits_bits]
  have z := eqf_bool.list.eq ((List.range m).map P) ((List.range m).map Q)
  refine z.trans (decide_eq_decide.mpr ⟨fun h x hx => ?_, fun h => List.map_congr_left fun x hx => h x (List.mem_range.mp hx)⟩)
  have w := congrArg (fun l => l.getD x false) h
  simp only [getD_map_range hx] at w
  exact w
theorem shaped_bits {m : Nat} {P : Nat → Bool} : SeqAt.shaped (.list ((List.range m).map fun x => .bool (P x))) = true := by
  rw [encBits_bits]
  exact eqf_bool.list.shaped (by decide) _
/-- from b on it comes again after t, as far as s tells -/
def goodBy (P : Nat → Bool) (b s t : Nat) : Prop := s % t = 0 ∧ ∀ i, i < s - t → P (b + i) = P (b + t + i)
structure IsStep (P : Nat → Bool) (b s t : Nat) : Prop where
  pos : 1 ≤ t
  le : t ≤ s
  good : t = s ∨ goodBy P b s t
  low : ∀ u, 1 ≤ u → u < t → ¬ goodBy P b s u
structure IsBase (P : Nat → Bool) (b t c : Nat) : Prop where
  le : c ≤ b
  same : ∀ x, c ≤ x → x < b → P x = P (x + t)
  low : c = 0 ∨ P (c - 1) ≠ P (c - 1 + t)
def Per (P : Nat → Bool) (b s : Nat) : Prop := ∀ x, b ≤ x → P (x + s) = P x
theorem Per.many {P : Nat → Bool} {b s : Nat} (h : Per P b s) : ∀ k x, b ≤ x → P (x + k * s) = P x
  | 0, x, _ => by rw [Nat.zero_mul, Nat.add_zero]
  | k + 1, x, hx => by
    rw [Nat.succ_mul, ← Nat.add_assoc, h _ (by omega), h.many k x hx]
theorem Per.fold {P : Nat → Bool} {b s x : Nat} (h : Per P b s) (hx : b ≤ x) : P (b + (x - b) % s) = P x := by
  have e : x = b + (x - b) % s + (x - b) / s * s := by
    have z := Nat.mod_add_div (x - b) s
    rw [Nat.mul_comm] at z
    omega
  have q := h.many ((x - b) / s) (b + (x - b) % s) (by omega)
  rw [← e] at q
  exact q.symm
theorem goodBy.per {P : Nat → Bool} {b s t : Nat} (h : Per P b s) (hs : 1 ≤ s) (ht : 1 ≤ t) (hts : t ≤ s) (g : goodBy P b s t) : Per P b t := by
  obtain ⟨k, hk⟩ := Nat.dvd_of_mod_eq_zero g.1
  have in1 : ∀ j i, i + j * t < s → P (b + i) = P (b + i + j * t) := by
    intro j
    induction j with
    | zero => intro i _; rw [Nat.zero_mul, Nat.add_zero]
    | succ j ih =>
      intro i hi
      rw [Nat.succ_mul] at hi
      rw [ih i (by omega)]
      have z := g.2 (i + j * t) (by omega)
      rw [← Nat.add_assoc] at z
      rw [z, Nat.succ_mul]
      congr 1
      omega
  intro x hx
  rw [← h.fold hx, ← h.fold (show b ≤ x + t by omega)]
  have hi : (x - b) % s < s := Nat.mod_lt _ (by omega)
  have e : (x + t - b) % s = ((x - b) % s + t) % s := by
    rw [show x + t - b = (x - b) + t by omega, Nat.mod_add_mod]
  rw [e]
  by_cases c : (x - b) % s + t < s
  · rw [Nat.mod_eq_of_lt c]
    have z := g.2 ((x - b) % s) (by omega)
    rw [z]
    congr 1
    omega
  · have e2 : ((x - b) % s + t) % s = (x - b) % s + t - s := by
      rw [Nat.mod_eq_sub_mod (by omega), Nat.mod_eq_of_lt (by omega)]
    rw [e2]
    have hk1 : 1 ≤ k := by
      rcases Nat.eq_zero_or_pos k with z | z
      · subst z; omega
      · exact z
    have e3 : (x - b) % s = (x - b) % s + t - s + (k - 1) * t := by
      have z : (k - 1) * t + t = s := by rw [← Nat.succ_mul, hk, Nat.mul_comm]; congr 1; omega
      omega
    have z := in1 (k - 1) ((x - b) % s + t - s) (by rw [← e3]; exact hi)
    rw [z]
    congr 1
    omega
theorem IsStep.per {P : Nat → Bool} {b s t : Nat} (i : IsStep P b s t) (h : Per P b s) : Per P b t := by
  have h1 := i.pos
  have h2 := i.le
  rcases i.good with e | g
  · rw [e]; exact h
  · exact g.per h (by omega) h1 h2
theorem IsBase.per {P : Nat → Bool} {b t c : Nat} (i : IsBase P b t c) (h : Per P b t) : Per P c t := fun x hx => by
  by_cases e : x < b
  · exact (i.same x hx e).symm
  · exact h x (by omega)
theorem isStep_some (P : Nat → Bool) (b : Nat) {s : Nat} (hs : 1 ≤ s) : ∃ t, IsStep P b s t := by
  by_cases e : ∃ u, 1 ≤ u ∧ u < s ∧ goodBy P b s u
  · have hm : ∀ n, ∀ u, u ≤ n → 1 ≤ u → u < s → goodBy P b s u → ∃ t, 1 ≤ t ∧ t < s ∧ goodBy P b s t ∧ ∀ u, 1 ≤ u → u < t → ¬ goodBy P b s u := by
      intro n
      induction n with
      | zero => intro u h1 h2; omega
      | succ n ih =>
        intro u h1 h2 h3 h4
        by_cases q : ∃ v, 1 ≤ v ∧ v < u ∧ goodBy P b s v
        · obtain ⟨v, q1, q2, q3⟩ := q
          exact ih v (by omega) q1 (by omega) q3
        · exact ⟨u, h2, h3, h4, fun v v1 v2 v3 => q ⟨v, v1, v2, v3⟩⟩
    obtain ⟨u, h1, h2, h3⟩ := e
    obtain ⟨t, t1, t2, t3, t4⟩ := hm u u (Nat.le_refl _) h1 h2 h3
    exact ⟨t, t1, by omega, .inr t3, t4⟩
  · exact ⟨s, hs, Nat.le_refl _, .inl rfl, fun u h1 h2 h3 => e ⟨u, h1, h2, h3⟩⟩
theorem isBase_some (P : Nat → Bool) (t : Nat) : ∀ b, ∃ c, IsBase P b t c
  | 0 => ⟨0, Nat.le_refl _, fun x _ h => absurd h (Nat.not_lt_zero x), .inl rfl⟩
  | b + 1 => by
    by_cases e : P b = P (b + t)
    · obtain ⟨c, i⟩ := isBase_some P t b
      have h := i.le
      refine ⟨c, by omega, fun x h1 h2 => ?_, i.low⟩
      by_cases q : x = b
      · rw [q]; exact e
      · exact i.same x h1 (by omega)
    · exact ⟨b + 1, Nat.le_refl _, fun x h1 h2 => by omega, .inr e⟩
/-! ### contracts -/
def g_is_number : Gr := fun ds r => ∃ i : Int, ds = [.int i] ∧ r = .bool true
def g_is_rising : Gr := fun ds r => ∃ (ns : List Nat) (lo hi : Nat), ns.Pairwise (· < ·) ∧ (∀ x ∈ ns, lo ≤ x ∧ x < hi) ∧ ns.length ≤ 10000 ∧ ds = [encN ns, .int lo, .int hi] ∧ r = .bool true
def g_is_stair : Gr := fun ds r => ∃ (b s : Nat) (P : Nat → Bool), b ≤ 3000 ∧ s ≤ 840 ∧ 1 ≤ s ∧ ds = [encS b s P] ∧ r = .bool true
def g_check_stair : Gr := fun ds r => ∃ (b s : Nat) (P : Nat → Bool), b ≤ 3000 ∧ s ≤ 840 ∧ 1 ≤ s ∧ ds = [encS b s P] ∧ r = .none
def g_bits_of : Gr := fun ds r => ∃ (b s : Nat) (P : Nat → Bool), b ≤ 3000 ∧ s ≤ 840 ∧ 1 ≤ s ∧ ds = [encS b s P, .int ((b + s : Nat) : Int)] ∧ r = encBits (b + s) P
def g_least_step : Gr := fun ds r => ∃ (b s t : Nat) (P : Nat → Bool), b ≤ 3000 ∧ s ≤ 840 ∧ IsStep P b s t ∧ ds = [encBits (b + s) P, .int b, .int s] ∧ r = .int t
def g_least_of_bits : Gr := fun ds r => ∃ (b s t c : Nat) (P : Nat → Bool), b ≤ 3000 ∧ s ≤ 840 ∧ IsStep P b s t ∧ IsBase P b t c ∧ ds = [encBits (b + s) P, .int b, .int s] ∧ r = encS c t P
def g_least_by : Gr := fun ds r => ∃ (b s t c : Nat) (P : Nat → Bool), b ≤ 3000 ∧ s ≤ 840 ∧ IsStep P b s t ∧ IsBase P b t c ∧ ds = [encS b s P] ∧ r = encS c t P
def g_least : Gr := fun ds r => ∃ (b s t c : Nat) (P : Nat → Bool), b ≤ 3000 ∧ s ≤ 840 ∧ IsStep P b s t ∧ IsBase P b t c ∧ ds = [encS b s P] ∧ r = encS c t P
end Sr
set_option Elab.async false
set_option linter.all false
set_option maxRecDepth 100000
set_option maxHeartbeats 2000000
set_option autoImplicit false
/-! Levels: which rooms are come to at each, as the program tells it. -/
namespace Sr
open PySem L2
def rbF (n : Nat) (f : Nat → Bool) (T : Tb) : Nat → Bool := fun q => (List.range n).any fun p => f p && T p q
/-- the rooms first met j levels below the start -/
def firF (h : House) (k : Tb) (p0 : Nat) : Nat → Nat → Bool
  | 0 => fun q => decide (q = p0)
  | j + 1 => rbF h.many (firF h k p0 j) (fallF h k)
/-- the rooms at a level -/
def rowsF (h : House) (k : Tb) (p0 c : Nat) : Nat → Nat → Bool
  | 0 => rbF h.many (firF h k p0 c) (groundF h k)
  | l + 1 => if l + 1 ≤ c then fun q => rbF h.many (firF h k p0 (c - (l + 1))) k q || rbF h.many (rowsF h k p0 c l) (riseF h k) q else rbF h.many (rowsF h k p0 c l) (riseF h k)
def rowsEq (n : Nat) (f g : Nat → Bool) : Prop := ∀ p, p < n → f p = g p
/-- the rows come round: at N first those of b again -/
structure Round (n : Nat) (R : Nat → Nat → Bool) (c b N : Nat) : Prop where
  lo : c ≤ b
  lt : b < N
  eq : rowsEq n (R N) (R b)
  first : ∀ i j, c ≤ i → i < j → j < N → ¬ rowsEq n (R i) (R j)
def g_rooms_behind : Gr := fun ds r => ∃ (n : Nat) (f : Nat → Bool) (T : Tb), n ≤ 12 ∧ ds = [encR n f, encF n T] ∧ r = encR n (rbF n f T)
def g_joined_rooms : Gr := fun ds r => ∃ (n : Nat) (f g : Nat → Bool), n ≤ 12 ∧ ds = [encR n f, encR n g] ∧ r = encR n (fun q => f q || g q)
def g_lower_levels : List PyData → List PyData → Prop := fun ds xs => ∃ (h : House) (k : Tb) (p0 c : Nat), Good h ∧ p0 < h.many ∧ c ≤ 1000 ∧ ds = [h.enc, encP (p0, c), encF h.many k] ∧ xs = (List.range (c + 1)).map fun l => encR h.many (rowsF h k p0 c l)
def g_levels_from : Gr := fun ds r => ∃ (h : House) (m p0 c b N : Nat), Good h ∧ Kept h m ∧ p0 < h.many ∧ c ≤ 1000 ∧ N ≤ 5000 ∧ Round h.many (rowsF h (kIt h m) p0 c) c b N ∧ ds = [h.enc, encP (p0, c)] ∧
  r = .tuple [.list ((List.range N).map fun l => encR h.many (rowsF h (kIt h m) p0 c l)), .int b]
def g_forward : Gr := fun ds r => ∃ (h : House) (m p0 c b N : Nat) (bs ts : Nat → Nat), Good h ∧ Kept h m ∧ p0 < h.many ∧ c ≤ 1000 ∧ N ≤ 5000 ∧ b ≤ 3000 ∧ N - b ≤ 840 ∧ Round h.many (rowsF h (kIt h m) p0 c) c b N ∧
  (∀ q, q < h.many → IsStep (fun x => rowsF h (kIt h m) p0 c x q) b (N - b) (ts q) ∧ IsBase (fun x => rowsF h (kIt h m) p0 c x q) b (ts q) (bs q)) ∧
  ds = [h.enc, encP (p0, c)] ∧ r = .list ((List.range h.many).map fun q => encS (bs q) (ts q) fun x => rowsF h (kIt h m) p0 c x q)
theorem encR_row {n : Nat} {f : Nat → Bool} : encR n f = .tuple (((List.range n).filter f).map fun q : Nat => .int q) := by
  unfold encR rowF
  rw [List.map_map]
  rfl
theorem encR_one {n p : Nat} (h : p < n) : encR n (fun q => decide (q = p)) = .tuple [.int p] := by
  unfold encR
  have e : rowF n (fun q => decide (q = p)) = [(p : Int)] := by
    refine rising_ext rowF_rising (List.pairwise_singleton _ _) fun k => ?_
    rw [mem_rowF_int, List.mem_singleton]
    constructor
    · rintro ⟨q, rfl, _, h2⟩
      rw [of_decide_eq_true h2]
    · rintro rfl
      exact ⟨p, rfl, h, decide_eq_true rfl⟩
  rw [e]
  rfl
theorem any_row {n : Nat} {f g : Nat → Bool} : (((List.range n).filter f).map g).any id = (List.range n).any fun p => f p && g p := by
  rw [List.any_map, List.any_filter]
  rfl
theorem at_last {α : Type} {m : Nat} {f : Nat → α} : atI ((List.range (m + 1)).map f) (-1) = some (f m) := by
  rw [List.range_succ, List.map_append]
  exact atI_last _ _
theorem at_range {α : Type} {m i : Nat} {f : Nat → α} (h : i < m) : atI ((List.range m).map f) (i : Int) = some (f i) := atI_nat (by rw [List.getElem?_map, List.getElem?_range h]; rfl)
theorem inV_row {n q : Nat} {f : Nat → Bool} (h : q < n) : inV (vD (.int q)) (((rowF n f).map PyData.int).map vD) = f q := by
  unfold inV
  rw [List.map_map, Bool.eq_iff_iff, List.any_eq_true]
  constructor
  · rintro ⟨v, hv, e⟩
    obtain ⟨k, hk, rfl⟩ := List.mem_map.mp hv
    have z : k = (q : Int) := beq_iff_eq.mp (show (k == (q : Int)) = true from e)
    subst z
    exact (mem_rowF.mp hk).2
  · intro e
    exact ⟨.int q, List.mem_map.mpr ⟨(q : Int), mem_rowF.mpr ⟨h, e⟩, rfl⟩, (show ((q : Int) == (q : Int)) = true from beq_iff_eq.mpr rfl)⟩
theorem flat_row {n : Nat} {f : Nat → Bool} : ((rowF n f).map PyData.int).all flatD = true := by
  rw [List.all_eq_true]
  intro d hd
  obtain ⟨k, _, rfl⟩ := List.mem_map.mp hd
  rfl
/-- the rows by which levels_from asks -/
theorem lk_rows {i : Nat} {key : Nat → List Int} {val : Nat → PyData} {k : List Int} : (∀ j, j < i → key j ≠ k) → lk ((List.range i).map fun j => (key j, val j)) k = none := by
  induction i with
  | zero => intro _; rfl
  | succ i ih =>
    intro h
    rw [List.range_succ, List.map_append]
    have z := ih fun j hj => h j (by omega)
    have hn : lk ((List.range i).map fun j => (key j, val j)) (key i) = none ∨ True := .inr trivial
    unfold lk at z ⊢
    rw [List.find?_append]
    cases q : ((List.range i).map fun j => (key j, val j)).find? fun p => decide (p.1 = k) with
    | some w => rw [q] at z; cases z
    | none =>
      show ((none : Option (List Int × PyData)).or (List.find? _ [(key i, val i)])).map _ = none
      rw [Option.none_or, List.find?_cons, decide_eq_false (h i (Nat.lt_succ_self i))]
      rfl
theorem lk_row {i : Nat} {key : Nat → List Int} {val : Nat → PyData} {k : List Int} {j : Nat} (hj : j < i) (e : key j = k) (h : ∀ l, l < i → l ≠ j → key l ≠ k) : lk ((List.range i).map fun j => (key j, val j)) k = some (val j) := by
  induction i with
  | zero => omega
  | succ i ih =>
    rw [List.range_succ, List.map_append]
    unfold lk
    rw [List.find?_append]
    by_cases c : j = i
    · subst c
      have z := lk_rows (i := j) (key := key) (val := val) (k := k) fun l hl => h l (by omega) (by omega)
      unfold lk at z
      cases q : ((List.range j).map fun j => (key j, val j)).find? fun p => decide (p.1 = k) with
      | some w => rw [q] at z; cases z
      | none =>
        show ((none : Option (List Int × PyData)).or (List.find? _ [(key j, val j)])).map _ = _
        rw [Option.none_or, List.find?_cons, decide_eq_true e]
        rfl
    · have z := ih (by omega) fun l hl hne => h l (by omega) hne
      unfold lk at z
      cases q : ((List.range i).map fun j => (key j, val j)).find? fun p => decide (p.1 = k) with
      | some w =>
        rw [q] at z
        rw [Option.some_or]
        exact z
      | none => rw [q] at z; cases z
end Sr
set_option Elab.async false
set_option linter.all false
set_option maxRecDepth 100000
set_option maxHeartbeats 2000000
set_option autoImplicit false
/-! The search, as the program does it. -/
namespace Sr
open PySem L2
abbrev Pl := Nat × Nat
structure En where
  pl : Pl
  back : List Nat
  pre : Pl
def encV : En → PyData
  | ⟨_, [], _⟩ => .none
  | ⟨_, k :: _, p⟩ => .tuple [encP p, .int k]
def keyP (p : Pl) : List Int := [(p.1 : Int), (p.2 : Int)]
theorem keyP_enc (p : Pl) : encP p = .tuple ((keyP p).map .int) := rfl
theorem keyP_inj {p q : Pl} (h : keyP p = keyP q) : p = q := by
  unfold keyP at h
  injection h with h1 h2
  injection h2 with h2 _
  exact Prod.ext (by omega) (by omega)
def kvsOf (es : List En) : List (List Int × PyData) := es.map fun e => (keyP e.pl, encV e)
def metE (es : List En) (q : Pl) : Bool := es.any fun e => decide (e.pl = q)
theorem metE_iff {es : List En} {q : Pl} : metE es q = true ↔ ∃ e ∈ es, e.pl = q := by
  unfold metE
  rw [List.any_eq_true]
  constructor
  · rintro ⟨e, h1, h2⟩
    exact ⟨e, h1, of_decide_eq_true h2⟩
  · rintro ⟨e, h1, h2⟩
    exact ⟨e, h1, decide_eq_true h2⟩
theorem lk_met (es : List En) (q : Pl) : (lk (kvsOf es) (keyP q)).isSome = metE es q := by
  induction es with
  | nil => rfl
  | cons e es ih =>
    have z : lk (kvsOf (e :: es)) (keyP q) = if e.pl = q then some (encV e) else lk (kvsOf es) (keyP q) := by
      unfold lk kvsOf
      rw [List.map_cons, List.find?_cons]
      by_cases c : e.pl = q
      · rw [if_pos c, decide_eq_true (by rw [c])]
        rfl
      · rw [if_neg c, decide_eq_false fun z => c (keyP_inj z)]
    rw [z]
    unfold metE
    rw [List.any_cons]
    by_cases c : e.pl = q
    · rw [if_pos c, decide_eq_true c]
      rfl
    · rw [if_neg c, decide_eq_false c, Bool.false_or]
      exact ih
theorem lk_at : ∀ {es : List En} {e : En}, (es.map En.pl).Nodup → e ∈ es → lk (kvsOf es) (keyP e.pl) = some (encV e)
  | [], e, _, h => by cases h
  | a :: es, e, nd, h => by
    unfold lk kvsOf
    rw [List.map_cons, List.find?_cons]
    rw [List.map_cons, List.nodup_cons] at nd
    rcases List.mem_cons.mp h with z | z
    · subst z
      rw [decide_eq_true rfl]
      rfl
    · have c : a.pl ≠ e.pl := fun c => nd.1 (by rw [c]; exact List.mem_map.mpr ⟨e, z, rfl⟩)
      rw [decide_eq_false fun q => c (keyP_inj q)]
      exact lk_at nd.2 z
/-- the ways of a room, with their counts -/
def wOf (ws : List Way) (p : Nat) : List (Way × Nat) := ws.zipIdx.filter fun e => decide (e.1.room = p)
def encE (e : Way × Nat) : PyData := .tuple [.int e.2, .str e.1.deed.str, .int e.1.other]
def tryW (top : Nat) (e : En) (es : List En) (w : Way × Nat) : List En :=
  if w.1.deed.opn e.pl.2 = true ∧ w.1.deed.num e.pl.2 ≤ top ∧ metE es (w.1.other, w.1.deed.num e.pl.2) = false then es ++ [⟨(w.1.other, w.1.deed.num e.pl.2), w.2 :: e.back, e.pl⟩] else es
def stepB (h : House) (top : Nat) (e : En) (es : List En) (i : Nat) : List En := ((wOf h.ways e.pl.1).take i).foldl (tryW top e) es
def bfs (h : House) (p : Pl) (top : Nat) : Nat → List En
  | 0 => [⟨p, [], p⟩]
  | i + 1 => match (bfs h p top i)[i]? with
    | some e => stepB h top e (bfs h p top i) (wOf h.ways e.pl.1).length
    | none => bfs h p top i
/-- one way gone -/
def bh (h : House) (p : Pl) (k : Nat) : Option Pl := match h.ways[k]? with
  | some v => if v.room = p.1 ∧ v.deed.opn p.2 = true then some (v.other, v.deed.num p.2) else none
  | none => none
/-- a walk gone, told backwards -/
def runR (h : House) (p : Pl) : List Nat → Option Pl
  | [] => some p
  | k :: b => (runR h p b).bind fun q => bh h q k
structure BInv (h : House) (p : Pl) (top i : Nat) (es : List En) : Prop where
  nd : (es.map En.pl).Nodup
  room : ∀ e ∈ es, e.pl.1 < h.many
  num : ∀ e ∈ es, e.pl.2 ≤ top
  deep : ∀ e ∈ es, e.back.length ≤ i
  run : ∀ e ∈ es, runR h p e.back = some e.pl
  chain : ∀ e ∈ es, ∀ k b, e.back = k :: b → (∃ e' ∈ es, e'.pl = e.pre) ∧ ∀ e' ∈ es, e'.pl = e.pre → e'.back = b
  start : metE es p = true
theorem mem_wOf {ws : List Way} {p : Nat} {w : Way × Nat} (h : w ∈ wOf ws p) : ws[w.2]? = some w.1 ∧ w.1.room = p := by
  obtain ⟨h1, h2⟩ := List.mem_filter.mp h
  exact ⟨List.mem_zipIdx_iff_getElem?.mp h1, of_decide_eq_true h2⟩
theorem wOf_mem {ws : List Way} {k : Nat} {v : Way} (h : ws[k]? = some v) : (v, k) ∈ wOf ws v.room := by
  refine List.mem_filter.mpr ⟨?_, decide_eq_true rfl⟩
  rw [List.mem_zipIdx_iff_getElem?]
  exact h
theorem tryW_inv {h : House} {p : Pl} {top i : Nat} {es : List En} {e : En} {w : Way × Nat} (gd : Good h) (I : BInv h p top (i + 1) es) (he : e ∈ es) (hd : e.back.length ≤ i) (hw : w ∈ wOf h.ways e.pl.1) : BInv h p top (i + 1) (tryW top e es w) ∧ ∀ a ∈ es, a ∈ tryW top e es w := by
  unfold tryW
  by_cases c : w.1.deed.opn e.pl.2 = true ∧ w.1.deed.num e.pl.2 ≤ top ∧ metE es (w.1.other, w.1.deed.num e.pl.2) = false
  · rw [if_pos c]
    obtain ⟨c1, c2, c3⟩ := c
    obtain ⟨w1, w2⟩ := mem_wOf hw
    have hv := List.mem_of_getElem? w1
    have nm : ∀ a ∈ es, a.pl ≠ (w.1.other, w.1.deed.num e.pl.2) := fun a ha z => by
      rw [metE_iff.mpr ⟨a, ha, z⟩] at c3
      cases c3
    refine ⟨⟨?_, ?_, ?_, ?_, ?_, ?_, ?_⟩, fun a ha => List.mem_append_left _ ha⟩
    · rw [List.map_append]
      refine List.nodup_append.mpr ⟨I.nd, by simp, fun a ha b hb => ?_⟩
      obtain ⟨a', ha', rfl⟩ := List.mem_map.mp ha
      simp at hb
      subst hb
      exact nm a' ha'
    · intro a ha
      rcases List.mem_append.mp ha with z | z
      · exact I.room a z
      · simp at z
        subst z
        exact gd.other w.1 hv
    · intro a ha
      rcases List.mem_append.mp ha with z | z
      · exact I.num a z
      · simp at z
        subst z
        exact c2
    · intro a ha
      rcases List.mem_append.mp ha with z | z
      · exact I.deep a z
      · simp at z
        subst z
        show e.back.length + 1 ≤ i + 1
        omega
    · intro a ha
      rcases List.mem_append.mp ha with z | z
      · exact I.run a z
      · simp at z
        subst z
        show (runR h p e.back).bind (fun q => bh h q w.2) = _
        rw [I.run e he]
        show bh h e.pl w.2 = _
        unfold bh
        rw [w1]
        exact if_pos ⟨w2, c1⟩
    · intro a ha k b hb
      rcases List.mem_append.mp ha with z | z
      · obtain ⟨⟨e', q1, q2⟩, q3⟩ := I.chain a z k b hb
        refine ⟨⟨e', List.mem_append_left _ q1, q2⟩, fun x hx q => ?_⟩
        rcases List.mem_append.mp hx with u | u
        · exact q3 x u q
        · simp at u
          subst u
          exact absurd (q2.trans q.symm) (nm e' q1)
      · simp at z
        subst z
        injection hb with b1 b2
        refine ⟨⟨e, List.mem_append_left _ he, rfl⟩, fun x hx q => ?_⟩
        rcases List.mem_append.mp hx with u | u
        · have nd := I.nd
          have : x = e := by
            obtain ⟨i1, l1⟩ := List.mem_iff_getElem?.mp u
            obtain ⟨i2, l2⟩ := List.mem_iff_getElem?.mp he
            obtain ⟨g1, v1⟩ := List.getElem?_eq_some_iff.mp l1
            obtain ⟨g2, v2⟩ := List.getElem?_eq_some_iff.mp l2
            have q' : x.pl = e.pl := q
            have z : i1 = i2 := (List.getElem_inj (h₀ := by rw [List.length_map]; exact g1) (h₁ := by rw [List.length_map]; exact g2) nd).mp (by rw [List.getElem_map, List.getElem_map, v1, v2, q'])
            subst z
            rw [← v1, ← v2]
          rw [this]
          exact b2
        · simp at u
          subst u
          exact absurd q.symm (nm e he)
    · obtain ⟨a, h1, h2⟩ := metE_iff.mp I.start
      exact metE_iff.mpr ⟨a, List.mem_append_left _ h1, h2⟩
  · rw [if_neg c]
    exact ⟨I, fun a ha => ha⟩
theorem tryW_met {top : Nat} {es : List En} {e : En} {w : Way × Nat} (h1 : w.1.deed.opn e.pl.2 = true) (h2 : w.1.deed.num e.pl.2 ≤ top) : metE (tryW top e es w) (w.1.other, w.1.deed.num e.pl.2) = true := by
  unfold tryW
  by_cases c : metE es (w.1.other, w.1.deed.num e.pl.2) = true
  · rw [if_neg fun z => by rw [z.2.2] at c; cases c]
    exact c
  · rw [if_pos ⟨h1, h2, Bool.eq_false_iff.mpr c⟩]
    exact metE_iff.mpr ⟨_, List.mem_append_right _ (List.mem_singleton.mpr rfl), rfl⟩
theorem stepB_succ {h : House} {top i : Nat} {es : List En} {e : En} {w : Way × Nat} (hw : (wOf h.ways e.pl.1)[i]? = some w) : stepB h top e es (i + 1) = tryW top e (stepB h top e es i) w := by
  unfold stepB
  rw [List.take_add_one, hw, List.foldl_append]
  rfl
theorem stepB_inv {h : House} {p : Pl} {top i : Nat} {es : List En} {e : En} (gd : Good h) (I : BInv h p top (i + 1) es) (he : e ∈ es) (hd : e.back.length ≤ i) : ∀ j, j ≤ (wOf h.ways e.pl.1).length →
    BInv h p top (i + 1) (stepB h top e es j) ∧ (∀ a ∈ es, a ∈ stepB h top e es j) ∧ ∀ l w, l < j → (wOf h.ways e.pl.1)[l]? = some w → w.1.deed.opn e.pl.2 = true → w.1.deed.num e.pl.2 ≤ top → metE (stepB h top e es j) (w.1.other, w.1.deed.num e.pl.2) = true
  | 0, _ => ⟨by unfold stepB; exact I, fun a ha => by unfold stepB; exact ha, fun l w hl => absurd hl (Nat.not_lt_zero l)⟩
  | j + 1, hj => by
    obtain ⟨J, k, q⟩ := stepB_inv gd I he hd j (by omega)
    have e1 := List.getElem?_eq_getElem (show j < (wOf h.ways e.pl.1).length by omega)
    rw [stepB_succ e1]
    obtain ⟨J2, k2⟩ := tryW_inv gd J (k e he) hd (List.mem_of_getElem? e1)
    refine ⟨J2, fun a ha => k2 a (k a ha), fun l w hl hw h1 h2 => ?_⟩
    by_cases c : l = j
    · subst c
      rw [e1] at hw
      rw [← Option.some.inj hw] at h1 h2 ⊢
      exact tryW_met h1 h2
    · obtain ⟨a, a1, a2⟩ := metE_iff.mp (q l w (by omega) hw h1 h2)
      exact metE_iff.mpr ⟨a, k2 a a1, a2⟩
theorem BInv.up {h : House} {p : Pl} {top i j : Nat} {es : List En} (I : BInv h p top i es) (hj : i ≤ j) : BInv h p top j es := { I with deep := fun e he => Nat.le_trans (I.deep e he) hj }
theorem stepB_pre {h : House} {top : Nat} {e : En} {es : List En} : ∀ j, ∃ more, stepB h top e es j = es ++ more := by
  intro j
  unfold stepB
  generalize (wOf h.ways e.pl.1).take j = ws
  induction ws generalizing es with
  | nil => exact ⟨[], (List.append_nil _).symm⟩
  | cons w ws ih =>
    rw [List.foldl_cons]
    obtain ⟨m, hm⟩ := ih (es := tryW top e es w)
    rw [hm]
    unfold tryW
    split
    · exact ⟨_, List.append_assoc _ _ _⟩
    · exact ⟨_, rfl⟩
theorem bfs_inv {h : House} {p : Pl} {top : Nat} (gd : Good h) (hp : p.1 < h.many) (ht : p.2 ≤ top) : ∀ i, BInv h p top i (bfs h p top i)
  | 0 => {
    nd := by simp [bfs]
    room := fun e he => by simp [bfs] at he; subst he; exact hp
    num := fun e he => by simp [bfs] at he; subst he; exact ht
    deep := fun e he => by simp [bfs] at he; subst he; exact Nat.le_refl _
    run := fun e he => by simp [bfs] at he; subst he; rfl
    chain := fun e he k b hb => by simp [bfs] at he; subst he; cases hb
    start := metE_iff.mpr ⟨_, List.mem_singleton.mpr rfl, rfl⟩ }
  | i + 1 => by
    have I := bfs_inv gd hp ht i
    show BInv h p top (i + 1) (match (bfs h p top i)[i]? with
      | some e => stepB h top e (bfs h p top i) (wOf h.ways e.pl.1).length
      | none => bfs h p top i)
    cases q : (bfs h p top i)[i]? with
    | none => exact I.up (Nat.le_succ i)
    | some e =>
      have he := List.mem_of_getElem? q
      exact (stepB_inv gd (I.up (Nat.le_succ i)) he (I.deep e he) _ (Nat.le_refl _)).1
theorem bfs_next {h : House} {p : Pl} {top i : Nat} {e : En} (q : (bfs h p top i)[i]? = some e) : bfs h p top (i + 1) = stepB h top e (bfs h p top i) (wOf h.ways e.pl.1).length := by
  show (match (bfs h p top i)[i]? with
      | some e => stepB h top e (bfs h p top i) (wOf h.ways e.pl.1).length
      | none => bfs h p top i) = _
  rw [q]
theorem bfs_grow {h : House} {p : Pl} {top : Nat} (i : Nat) : ∀ j, ∃ more, bfs h p top (i + j) = bfs h p top i ++ more
  | 0 => ⟨[], (List.append_nil _).symm⟩
  | j + 1 => by
    obtain ⟨m, hm⟩ := bfs_grow i j
    cases q : (bfs h p top (i + j))[i + j]? with
    | none =>
      refine ⟨m, ?_⟩
      show (match (bfs h p top (i + j))[i + j]? with
        | some e => stepB h top e (bfs h p top (i + j)) (wOf h.ways e.pl.1).length
        | none => bfs h p top (i + j)) = _
      rw [q]
      exact hm
    | some e =>
      obtain ⟨m2, h2⟩ := stepB_pre (h := h) (top := top) (e := e) (es := bfs h p top (i + j)) (wOf h.ways e.pl.1).length
      refine ⟨m ++ m2, ?_⟩
      show bfs h p top (i + j + 1) = _
      rw [bfs_next q, h2, hm, List.append_assoc]
theorem bfs_len {h : House} {p : Pl} {top i j : Nat} (hij : i ≤ j) : (bfs h p top i).length ≤ (bfs h p top j).length := by
  obtain ⟨m, hm⟩ := bfs_grow (h := h) (p := p) (top := top) i (j - i)
  rw [show i + (j - i) = j by omega] at hm
  rw [hm, List.length_append]
  omega
/-- the search is done after m turns -/
structure Done (h : House) (p : Pl) (top m : Nat) : Prop where
  go : ∀ i, i < m → i < (bfs h p top i).length
  stop : (bfs h p top m).length = m
  low : m ≤ 10000
/-- the number of places bounds the search -/
theorem nodup_le {n top : Nat} : ∀ {l : List Pl}, l.Nodup → (∀ q ∈ l, q.1 < n ∧ q.2 ≤ top) → l.length ≤ n * (top + 1) := by
  intro l nd h
  have e : (l.map fun q => q.1 * (top + 1) + q.2).Nodup := by
    refine List.pairwise_map.mpr (List.Pairwise.imp_of_mem (fun {a b} ha hb hne z => hne ?_) nd)
    have h1 := (h a ha).2
    have h2 := (h b hb).2
    have d1 : (a.1 * (top + 1) + a.2) / (top + 1) = a.1 := by rw [Nat.mul_comm, Nat.mul_add_div (by omega), Nat.div_eq_of_lt (by omega), Nat.add_zero]
    have d2 : (b.1 * (top + 1) + b.2) / (top + 1) = b.1 := by rw [Nat.mul_comm, Nat.mul_add_div (by omega), Nat.div_eq_of_lt (by omega), Nat.add_zero]
    have e1 : a.1 = b.1 := by rw [← d1, ← d2, z]
    refine Prod.ext e1 ?_
    rw [e1] at z
    omega
  have s : ∀ x ∈ l.map (fun q => q.1 * (top + 1) + q.2), x ∈ List.range (n * (top + 1)) := by
    intro x hx
    obtain ⟨q, hq, rfl⟩ := List.mem_map.mp hx
    obtain ⟨h1, h2⟩ := h q hq
    rw [List.mem_range]
    have z : (q.1 + 1) * (top + 1) ≤ n * (top + 1) := Nat.mul_le_mul_right _ h1
    rw [Nat.succ_mul] at z
    omega
  have z := List.Nodup.length_le_of_subset e s
  rw [List.length_map, List.length_range] at z
  exact z
theorem done_some {h : House} {p : Pl} {top : Nat} (gd : Good h) (hp : p.1 < h.many) (ht : p.2 ≤ top) (htop : top ≤ 800) : ∃ m, Done h p top m := by
  have bd : ∀ i, (bfs h p top i).length ≤ 10000 := fun i => by
    have I := bfs_inv gd hp ht i
    have z := nodup_le (n := h.many) (top := top) I.nd fun q hq => by
      obtain ⟨e, he, rfl⟩ := List.mem_map.mp hq
      exact ⟨I.room e he, I.num e he⟩
    rw [List.length_map] at z
    have h12 := gd.few
    have z2 : h.many * (top + 1) ≤ 12 * 801 := Nat.mul_le_mul h12 (by omega)
    omega
  have key : ∀ n, (∀ i, i < n → i < (bfs h p top i).length) ∨ ∃ m, m ≤ n ∧ (∀ i, i < m → i < (bfs h p top i).length) ∧ (bfs h p top m).length ≤ m := by
    intro n
    induction n with
    | zero => exact .inl fun i hi => absurd hi (Nat.not_lt_zero i)
    | succ n ih =>
      rcases ih with ih | ⟨m, h1, h2, h3⟩
      · by_cases c : n < (bfs h p top n).length
        · refine .inl fun i hi => ?_
          by_cases e : i = n
          · rw [e]; exact c
          · exact ih i (by omega)
        · exact .inr ⟨n, by omega, ih, by omega⟩
      · exact .inr ⟨m, by omega, h2, h3⟩
  rcases key 10001 with z | ⟨m, h1, h2, h3⟩
  · have q1 := z 10000 (by omega)
    have q2 := bd 10000
    omega
  · have e : (bfs h p top m).length = m := by
      rcases Nat.eq_zero_or_pos m with z | z
      · subst z
        simp [bfs] at h3
      · have q1 := h2 (m - 1) (by omega)
        have q2 := bfs_len (h := h) (p := p) (top := top) (show m - 1 ≤ m by omega)
        omega
    exact ⟨m, h2, e, by rw [← e]; exact bd m⟩
/-- all that can be gone from a met place below the top is met -/
theorem done_closed {h : House} {p : Pl} {top m : Nat} (gd : Good h) (hp : p.1 < h.many) (ht : p.2 ≤ top) (D : Done h p top m) {e : En} (he : e ∈ bfs h p top m) {k : Nat} {q : Pl} (hk : bh h e.pl k = some q) (hq : q.2 ≤ top) : metE (bfs h p top m) q = true := by
  obtain ⟨i, hi⟩ := List.mem_iff_getElem?.mp he
  have hl := (List.getElem?_eq_some_iff.mp hi).1
  rw [D.stop] at hl
  have hi0 : (bfs h p top i)[i]? = some e := by
    obtain ⟨mo, hm⟩ := bfs_grow (h := h) (p := p) (top := top) i (m - i)
    rw [show i + (m - i) = m by omega] at hm
    rw [hm, List.getElem?_append_left (D.go i hl)] at hi
    exact hi
  have I := bfs_inv gd hp ht i
  have he0 := List.mem_of_getElem? hi0
  obtain ⟨_, _, z⟩ := stepB_inv gd (I.up (Nat.le_succ i)) he0 (I.deep e he0) _ (Nat.le_refl (wOf h.ways e.pl.1).length)
  rw [← bfs_next hi0] at z
  unfold bh at hk
  cases c : h.ways[k]? with
  | none => rw [c] at hk; cases hk
  | some v =>
    rw [c] at hk
    have hk' : (if v.room = e.pl.1 ∧ v.deed.opn e.pl.2 = true then some (v.other, v.deed.num e.pl.2) else none) = some q := hk
    by_cases d : v.room = e.pl.1 ∧ v.deed.opn e.pl.2 = true
    · rw [if_pos d] at hk'
      have hq' := Option.some.inj hk'
      subst hq'
      have hm := wOf_mem c
      rw [d.1] at hm
      obtain ⟨l, hl2⟩ := List.mem_iff_getElem?.mp hm
      have z2 := z l (v, k) (List.getElem?_eq_some_iff.mp hl2).1 hl2 d.2 hq
      obtain ⟨a, a1, a2⟩ := metE_iff.mp z2
      obtain ⟨mo, hmo⟩ := bfs_grow (h := h) (p := p) (top := top) (i + 1) (m - (i + 1))
      rw [show i + 1 + (m - (i + 1)) = m by omega] at hmo
      exact metE_iff.mpr ⟨a, by rw [hmo]; exact List.mem_append_left _ a1, a2⟩
    · rw [if_neg d] at hk'
      cases hk'
/-! ### contracts -/
def encNs (ns : List Nat) : PyData := .list (ns.map fun k : Nat => .int k)
def resB (es : List En) (q : Pl) : PyData := match es.find? fun e => decide (e.pl = q) with
  | some e => encNs e.back.reverse
  | none => .none
def rowsW (h : House) : PyData := .list ((List.range h.many).map fun p => .list ((wOf h.ways p).map encE))
def g_ways_of_rooms : Gr := fun ds r => ∃ h, Good h ∧ ds = [h.enc] ∧ r = rowsW h
def g_search_from : Gr := fun ds r => ∃ (h : House) (p : Pl) (top m : Nat), Good h ∧ p.1 < h.many ∧ p.2 ≤ top ∧ Done h p top m ∧ ds = [h.enc, encP p, .int top] ∧ r = .dict (toPD (kvsOf (bfs h p top m)))
def g_traced : Gr := fun ds r => ∃ (h : House) (p : Pl) (top i : Nat) (es : List En) (e : En), BInv h p top i es ∧ i ≤ 10000 ∧ e ∈ es ∧ ds = [.dict (toPD (kvsOf es)), encP e.pl] ∧ r = encNs e.back.reverse
def g_shortest_below : Gr := fun ds r => ∃ (h : House) (p q : Pl) (top m : Nat), Good h ∧ p.1 < h.many ∧ p.2 ≤ top ∧ Done h p top m ∧ ds = [h.enc, encP p, encP q, .int top] ∧ r = resB (bfs h p top m) q
def g_shortest : Gr := fun ds r => ∃ (h : House) (p q : Pl) (m : Nat), Good h ∧ p.1 < h.many ∧ q.1 < h.many ∧ p.2 ≤ 500 ∧ q.2 ≤ 500 ∧ Done h p (max p.2 q.2 + h.many * h.many) m ∧ ds = [h.enc, encP p, encP q] ∧ r = resB (bfs h p (max p.2 q.2 + h.many * h.many) m) q
/-- the entry before one -/
def nxt (es : List En) (e : En) : En := (es.find? fun a => decide (a.pl = e.pre)).getD e
def chE (es : List En) (e : En) : Nat → En
  | 0 => e
  | i + 1 => nxt es (chE es e i)
theorem nxt_ok {h : House} {p : Pl} {top i : Nat} {es : List En} {e : En} (I : BInv h p top i es) (he : e ∈ es) {k : Nat} {b : List Nat} (hb : e.back = k :: b) : nxt es e ∈ es ∧ (nxt es e).pl = e.pre ∧ (nxt es e).back = b := by
  obtain ⟨⟨a, a1, a2⟩, z⟩ := I.chain e he k b hb
  unfold nxt
  cases q : es.find? fun a => decide (a.pl = e.pre) with
  | none =>
    have w := List.find?_eq_none.mp q a a1
    rw [decide_eq_true a2] at w
    exact absurd rfl w
  | some c =>
    have c1 := List.mem_of_find?_eq_some q
    have c2 : c.pl = e.pre := by
      have z := List.find?_some q
      exact of_decide_eq_true z
    exact ⟨c1, c2, z c c1 c2⟩
theorem chE_ok {h : House} {p : Pl} {top i : Nat} {es : List En} {e : En} (I : BInv h p top i es) (he : e ∈ es) : ∀ j, j ≤ e.back.length → chE es e j ∈ es ∧ (chE es e j).back = e.back.drop j
  | 0, _ => ⟨he, rfl⟩
  | j + 1, hj => by
    obtain ⟨h1, h2⟩ := chE_ok I he j (by omega)
    rw [List.drop_eq_getElem_cons (by omega)] at h2
    obtain ⟨n1, n2, n3⟩ := nxt_ok I h1 h2
    exact ⟨n1, n3⟩
theorem encV_cons {e : En} {k : Nat} {b : List Nat} (h : e.back = k :: b) : encV e = .tuple [encP e.pre, .int k] := by
  obtain ⟨p, bk, q⟩ := e
  have h' : bk = k :: b := h
  subst h'
  rfl
theorem encV_nil {e : En} (h : e.back = []) : encV e = .none := by
  obtain ⟨p, bk, q⟩ := e
  have h' : bk = [] := h
  subst h'
  rfl
def wOfI (ws : List Way) (p i : Nat) : List (Way × Nat) := (ws.zipIdx.take i).filter fun e => decide (e.1.room = p)
theorem wOfI_next {ws : List Way} {p i : Nat} {v : Way} (h : ws[i]? = some v) : wOfI ws p (i + 1) = if v.room = p then wOfI ws p i ++ [(v, i)] else wOfI ws p i := by
  have e : ws.zipIdx[i]? = some (v, i) := by
    rw [List.getElem?_zipIdx, h]
    simp
  unfold wOfI
  rw [List.take_add_one, e, List.filter_append]
  by_cases c : v.room = p
  · rw [if_pos c]
    congr 1
    exact List.filter_cons_of_pos (decide_eq_true c)
  · rw [if_neg c]
    have z : List.filter (fun e : Way × Nat => decide (e.1.room = p)) (some (v, i)).toList = [] := List.filter_cons_of_neg (by rw [decide_eq_false c]; exact Bool.false_ne_true)
    rw [z, List.append_nil]
theorem wOfI_len {ws : List Way} {p i : Nat} : (wOfI ws p i).length ≤ ws.length := by
  unfold wOfI
  refine Nat.le_trans (List.length_filter_le _ _) ?_
  rw [List.length_take, List.length_zipIdx]
  omega
theorem wOfI_all {ws : List Way} {p : Nat} : wOfI ws p ws.length = wOf ws p := by
  unfold wOfI wOf
  rw [List.take_of_length_le (by rw [List.length_zipIdx]; exact Nat.le_refl _)]
theorem kvsOf_app (es : List En) (e : En) : kvsOf (es ++ [e]) = kvsOf es ++ [(keyP e.pl, encV e)] := by
  unfold kvsOf
  rw [List.map_append]
  rfl
theorem lk_none {es : List En} {q : Pl} (h : metE es q = false) : lk (kvsOf es) (keyP q) = none := by
  have z := lk_met es q
  rw [h] at z
  cases c : lk (kvsOf es) (keyP q) with
  | none => rfl
  | some d => rw [c] at z; cases z
end Sr
set_option Elab.async false
set_option linter.all false
set_option maxRecDepth 100000
set_option maxHeartbeats 2000000
set_option autoImplicit false
/-! What the law's own defs tell. -/
namespace Sr
open PySem L2
abbrev bigC : Int := 10 ^ 18
def mixN (cell : Int) (k : Nat) (prime : Int) : Int :=
  let far := (cell + 7 * (k : Int) * k + 13 * (k : Int) + 5) * 48271 % 2147483647
  let far := far * far % 2147483629
  far * 39373 % prime
def leftN (cell : Int) (ws : List Nat) : Nat → Int
  | 0 => if bigC ≤ cell then cell - bigC else 0
  | i + 1 => if 1 < leftN cell ws i then leftN cell ws i / (ws.getD i 1 : Nat) else leftN cell ws i
def dInt (cell : Int) (ws : List Nat) (prime : Int) (i : Nat) : Int := if 1 < leftN cell ws i then leftN cell ws i % (ws.getD i 1 : Nat) else mixN cell i prime % (ws.getD i 1 : Nat)
/-- the i-th draw -/
def drw (cell : Int) (ws : List Nat) (prime : Int) (i : Nat) : Nat := (dInt cell ws prime i).toNat
theorem drw_int {cell : Int} {ws : List Nat} {prime : Int} {i : Nat} (h : 0 < ws.getD i 1) : ((drw cell ws prime i : Nat) : Int) = dInt cell ws prime i ∧ drw cell ws prime i < ws.getD i 1 := by
  have z : 0 ≤ dInt cell ws prime i ∧ dInt cell ws prime i < (ws.getD i 1 : Nat) := by
    unfold dInt
    split
    · exact ⟨Int.emod_nonneg _ (by omega), Int.emod_lt_of_pos _ (by omega)⟩
    · exact ⟨Int.emod_nonneg _ (by omega), Int.emod_lt_of_pos _ (by omega)⟩
  unfold drw
  omega
def sprN (cell : Int) (width : Nat) : Int := if bigC ≤ cell then (cell - bigC) / (width : Int) + bigC else cell + 104729
def celN (ns : List Int) (k : Nat) : Int := if ns.length = 0 then 7919 * ((k : Int) + 1) else if k < ns.length then ns.getD k 0 else ns.getD (k % ns.length) 0 + 104729 * (k : Int)
/-! ### contracts -/
def g__law_mixed : Gr := fun ds r => ∃ (cell prime : Int) (k : Nat), 1 < prime ∧ k ≤ 1000 ∧ ds = [.int cell, .int k, .int prime] ∧ r = .int (mixN cell k prime)
def g__law_draws : Gr := fun ds r => ∃ (cell prime : Int) (ws : List Nat), 1 < prime ∧ ws.length ≤ 1000 ∧ (∀ w ∈ ws, 0 < w ∧ w ≤ 1000) ∧ ds = [.int cell, encNs ws, .int prime] ∧ r = encNs ((List.range ws.length).map (drw cell ws prime))
def g__law_spare : Gr := fun ds r => ∃ (cell : Int) (width : Nat), 0 < width ∧ width ≤ 1000 ∧ ds = [.int cell, .int width] ∧ r = .int (sprN cell width)
def g__law_cell : Gr := fun ds r => ∃ (ns : List Int) (k : Nat), k ≤ 1000 ∧ ds = [.list (ns.map .int), .int k] ∧ r = .int (celN ns k)
def plcN (h : House) (cell prime : Int) : Pl := (drw cell [12, 13] prime 0 % h.many, drw cell [12, 13] prime 1)
def g__law_place : Gr := fun ds r => ∃ (h : House) (cell prime : Int), Good h ∧ 1 < prime ∧ ds = [h.enc, .int cell, .int prime] ∧ r = encP (plcN h cell prime)
def g__law_whole : Gr := fun ds r => ∃ i : Int, ds = [.int i] ∧ r = .bool true
def g__law_rises : Gr := fun ds r => ∃ (ns : List Nat) (lo hi : Nat), ns.Pairwise (· < ·) ∧ (∀ x ∈ ns, lo ≤ x ∧ x < hi) ∧ ns.length ≤ 10000 ∧ ds = [encN ns, .int lo, .int hi] ∧ r = .bool true
def g__law_is_stair : Gr := fun ds r => ∃ (b s : Nat) (P : Nat → Bool), b ≤ 3000 ∧ s ≤ 840 ∧ 1 ≤ s ∧ ds = [encS b s P] ∧ r = .bool true
def g__law_walk : Gr := fun ds r => ∃ ns : List Nat, ns.length ≤ 20000 ∧ ds = [encNs ns, .int 20000] ∧ r = .bool true
def g__law_holds : Gr := fun ds r => ∃ (b s x : Nat) (P : Nat → Bool), 1 ≤ s ∧ Per P b s ∧ ds = [encS b s P, .int x] ∧ r = .bool (P x)
def dedup (ws : List Way) : List Way := ws.foldl (fun f w => if w ∈ f then f else f ++ [w]) []
def g__law_unlike : Gr := fun ds r => ∃ ws : List Way, ws.length ≤ 1000 ∧ (∀ v ∈ ws, Sgn v.sign) ∧ ds = [.list (ws.map Way.enc)] ∧ r = encWs (dedup ws)
theorem dedup_nd (ws : List Way) : (dedup ws).Nodup ∧ (∀ w ∈ dedup ws, w ∈ ws) ∧ (dedup ws).length ≤ ws.length := by
  have g : ∀ (ws f : List Way), f.Nodup → (ws.foldl (fun f w => if w ∈ f then f else f ++ [w]) f).Nodup ∧ (∀ w ∈ ws.foldl (fun f w => if w ∈ f then f else f ++ [w]) f, w ∈ f ∨ w ∈ ws) ∧ (ws.foldl (fun f w => if w ∈ f then f else f ++ [w]) f).length ≤ f.length + ws.length := by
    intro ws
    induction ws with
    | nil => intro f nd; exact ⟨nd, fun w hw => .inl hw, Nat.le_refl _⟩
    | cons a ws ih =>
      intro f nd
      rw [List.foldl_cons]
      by_cases c : a ∈ f
      · rw [if_pos c]
        obtain ⟨h1, h2, h3⟩ := ih f nd
        exact ⟨h1, fun w hw => (h2 w hw).elim .inl fun z => .inr (List.mem_cons_of_mem _ z), by rw [List.length_cons]; omega⟩
      · rw [if_neg c]
        obtain ⟨h1, h2, h3⟩ := ih (f ++ [a]) (List.nodup_append.mpr ⟨nd, by simp, fun x hx y hy => by simp at hy; subst hy; exact fun z => c (by rw [← z]; exact hx)⟩)
        refine ⟨h1, fun w hw => ?_, by rw [List.length_append] at h3; rw [List.length_cons]; simp at h3; omega⟩
        rcases h2 w hw with z | z
        · rcases List.mem_append.mp z with u | u
          · exact .inl u
          · simp at u
            subst u
            exact .inr List.mem_cons_self
        · exact .inr (List.mem_cons_of_mem _ z)
  obtain ⟨h1, h2, h3⟩ := g ws [] List.nodup_nil
  exact ⟨h1, fun w hw => (h2 w hw).elim (fun z => absurd z List.not_mem_nil) id, by rw [List.length_nil, Nat.zero_add] at h3; exact h3⟩
/-- the ways that can be gone from a place -/
def bhL (h : House) (p : Pl) (i : Nat) : List (Nat × Pl) := (h.ways.zipIdx.take i).filterMap fun w => if w.1.room = p.1 ∧ w.1.deed.opn p.2 = true then some (w.2, (w.1.other, w.1.deed.num p.2)) else none
def encB2 (w : Nat × Pl) : PyData := .tuple [.int w.1, encP w.2]
def g__law_behind : Gr := fun ds r => ∃ (h : House) (p : Pl), Good h ∧ ds = [h.enc, encP p] ∧ r = .list ((bhL h p h.ways.length).map encB2)
def g__law_gone : Gr := fun ds r => ∃ (h : House) (ks : List Nat) (ps : Nat → Pl), Good h ∧ ks.length ≤ 20000 ∧ (∀ i k, ks[i]? = some k → bh h (ps i) k = some (ps (i + 1))) ∧ ds = [h.enc, encP (ps 0), encNs ks] ∧ r = .list ((List.range (ks.length + 1)).map fun i => encP (ps i))
def g__law_shut : Gr := fun ds r => ∃ (h : House) (B S : Nat → Nat) (P : Nat → Nat → Bool), Good h ∧ (∀ q, q < h.many → B q ≤ 3000 ∧ 1 ≤ S q ∧ Per (P q) (B q) (S q)) ∧
  (∀ v ∈ h.ways, ∀ x, v.deed.opn x = true → P v.room x = true → P v.other (v.deed.num x) = true) ∧ ds = [h.enc, .list ((List.range h.many).map fun q => encS (B q) (S q) (P q))] ∧ r = .bool true
theorem bhL_next {h : House} {p : Pl} {i : Nat} {v : Way} (e : h.ways[i]? = some v) : bhL h p (i + 1) = if v.room = p.1 ∧ v.deed.opn p.2 = true then bhL h p i ++ [(i, (v.other, v.deed.num p.2))] else bhL h p i := by
  have e2 : h.ways.zipIdx[i]? = some (v, i) := by
    rw [List.getElem?_zipIdx, e]
    simp
  unfold bhL
  rw [List.take_add_one, e2, List.filterMap_append]
  by_cases c : v.room = p.1 ∧ v.deed.opn p.2 = true
  · rw [if_pos c]
    congr 1
    show List.filterMap _ [(v, i)] = _
    exact List.filterMap_cons_some (b := (i, (v.other, v.deed.num p.2))) (if_pos c)
  · rw [if_neg c]
    have z : List.filterMap (fun w : Way × Nat => if w.1.room = p.1 ∧ w.1.deed.opn p.2 = true then some (w.2, (w.1.other, w.1.deed.num p.2)) else none) (some (v, i)).toList = [] := by
      show List.filterMap _ [(v, i)] = _
      exact List.filterMap_cons_none (if_neg c)
    rw [z, List.append_nil]
theorem bhL_len {h : House} {p : Pl} {i : Nat} : (bhL h p i).length ≤ h.ways.length := by
  unfold bhL
  refine Nat.le_trans (List.length_filterMap_le _ _) ?_
  rw [List.length_take, List.length_zipIdx]
  omega
/-- the one that a count leads to -/
theorem bhL_find {h : House} {p q : Pl} {k : Nat} (hk : bh h p k = some q) : ∀ i, i ≤ h.ways.length → ((bhL h p i).filter fun w => decide ((w.1 : Int) = (k : Int))).map (fun w => encP w.2) = if k < i then [encP q] else []
  | 0, _ => by rw [if_neg (Nat.not_lt_zero k)]; rfl
  | i + 1, hi => by
    have e := List.getElem?_eq_getElem (show i < h.ways.length by omega)
    generalize h.ways[i] = v at e
    have ih := bhL_find hk i (by omega)
    rw [bhL_next e]
    by_cases c : k = i
    · subst c
      unfold bh at hk
      rw [e] at hk
      have hk' : (if v.room = p.1 ∧ v.deed.opn p.2 = true then some (v.other, v.deed.num p.2) else none) = some q := hk
      by_cases d : v.room = p.1 ∧ v.deed.opn p.2 = true
      · rw [if_pos d] at hk' ⊢
        rw [List.filter_append, List.map_append, ih, if_neg (Nat.lt_irrefl k), if_pos (Nat.lt_succ_self k), ← Option.some.inj hk']
        have z : ([(k, (v.other, v.deed.num p.2))] : List (Nat × Pl)).filter (fun w => decide ((w.1 : Int) = (k : Int))) = [(k, (v.other, v.deed.num p.2))] := List.filter_cons_of_pos (decide_eq_true rfl)
        rw [z]
        rfl
      · rw [if_neg d] at hk'
        cases hk'
    · have e1 : (if k < i + 1 then [encP q] else []) = if k < i then [encP q] else [] := by
        by_cases l : k < i
        · rw [if_pos l, if_pos (by omega)]
        · rw [if_neg l, if_neg (by omega)]
      rw [e1]
      by_cases d : v.room = p.1 ∧ v.deed.opn p.2 = true
      · rw [if_pos d, List.filter_append, List.map_append, ih]
        have z : ([(i, (v.other, v.deed.num p.2))] : List (Nat × Pl)).filter (fun w => decide ((w.1 : Int) = (k : Int))) = [] := List.filter_cons_of_neg (by rw [decide_eq_false (by omega)]; exact Bool.false_ne_true)
        rw [z]
        exact List.append_nil _
      · rw [if_neg d]
        exact ih
end Sr
set_option Elab.async false
set_option linter.all false
set_option maxRecDepth 100000
set_option maxHeartbeats 4000000
set_option autoImplicit false
/-! The law's houses. -/
namespace Sr
open PySem L2
def two {α : Type} (x y : α) (n : Nat) : α := if n = 0 then x else y
def ringA (one two' : Nat) (a b : Dd) : List Way :=
  [⟨0, .stay, 1, 97⟩, ⟨0, a, 1 + one, 98⟩] ++ (List.range one).map (fun k => ⟨1 + k, .up, 1 + (k + 1) % one, 97⟩) ++ (List.range two').map (fun k => ⟨1 + one + k, b, 1 + one + (k + 1) % two', 98⟩) ++
  [⟨1, .stay, one + two' + 2 - 1, 99⟩] ++ [⟨1 + one, .stay, one + two' + 2 - 1, 97⟩]
def ringB (many : Nat) (ws : List Way) (e f : Nat) : List Way :=
  let ws1 := if e = 0 then ws ++ [⟨many - 1, .down, many - 1, 99⟩] else ws
  if f = 0 then ws1 ++ [⟨many - 1, .zero, 0, 98⟩] else ws1
def ringW (d : Nat → Nat) : List Way := ringB (1 + d 0 + (1 + d 1) + 2) (ringA (1 + d 0) (1 + d 1) (two .stay .zero (d 2)) (two .up .down (d 3))) (d 4) (d 5)
def ringH (d : Nat → Nat) : House := ⟨1 + d 0 + (1 + d 1) + 2, if d 6 = 1 then (ringW d).reverse else ringW d⟩
def okW (n : Nat) (ws : List Way) : Bool := (ws.all fun v => decide (v.room < n) && decide (v.other < n) && (decide (v.sign = 97) || decide (v.sign = 98) || decide (v.sign = 99))) && decide ws.Nodup && decide (ws.length ≤ 40)
theorem okW_good {n : Nat} {ws : List Way} (h1 : 1 ≤ n) (h2 : n ≤ 12) (h : okW n ws = true) : Good ⟨n, ws⟩ ∧ Good ⟨n, ws.reverse⟩ := by
  unfold okW at h
  rw [Bool.and_eq_true, Bool.and_eq_true, List.all_eq_true] at h
  obtain ⟨⟨a, b⟩, c⟩ := h
  have nd := of_decide_eq_true b
  have ln := of_decide_eq_true c
  have q : ∀ v ∈ ws, v.room < n ∧ v.other < n ∧ Sgn v.sign := fun v hv => by
    have z := a v hv
    rw [Bool.and_eq_true, Bool.and_eq_true, Bool.or_eq_true, Bool.or_eq_true] at z
    obtain ⟨⟨z1, z2⟩, z3⟩ := z
    refine ⟨of_decide_eq_true z1, of_decide_eq_true z2, ?_⟩
    rcases z3 with (z3 | z3) | z3
    · exact .inl (of_decide_eq_true z3)
    · exact .inr (.inl (of_decide_eq_true z3))
    · exact .inr (.inr (of_decide_eq_true z3))
  exact ⟨⟨h1, h2, ln, fun v hv => (q v hv).1, fun v hv => (q v hv).2.1, fun v hv => (q v hv).2.2, nd⟩,
    ⟨h1, h2, by show ws.reverse.length ≤ 40; rw [List.length_reverse]; exact ln, fun v hv => (q v (List.mem_reverse.mp hv)).1, fun v hv => (q v (List.mem_reverse.mp hv)).2.1, fun v hv => (q v (List.mem_reverse.mp hv)).2.2, (List.reverse_perm ws).nodup_iff.mpr nd⟩⟩
theorem ring_all : ((List.range 5).all fun a => (List.range 5).all fun b => (List.range 2).all fun c => (List.range 2).all fun d => (List.range 2).all fun e => (List.range 2).all fun f =>
    okW (1 + a + (1 + b) + 2) (ringB (1 + a + (1 + b) + 2) (ringA (1 + a) (1 + b) (two .stay .zero c) (two .up .down d)) e f)) = true := by decide +kernel
theorem two_same {α : Type} (x y : α) (n : Nat) : two x y n = two x y (if n = 0 then 0 else 1) := by
  unfold two
  by_cases h : n = 0
  · rw [if_pos h, if_pos h, if_pos rfl]
  · rw [if_neg h, if_neg h, if_neg (by decide)]
theorem ringB_same (m : Nat) (ws : List Way) (e f : Nat) : ringB m ws e f = ringB m ws (if e = 0 then 0 else 1) (if f = 0 then 0 else 1) := by
  unfold ringB
  by_cases h : e = 0 <;> by_cases k : f = 0 <;> simp [h, k]
theorem ring_good {d : Nat → Nat} (h0 : d 0 < 5) (h1 : d 1 < 5) : Good (ringH d) := by
  have b2 : ∀ n : Nat, (if n = 0 then 0 else 1) < 2 := fun n => by split <;> omega
  have z := ring_all
  simp only [List.all_eq_true, List.mem_range] at z
  have y := z (d 0) h0 (d 1) h1 (if d 2 = 0 then 0 else 1) (b2 _) (if d 3 = 0 then 0 else 1) (b2 _) (if d 4 = 0 then 0 else 1) (b2 _) (if d 5 = 0 then 0 else 1) (b2 _)
  rw [← two_same, ← two_same, ← ringB_same] at y
  have g := okW_good (by omega) (by omega) y
  unfold ringH ringW
  split
  · exact g.2
  · exact g.1
def gateA (up down a b c : Nat) (e : Dd) (f : Nat) : List Way :=
  (List.range up).map (fun k => ⟨k, .up, (k + 1) % up, c⟩) ++ [⟨a % up, .stay, up, 98⟩] ++ (List.range down).map (fun k => ⟨up + k, .down, up + (k + 1) % down, 97⟩) ++ [⟨up + b % down, .zero, up + down + 1 - 1, 99⟩] ++ [⟨up + down + 1 - 1, e, f, 98⟩]
def gateW (d : Nat → Nat) : List Way := gateA (1 + d 0) (1 + d 1) (d 2) (d 3) (two 97 98 (d 4)) (two .up .stay (d 5)) (two 0 (1 + d 0 + (1 + d 1) + 1 - 1) (d 6))
def gateH (d : Nat → Nat) : House := ⟨1 + d 0 + (1 + d 1) + 1, dedup (gateW d)⟩
theorem gateA_ok {up down a b c : Nat} {e : Dd} {f : Nat} (h1 : 1 ≤ up) (h2 : 1 ≤ down) (hc : Sgn c) (hf : f < up + down + 1) : ∀ v ∈ gateA up down a b c e f, v.room < up + down + 1 ∧ v.other < up + down + 1 ∧ Sgn v.sign := by
  intro v hv
  have m1 : ∀ x, x % up < up := fun x => Nat.mod_lt _ h1
  have m2 : ∀ x, x % down < down := fun x => Nat.mod_lt _ h2
  unfold gateA at hv
  simp only [List.mem_append, List.mem_map, List.mem_range, List.mem_singleton] at hv
  rcases hv with (((⟨k, hk, rfl⟩ | rfl) | ⟨k, hk, rfl⟩) | rfl) | rfl
  · have := m1 (k + 1)
    exact ⟨by show k < _; omega, by show (k + 1) % up < _; omega, hc⟩
  · have := m1 a
    exact ⟨by show a % up < _; omega, by show up < _; omega, .inr (.inl rfl)⟩
  · have := m2 (k + 1)
    exact ⟨by show up + k < _; omega, by show up + (k + 1) % down < _; omega, .inl rfl⟩
  · have := m2 b
    exact ⟨by show up + b % down < _; omega, by show up + down + 1 - 1 < _; omega, .inr (.inr rfl)⟩
  · exact ⟨by show up + down + 1 - 1 < _; omega, hf, .inr (.inl rfl)⟩
theorem dedup_good {n : Nat} {ws : List Way} (h1 : 1 ≤ n) (h2 : n ≤ 12) (h3 : ws.length ≤ 40) (h : ∀ v ∈ ws, v.room < n ∧ v.other < n ∧ Sgn v.sign) : Good ⟨n, dedup ws⟩ := by
  obtain ⟨d1, d2, d3⟩ := dedup_nd ws
  exact ⟨h1, h2, Nat.le_trans d3 h3, fun v hv => (h v (d2 v hv)).1, fun v hv => (h v (d2 v hv)).2.1, fun v hv => (h v (d2 v hv)).2.2, d1⟩
theorem gateW_len {d : Nat → Nat} (h0 : d 0 < 6) (h1 : d 1 < 5) : (gateW d).length ≤ 40 := by
  unfold gateW gateA
  simp
  omega
theorem gateW_ok {d : Nat → Nat} : ∀ v ∈ gateW d, v.room < 1 + d 0 + (1 + d 1) + 1 ∧ v.other < 1 + d 0 + (1 + d 1) + 1 ∧ Sgn v.sign := by
  unfold gateW
  refine gateA_ok (by omega) (by omega) ?_ ?_
  · unfold two
    split
    · exact .inl rfl
    · exact .inr (.inl rfl)
  · unfold two
    split <;> omega
theorem gate_good {d : Nat → Nat} (h0 : d 0 < 6) (h1 : d 1 < 5) : Good (gateH d) := dedup_good (by omega) (by omega) (gateW_len h0 h1) gateW_ok
def dds : List Dd := [.up, .down, .stay, .zero, .up, .down]
def drawnMany (d : Nat → Nat) : Nat := 1 + d 1 % [4, 4, 4, 5, 3, 2, 5, 12].getD (d 0) 1
def drawnOften (d : Nat → Nat) : Nat := if d 0 = 7 then d 3 else d 2
def drawnI (d : Nat → Nat) (i : Nat) : List Way := (List.range i).map fun k => ⟨d (4 + 4 * k) % drawnMany d, dds.getD (d (4 + 4 * k + 1)) .up, d (4 + 4 * k + 2) % drawnMany d, 97 + d (4 + 4 * k + 3)⟩
def drawnH (d : Nat → Nat) : House := ⟨drawnMany d, dedup (drawnI d (drawnOften d))⟩
theorem drawnMany_le {d : Nat → Nat} (h0 : d 0 < 8) : 1 ≤ drawnMany d ∧ drawnMany d ≤ 12 ∧ 0 < [4, 4, 4, 5, 3, 2, 5, 12].getD (d 0) 1 := by
  unfold drawnMany
  have z : ∀ k, k < 8 → 0 < [4, 4, 4, 5, 3, 2, 5, 12].getD k 1 ∧ [4, 4, 4, 5, 3, 2, 5, 12].getD k 1 ≤ 12 := by decide
  obtain ⟨z1, z2⟩ := z _ h0
  have y := Nat.mod_lt (d 1) z1
  omega
theorem drawnI_ok {d : Nat → Nat} {i : Nat} (h0 : d 0 < 8) (hs : ∀ k, k < i → d (4 + 4 * k + 3) < 3) : ∀ v ∈ drawnI d i, v.room < drawnMany d ∧ v.other < drawnMany d ∧ Sgn v.sign := by
  intro v hv
  unfold drawnI at hv
  obtain ⟨k, hk, rfl⟩ := List.mem_map.mp hv
  have h1 := (drawnMany_le h0).1
  have z := hs k (List.mem_range.mp hk)
  refine ⟨Nat.mod_lt _ h1, Nat.mod_lt _ h1, ?_⟩
  show 97 + d (4 + 4 * k + 3) = 97 ∨ 97 + d (4 + 4 * k + 3) = 98 ∨ 97 + d (4 + 4 * k + 3) = 99
  omega
theorem drawn_good {d : Nat → Nat} (h0 : d 0 < 8) (ho : drawnOften d ≤ 30) (hs : ∀ k, k < 30 → d (4 + 4 * k + 3) < 3) : Good (drawnH d) :=
  dedup_good (drawnMany_le h0).1 (drawnMany_le h0).2.1 (by unfold drawnI; rw [List.length_map, List.length_range]; omega) (drawnI_ok h0 fun k hk => hs k (by omega))
abbrev ringD : List Nat := [5, 5, 2, 2, 4, 4, 2]
abbrev gateD : List Nat := [6, 5, 6, 5, 2, 2, 2]
def drawnD : List Nat := [8, 12, 13, 31] ++ (List.replicate 30 [12, 6, 12, 3]).flatten
theorem drawnD_at : drawnD.length = 124 ∧ drawnD.getD 0 1 = 8 ∧ drawnD.getD 1 1 = 12 ∧ drawnD.getD 2 1 = 13 ∧ drawnD.getD 3 1 = 31 ∧
    (∀ k, k < 30 → drawnD.getD (4 + 4 * k) 1 = 12 ∧ drawnD.getD (4 + 4 * k + 1) 1 = 6 ∧ drawnD.getD (4 + 4 * k + 2) 1 = 12 ∧ drawnD.getD (4 + 4 * k + 3) 1 = 3) ∧ (∀ w ∈ drawnD, 0 < w ∧ w ≤ 1000) := by decide +kernel
/-- the house of a cell -/
def housN (cell prime : Int) : House :=
  let left := sprN cell 8
  let kind := drw cell [8] prime 0
  if kind = 6 then ringH (drw left ringD prime) else if kind = 7 then gateH (drw left gateD prime) else drawnH (drw left drawnD prime)
theorem drw_lt {cell prime : Int} {ws : List Nat} {i k : Nat} (h : ws.getD i 1 = k) (hk : 0 < k) : drw cell ws prime i < k := by
  rw [← h] at hk ⊢
  exact (drw_int hk).2
theorem drawn_ok {cell prime : Int} : drw cell drawnD prime 0 < 8 ∧ drawnOften (drw cell drawnD prime) ≤ 30 ∧ ∀ k, k < 30 → drw cell drawnD prime (4 + 4 * k) < 12 ∧ drw cell drawnD prime (4 + 4 * k + 1) < 6 ∧ drw cell drawnD prime (4 + 4 * k + 2) < 12 ∧ drw cell drawnD prime (4 + 4 * k + 3) < 3 := by
  obtain ⟨_, a0, a1, a2, a3, ak, _⟩ := drawnD_at
  refine ⟨drw_lt a0 (by omega), ?_, fun k hk => ?_⟩
  · have h2 := drw_lt (cell := cell) (prime := prime) a2 (by omega)
    have h3 := drw_lt (cell := cell) (prime := prime) a3 (by omega)
    unfold drawnOften
    split <;> omega
  · obtain ⟨b0, b1, b2, b3⟩ := ak k hk
    exact ⟨drw_lt b0 (by omega), drw_lt b1 (by omega), drw_lt b2 (by omega), drw_lt b3 (by omega)⟩
theorem hous_good (cell prime : Int) : Good (housN cell prime) := by
  unfold housN
  dsimp only
  split
  · exact ring_good (drw_lt (ws := ringD) rfl (by omega)) (drw_lt (ws := ringD) rfl (by omega))
  · split
    · exact gate_good (drw_lt (ws := gateD) rfl (by omega)) (drw_lt (ws := gateD) rfl (by omega))
    · obtain ⟨h1, h2, h3⟩ := drawn_ok (cell := sprN cell 8) (prime := prime)
      exact drawn_good h1 h2 fun k hk => (h3 k hk).2.2.2
def g__law_ring_house : Gr := fun ds r => ∃ cell prime : Int, 1 < prime ∧ ds = [.int cell, .int prime] ∧ r = (ringH (drw cell ringD prime)).enc
def g__law_gate_house : Gr := fun ds r => ∃ cell prime : Int, 1 < prime ∧ ds = [.int cell, .int prime] ∧ r = (gateH (drw cell gateD prime)).enc
def g__law_drawn_house : Gr := fun ds r => ∃ cell prime : Int, 1 < prime ∧ ds = [.int cell, .int prime] ∧ r = (drawnH (drw cell drawnD prime)).enc
def g__law_house : Gr := fun ds r => ∃ cell prime : Int, 1 < prime ∧ ds = [.int cell, .int prime] ∧ r = (housN cell prime).enc
section
variable {K : PySem.W.Frag} {es : List Ent} {ta tb tc td : TE}
theorem ye_way {v : Way} (h1 : Ye K ta es (.int v.room)) (h2 : Ye K tb es (.str v.deed.str)) (h3 : Ye K tc es (.int v.other)) (h4 : Ye K td es (.str (chr v.sign))) : Ye K (tTup (tCons ta (tCons tb (tCons tc (tCons td tNil))))) es v.enc :=
  ye_tup (ya_cons h1 (ya_cons h2 (ya_cons h3 (ya_cons h4 ya_nil)))) (show (4 : Nat) ≤ 100000 by decide)
theorem yo_appW {ws : List Way} {v : Way} {i : Nat} (he : es[i]? = some (.ml (ws.map Way.enc))) (h : Ye K ta es v.enc) (hz : ws.length < 100000) : Yo K (tDrop (tBM K "list" rAppend (tVar i) (tCons ta tNil))) es (.nx (es.set i (.ml ((ws ++ [v]).map Way.enc)))) :=
  Yo.to (yo_app he h (by rw [List.length_map]; exact hz)) (by rw [List.map_append]; rfl)
theorem ye_dr {d : Nat → Nat} {n k : Nat} (h : Ye K ta es (encNs ((List.range n).map d))) (hk : Ye K tb es (.int k)) (hn : k < n) : Ye K (tOp (rIxL K) ta tb) es (.int (d k : Nat)) :=
  ye_ixL (Ye.yl h) hk (by rw [List.map_map]; exact at_range hn)
end
theorem at_two {x y : PyData} {n : Nat} (h : n < 2) : atI [x, y] (n : Int) = some (two x y n) := by
  rcases (show n = 0 ∨ n = 1 by omega) with z | z <;> subst z <;> rfl
theorem chr_a : ("a" : Str) = chr 97 := by decide +kernel
theorem chr_b : ("b" : Str) = chr 98 := by decide +kernel
theorem chr_c : ("c" : Str) = chr 99 := by decide +kernel
theorem cps_ab : ("ab" : Str).cps.toList = [97, 98] := by decide +kernel
theorem cps_abc : ("abc" : Str).cps.toList = [97, 98, 99] := by decide +kernel
theorem modc (a b : Nat) : ((a : Int) + 1) % (b : Int) = (((a + 1) % b : Nat) : Int) := by
  rw [Int.natCast_emod, Int.natCast_add]
  rfl
theorem two_map {α β : Type} (f : α → β) (x y : α) (n : Nat) : two (f x) (f y) n = f (two x y n) := by
  unfold two
  split <;> rfl
end Sr
/-! The orbit of a set of at most twelve vertices under a relation comes round soon. -/
namespace Sr.Ob
set_option autoImplicit false

/-! ### pigeons -/
theorem pigeon : ∀ (m : Nat) (g : Nat → Nat), (∀ i, i ≤ m → g i < m) → ∃ i j, i < j ∧ j ≤ m ∧ g i = g j
  | 0, g, h => absurd (h 0 (Nat.le_refl 0)) (Nat.not_lt_zero _)
  | m + 1, g, h => by
    by_cases hx : ∃ i, i ≤ m ∧ g i = g (m + 1)
    · obtain ⟨i, hi, e⟩ := hx
      exact ⟨i, m + 1, by omega, Nat.le_refl _, e⟩
    · have hne : ∀ i, i ≤ m → g i ≠ g (m + 1) := fun i hi e => hx ⟨i, hi, e⟩
      have hl := h (m + 1) (Nat.le_refl _)
      obtain ⟨i, j, hij, hj, e⟩ := pigeon m (fun i => if g i > g (m + 1) then g i - 1 else g i) (fun i hi => by
        have h1 := hne i hi
        have h2 := h i (by omega)
        show (if g i > g (m + 1) then g i - 1 else g i) < m
        split <;> omega)
      have h1 := hne i (by omega)
      have h2 := hne j hj
      refine ⟨i, j, hij, by omega, ?_⟩
      have e' : (if g i > g (m + 1) then g i - 1 else g i) = (if g j > g (m + 1) then g j - 1 else g j) := e
      split at e' <;> split at e' <;> omega
theorem pigeonL (C : List Nat) (f : Nat → Nat) (h : ∀ i, i ≤ C.length → f i ∈ C) : ∃ i j, i < j ∧ j ≤ C.length ∧ f i = f j := by
  obtain ⟨i, j, hij, hj, e⟩ := pigeon C.length (fun i => C.idxOf (f i)) (fun i hi => List.idxOf_lt_length_iff.mpr (h i hi))
  refine ⟨i, j, hij, hj, ?_⟩
  have h1 := h i (by omega)
  have h2 := h j hj
  have e1 : C[C.idxOf (f i)]? = some (f i) := by
    rw [List.getElem?_eq_getElem (List.idxOf_lt_length_iff.mpr h1), List.getElem_idxOf]
  have e2 : C[C.idxOf (f j)]? = some (f j) := by
    rw [List.getElem?_eq_getElem (List.idxOf_lt_length_iff.mpr h2), List.getElem_idxOf]
  have e3 : C.idxOf (f i) = C.idxOf (f j) := e
  rw [e3, e2] at e1
  exact (Option.some.inj e1).symm

/-! ### walks of a length -/
def Wk (A : Nat → Nat → Prop) : Nat → Nat → Nat → Prop
  | 0, u, v => u = v
  | k + 1, u, v => ∃ x, A u x ∧ Wk A k x v
section
variable {A : Nat → Nat → Prop}
theorem Wk.add : ∀ {a b u v w : Nat}, Wk A a u v → Wk A b v w → Wk A (a + b) u w
  | 0, b, u, v, w, h1, h2 => by
    have e : u = v := h1
    subst e
    rw [Nat.zero_add]
    exact h2
  | a + 1, b, u, v, w, ⟨x, hx, h1⟩, h2 => by
    have q := Wk.add h1 h2
    have e : a + 1 + b = (a + b) + 1 := by omega
    rw [e]
    exact ⟨x, hx, q⟩
theorem Wk.one {u v : Nat} (h : A u v) : Wk A 1 u v := ⟨v, h, rfl⟩
/-- along a function -/
theorem Wk.along (f : Nat → Nat) : ∀ (m i : Nat), (∀ t, i ≤ t → t < i + m → A (f t) (f (t + 1))) → Wk A m (f i) (f (i + m))
  | 0, i, _ => rfl
  | m + 1, i, h => by
    refine ⟨f (i + 1), h i (Nat.le_refl _) (by omega), ?_⟩
    have q := Wk.along f m (i + 1) fun t h1 h2 => h t (by omega) (by omega)
    have e : i + 1 + m = i + (m + 1) := by omega
    rw [e] at q
    exact q
theorem Wk.fn : ∀ {m u v : Nat}, Wk A m u v → ∃ f : Nat → Nat, f 0 = u ∧ f m = v ∧ ∀ t, t < m → A (f t) (f (t + 1))
  | 0, u, v, h => ⟨fun _ => u, rfl, h, fun t ht => absurd ht (Nat.not_lt_zero _)⟩
  | m + 1, u, v, ⟨x, hx, h⟩ => by
    obtain ⟨f, h0, hm, hs⟩ := Wk.fn h
    refine ⟨fun t => match t with | 0 => u | t + 1 => f t, rfl, hm, fun t ht => ?_⟩
    cases t with
    | zero =>
      show A u (f 0)
      rw [h0]
      exact hx
    | succ t =>
      show A (f t) (f (t + 1))
      exact hs t (by omega)

/-! ### the orbit: M k v, v stands in the k-th set -/
variable {M : Nat → Nat → Prop} {n : Nat}
structure Orb (A : Nat → Nat → Prop) (M : Nat → Nat → Prop) (n : Nat) : Prop where
  lt : ∀ k v, M k v → v < n
  up : ∀ k u v, M k u → A u v → M (k + 1) v
  dn : ∀ k v, M (k + 1) v → ∃ u, M k u ∧ A u v
variable (O : Orb A M n)
include O
theorem Orb.go : ∀ {j k u v : Nat}, M k u → Wk A j u v → M (k + j) v
  | 0, k, u, v, h, w => by
    have e : u = v := w
    subst e
    exact h
  | j + 1, k, u, v, h, ⟨x, hx, w⟩ => by
    have q := Orb.go (O.up k u x h hx) w
    have e : k + 1 + j = k + (j + 1) := by omega
    rw [e] at q
    exact q
theorem Orb.hist : ∀ {k v : Nat}, M k v → ∃ f : Nat → Nat, f k = v ∧ (∀ i, i ≤ k → M i (f i)) ∧ ∀ i, i < k → A (f i) (f (i + 1))
  | 0, v, h => ⟨fun _ => v, rfl, fun i hi => by
      have e : i = 0 := by omega
      subst e
      exact h, fun i hi => absurd hi (Nat.not_lt_zero _)⟩
  | k + 1, v, h => by
    obtain ⟨u, hu, ha⟩ := O.dn k v h
    obtain ⟨f, h0, h1, h2⟩ := Orb.hist hu
    refine ⟨fun i => if i = k + 1 then v else f i, if_pos rfl, fun i hi => ?_, fun i hi => ?_⟩
    · by_cases e : i = k + 1
      · subst e
        show M (k + 1) (if k + 1 = k + 1 then v else f (k + 1))
        rw [if_pos rfl]
        exact h
      · show M i (if i = k + 1 then v else f i)
        rw [if_neg e]
        exact h1 i (by omega)
    · show A (if i = k + 1 then v else f i) (if i + 1 = k + 1 then v else f (i + 1))
      rw [if_neg (by omega)]
      by_cases e : i = k
      · subst e
        rw [if_pos rfl, h0]
        exact ha
      · rw [if_neg (by omega)]
        exact h2 i (by omega)
theorem Orb.pump {x e : Nat} (w : Wk A e x x) : ∀ {t k : Nat}, M k x → M (k + t * e) x
  | 0, k, h => by
    rw [Nat.zero_mul]
    exact h
  | t + 1, k, h => by
    have q := Orb.pump w (t := t) h
    have r := O.go q w
    have e1 : k + t * e + e = k + (t + 1) * e := by rw [Nat.add_mul, Nat.one_mul, Nat.add_assoc]
    rw [e1] at r
    exact r
/-- each class of numbers that leave one rest by e begins early -/
theorem Orb.early {x e : Nat} (he : 0 < e) : ∀ (k : Nat), M k x → ∃ k', k' < n * e ∧ k' % e = k % e ∧ k' ≤ k ∧ M k' x := by
  intro k
  induction k using Nat.strongRecOn with
  | ind k ih =>
    intro h
    by_cases hk : k < n * e
    · exact ⟨k, hk, rfl, Nat.le_refl _, h⟩
    · obtain ⟨f, h0, h1, h2⟩ := O.hist h
      obtain ⟨i, j, hij, hj, e1⟩ := pigeon (n * e) (fun i => f i * e + i % e) (fun i hi => by
        have q1 := O.lt i (f i) (h1 i (by omega))
        have q2 := Nat.mod_lt i he
        have q3 : (f i + 1) * e ≤ n * e := Nat.mul_le_mul_right e q1
        rw [Nat.add_mul, Nat.one_mul] at q3
        show f i * e + i % e < n * e
        omega)
      have e1' : f i * e + i % e = f j * e + j % e := e1
      have m1 := Nat.mod_lt i he
      have m2 := Nat.mod_lt j he
      have d1 : (f i * e + i % e) / e = f i := by
        rw [Nat.mul_comm, Nat.mul_add_div he, Nat.div_eq_of_lt m1, Nat.add_zero]
      have d2 : (f j * e + j % e) / e = f j := by
        rw [Nat.mul_comm, Nat.mul_add_div he, Nat.div_eq_of_lt m2, Nat.add_zero]
      have ef : f i = f j := by rw [← d1, e1', d2]
      have em : i % e = j % e := by
        rw [ef] at e1'
        omega
      have w : Wk A (k - j) (f j) x := by
        have q := Wk.along f (k - j) j fun t q1 q2 => h2 t (by omega)
        have z : j + (k - j) = k := by omega
        rw [z, h0] at q
        exact q
      have mi : M (i + (k - j)) x := by
        refine O.go (h1 i (by omega)) ?_
        rw [ef]
        exact w
      have lt : i + (k - j) < k := by omega
      obtain ⟨k', q1, q2, q3, q4⟩ := ih _ lt mi
      refine ⟨k', q1, ?_, by omega, q4⟩
      rw [q2]
      have ek : k = j + (k - j) := by omega
      rw [Nat.add_mod, em, ← Nat.add_mod, ← ek]
theorem Orb.back {x e t k : Nat} (he : 0 < e) (hn : e ≤ n) (w : Wk A e x x) (hk : n * n ≤ k) (h : M (k + t * e) x) : M k x := by
  obtain ⟨k', q1, q2, q3, q4⟩ := O.early he _ h
  have q5 : n * e ≤ n * n := Nat.mul_le_mul_left n hn
  have q6 : (k + t * e) % e = k % e := Nat.add_mul_mod_self_right k t e
  rw [q6] at q2
  have q7 : k' + ((k - k') / e) * e = k := by
    have d : e ∣ k - k' := Nat.dvd_of_mod_eq_zero (Nat.sub_mod_eq_zero_of_mod_eq q2.symm)
    have z := Nat.div_mul_cancel d
    omega
  have r := O.pump w (t := (k - k') / e) q4
  rw [q7] at r
  exact r
/-- far out, a vertex that comes again after a common multiple has been there -/
theorem Orb.cyc {k v : Nat} (hk : n ≤ k) (h : M k v) : ∃ i x e, k - n ≤ i ∧ i ≤ k ∧ 0 < e ∧ e ≤ n ∧ M i x ∧ Wk A e x x ∧ Wk A (k - i) x v := by
  obtain ⟨f, h0, h1, h2⟩ := O.hist h
  obtain ⟨a, b, hab, hb, e⟩ := pigeon n (fun t => f (k - n + t)) fun t ht => O.lt (k - n + t) _ (h1 _ (by omega))
  refine ⟨k - n + a, f (k - n + a), b - a, by omega, by omega, by omega, by omega, h1 _ (by omega), ?_, ?_⟩
  · have q := Wk.along f (b - a) (k - n + a) fun t q1 q2 => h2 t (by omega)
    rw [show k - n + a + (b - a) = k - n + b by omega] at q
    have e' : f (k - n + a) = f (k - n + b) := e
    rw [← e'] at q
    exact q
  · have q := Wk.along f (k - (k - n + a)) (k - n + a) fun t q1 q2 => h2 t (by omega)
    rw [show k - n + a + (k - (k - n + a)) = k by omega, h0] at q
    exact q
theorem Orb.per {L k v : Nat} (hL : ∀ e, 0 < e → e ≤ n → e ∣ L) (hk : n * n + n ≤ k) : M k v ↔ M (k + L) v := by
  constructor
  · intro h
    obtain ⟨i, x, e, i1, i2, e1, e2, hx, w, w2⟩ := O.cyc (by omega) h
    obtain ⟨t, ht⟩ := hL e e1 e2
    have p := O.pump w (t := t) hx
    rw [Nat.mul_comm, ← ht] at p
    have q := O.go p w2
    rw [show i + L + (k - i) = k + L by omega] at q
    exact q
  · intro h
    obtain ⟨i, x, e, i1, i2, e1, e2, hx, w, w2⟩ := O.cyc (by omega) h
    obtain ⟨t, ht⟩ := hL e e1 e2
    have c : M (i - L) x := O.back (t := t) e1 e2 w (by omega) (by rw [Nat.mul_comm, ← ht, show i - L + L = i by omega]; exact hx)
    have q := O.go c w2
    rw [show i - L + (k + L - i) = k by omega] at q
    exact q
theorem Orb.pers {L k v : Nat} (hL : ∀ e, 0 < e → e ≤ n → e ∣ L) (hk : n * n + n ≤ k) : ∀ t, M k v ↔ M (k + t * L) v
  | 0 => by rw [Nat.zero_mul, Nat.add_zero]
  | t + 1 => by
    rw [Orb.pers hL hk t, Orb.per O hL (by omega : n * n + n ≤ k + t * L), Nat.succ_mul, Nat.add_assoc]
omit O in
/-- both ways -/
def Con (A : Nat → Nat → Prop) (x z : Nat) : Prop := (∃ a, Wk A a x z) ∧ ∃ b, Wk A b z x
omit O in
theorem Wk.times {e x : Nat} (w : Wk A e x x) : ∀ t, Wk A (t * e) x x
  | 0 => by rw [Nat.zero_mul]; exact rfl
  | t + 1 => by rw [Nat.succ_mul]; exact Wk.add (Wk.times w t) w
/-- a vertex bound to a cycle of e comes again after each multiple of e -/
theorem Orb.turn {L T i x z e : Nat} (hL : ∀ e, 0 < e → e ≤ n → e ∣ L) (l0 : 0 < L) (c : Con A x z) (w : Wk A e z z) (hT : e ∣ T) (hi : n * n + n ≤ i) (h : M i x) : M (i + T) x := by
  obtain ⟨⟨a, wa⟩, b, wb⟩ := c
  obtain ⟨t, ht⟩ := hT
  have tt := Wk.times w t
  rw [Nat.mul_comm, ← ht] at tt
  have w1 : Wk A (a + T + b) x x := Wk.add (Wk.add wa tt) wb
  have w2 := Wk.times (Wk.add wa wb) (L - 1)
  have q := O.go (O.go h w1) w2
  have e1 : i + (a + T + b) + (L - 1) * (a + b) = i + T + (a + b) * L := by
    have e2 : (L - 1) * (a + b) + (a + b) = (a + b) * L := by
      rw [← Nat.succ_mul, Nat.mul_comm]
      congr 1
      omega
    omega
  rw [e1] at q
  exact (O.pers hL (by omega) (a + b)).mpr q
/-- T turns all -/
structure Turn (A : Nat → Nat → Prop) (C : List Nat) (T : Nat) : Prop where
  pos : 0 < T
  all : ∀ x, x ∈ C → (∃ e, 0 < e ∧ Wk A e x x) → ∃ z e, Con A x z ∧ Wk A e z z ∧ e ∣ T
theorem Orb.again {L T k v : Nat} (hL : ∀ e, 0 < e → e ≤ n → e ∣ L) (l0 : 0 < L) (U : Turn A (List.range n) T) (hk : n * n + 2 * n ≤ k) : M k v ↔ M (k + T) v := by
  have fwd : ∀ k, n * n + 2 * n ≤ k → M k v → M (k + T) v := fun k hk h => by
    obtain ⟨i, x, e, i1, i2, e1, e2, hx, w, w2⟩ := O.cyc (by omega) h
    obtain ⟨z, e', c, wz, d⟩ := U.all x (List.mem_range.mpr (O.lt i x hx)) ⟨e, e1, w⟩
    have q := O.go (O.turn hL l0 c wz d (by omega) hx) w2
    rw [show i + T + (k - i) = k + T by omega] at q
    exact q
  refine ⟨fwd k hk, fun h => ?_⟩
  have many : ∀ t, M (k + T + t * T) v := fun t => by
    induction t with
    | zero => rw [Nat.zero_mul]; exact h
    | succ t ih =>
      have q := fwd _ (by omega) ih
      rw [Nat.succ_mul, ← Nat.add_assoc]
      exact q
  have q := many (L - 1)
  have e : k + T + (L - 1) * T = k + T * L := by
    have e2 : (L - 1) * T + T = T * L := by
      rw [← Nat.succ_mul, Nat.mul_comm]
      congr 1
      omega
    omega
  rw [e] at q
  exact (O.pers hL (by omega) T).mpr q
end
section
variable {A : Nat → Nat → Prop}
theorem Con.refl (x : Nat) : Con A x x := ⟨⟨0, rfl⟩, 0, rfl⟩
theorem Con.symm {x y : Nat} (c : Con A x y) : Con A y x := ⟨c.2, c.1⟩
theorem Con.trans {x y z : Nat} (c : Con A x y) (d : Con A y z) : Con A x z := by
  obtain ⟨⟨a, wa⟩, b, wb⟩ := c
  obtain ⟨⟨a', wa'⟩, b', wb'⟩ := d
  exact ⟨⟨_, Wk.add wa wa'⟩, _, Wk.add wb' wb⟩
theorem cube : ∀ e, e ≤ 12 → e * e * e ≤ 3 ^ e := by decide
theorem turn_some : ∀ (m : Nat) (C : List Nat), C.length ≤ m → m ≤ 12 → (∀ x, x ∈ C → ∀ y, Con A x y → y ∈ C) → ∃ T, Turn A C T ∧ T * T * T ≤ 3 ^ C.length
  | 0, C, hl, _, _ => by
    have e : C = [] := List.eq_nil_of_length_eq_zero (by omega)
    subst e
    exact ⟨1, ⟨Nat.one_pos, fun x hx => absurd hx List.not_mem_nil⟩, by decide⟩
  | m + 1, C, hl, hm, cl => by
    classical
    by_cases hx : ∃ x, x ∈ C ∧ ∃ e, 0 < e ∧ Wk A e x x
    · obtain ⟨x, hxC, e, he, w⟩ := hx
      let D := C.filter fun y => decide (Con A x y)
      let R := C.filter fun y => !decide (Con A x y)
      have lenDR : D.length + R.length = C.length := by
        have g : ∀ l : List Nat, (l.filter fun y => decide (Con A x y)).length + (l.filter fun y => !decide (Con A x y)).length = l.length := by
          intro l
          induction l with
          | nil => rfl
          | cons a l ih =>
            rw [List.filter_cons, List.filter_cons]
            by_cases c : Con A x a
            · rw [decide_eq_true c]
              show (a :: List.filter _ l).length + (List.filter _ l).length = _
              rw [List.length_cons, List.length_cons]
              omega
            · rw [decide_eq_false c]
              show (List.filter _ l).length + (a :: List.filter _ l).length = _
              rw [List.length_cons, List.length_cons]
              omega
        exact g C
      have xD : x ∈ D := List.mem_filter.mpr ⟨hxC, decide_eq_true (Con.refl x)⟩
      have dpos : 0 < D.length := List.length_pos_of_mem xD
      -- a cycle within the class, not longer than it
      have cyc : ∃ z e', Con A x z ∧ 0 < e' ∧ e' ≤ D.length ∧ Wk A e' z z := by
        by_cases le : e ≤ D.length
        · exact ⟨x, e, Con.refl x, he, le, w⟩
        · obtain ⟨f, f0, fe, fs⟩ := Wk.fn w
          have inD : ∀ t, t ≤ e → Con A x (f t) := fun t ht => by
            refine ⟨⟨t, ?_⟩, e - t, ?_⟩
            · have q := Wk.along f t 0 fun s _ q2 => fs s (by omega)
              rw [f0, Nat.zero_add] at q
              exact q
            · have q := Wk.along f (e - t) t fun s q1 q2 => fs s (by omega)
              rw [show t + (e - t) = e by omega, fe] at q
              exact q
          obtain ⟨a, b, hab, hb, eq⟩ := pigeonL D f fun t ht => List.mem_filter.mpr ⟨cl x hxC _ (inD t (by omega)), decide_eq_true (inD t (by omega))⟩
          refine ⟨f a, b - a, inD a (by omega), by omega, by omega, ?_⟩
          have q := Wk.along f (b - a) a fun s q1 q2 => fs s (by omega)
          rw [show a + (b - a) = b by omega, ← eq] at q
          exact q
      obtain ⟨z, e', cz, e0, el, wz⟩ := cyc
      obtain ⟨T, U, hT⟩ := turn_some m R (by omega) (by omega) fun y hy u hu => by
        obtain ⟨y1, y2⟩ := List.mem_filter.mp hy
        refine List.mem_filter.mpr ⟨cl y y1 u hu, ?_⟩
        rw [Bool.not_eq_true', decide_eq_false_iff_not] at y2 ⊢
        exact fun c => y2 (c.trans hu.symm)
      refine ⟨e' * T, ⟨Nat.mul_pos e0 U.pos, fun y hy hc => ?_⟩, ?_⟩
      · by_cases c : Con A x y
        · exact ⟨z, e', c.symm.trans cz, wz, Nat.dvd_mul_right _ _⟩
        · obtain ⟨z2, e2, c2, w2, d2⟩ := U.all y (List.mem_filter.mpr ⟨hy, by rw [decide_eq_false c]; rfl⟩) hc
          exact ⟨z2, e2, c2, w2, Nat.dvd_trans d2 (Nat.dvd_mul_left _ _)⟩
      · have q1 := cube e' (by omega)
        have q2 : 3 ^ e' ≤ 3 ^ D.length := Nat.pow_le_pow_right (by omega) el
        have q3 := Nat.mul_le_mul (Nat.le_trans q1 q2) hT
        have q4 : 3 ^ D.length * 3 ^ R.length = 3 ^ C.length := by rw [← Nat.pow_add, lenDR]
        rw [q4] at q3
        have q5 : e' * T * (e' * T) * (e' * T) = e' * e' * e' * (T * T * T) := by
          simp only [Nat.mul_assoc, Nat.mul_left_comm T]
        rw [q5]
        exact q3
    · exact ⟨1, ⟨Nat.one_pos, fun x h1 h2 => absurd ⟨x, h1, h2⟩ hx⟩, Nat.one_le_pow _ _ (by omega)⟩
theorem low_cube {T : Nat} (h : T * T * T ≤ 3 ^ 12) : T ≤ 81 := by
  rcases Nat.lt_or_ge 81 T with z | z
  · have q : 82 * 82 * 82 ≤ T * T * T := Nat.mul_le_mul (Nat.mul_le_mul z z) z
    have d : ¬ 82 * 82 * 82 ≤ 3 ^ 12 := by decide
    exact absurd (Nat.le_trans q h) d
  · exact z
/-- THE ORBIT COMES ROUND -/
theorem Orb.round {M : Nat → Nat → Prop} {n : Nat} (O : Orb A M n) (hn : n ≤ 12) (hA : ∀ u v, A u v → v < n ∧ u < n) : ∃ i j, i < j ∧ j ≤ 249 ∧ ∀ v, M i v ↔ M j v := by
  obtain ⟨T, U, hT⟩ := turn_some (A := A) n (List.range n) (by rw [List.length_range]; exact Nat.le_refl n) hn fun x hx y c => by
    obtain ⟨⟨a, wa⟩, _⟩ := c
    have hx := List.mem_range.mp hx
    rw [List.mem_range]
    have g : ∀ a x, x < n → Wk A a x y → y < n := by
      intro a
      induction a with
      | zero => intro x hx w; have e : x = y := w; rw [← e]; exact hx
      | succ a ih => intro x hx w; obtain ⟨u, hu, w⟩ := w; exact ih u (hA x u hu).1 w
    exact g a x hx wa
  rw [List.length_range] at hT
  have hT2 : T * T * T ≤ 3 ^ 12 := Nat.le_trans hT (Nat.pow_le_pow_right (by omega) hn)
  have t := low_cube hT2
  have tp := U.pos
  have nn : n * n ≤ 12 * 12 := Nat.mul_le_mul hn hn
  refine ⟨n * n + 2 * n, n * n + 2 * n + T, by omega, by omega, fun v => O.again (L := 27720) (fun e h1 h2 => ?_) (by omega) U (Nat.le_refl _)⟩
  have g : ∀ e, e ≤ 12 → 0 < e → 27720 % e = 0 := by decide
  exact Nat.dvd_of_mod_eq_zero (g e (by omega) h1)
end
end Sr.Ob
set_option Elab.async false
set_option linter.all false
set_option maxRecDepth 100000
set_option maxHeartbeats 2000000
set_option autoImplicit false
/-! The tables' closures, and what the rows tell. -/
namespace Sr
open PySem L2
theorem bitT_set {n p i q : Nat} {T : List (List Bool)} {r : List Bool} (s : Sq n T) (hi : i < n) : bitT (T.set i r) p q = if p = i then r.getD q false else bitT T p q := by
  unfold bitT
  by_cases e : p = i
  · subst e
    rw [if_pos rfl, List.getD_eq_getElem?_getD (l := T.set p r), List.getElem?_set_self (by rw [s.len]; exact hi)]
    rfl
  · rw [if_neg e, List.getD_eq_getElem?_getD (l := T.set i r), List.getElem?_set_ne fun z => e z.symm, ← List.getD_eq_getElem?_getD]
theorem orRow_at {n q : Nat} {a b : List Bool} (h : q < n) : (orRow n a b).getD q false = (a.getD q false || b.getD q false) := getD_map_range h _ _
theorem clAmid_bit {n m : Nat} {rows : List (List Bool)} (s : Sq n rows) (hm : m < n) : ∀ i, i ≤ n → ∀ p, p < n → ∀ q, q < n →
    bitT (clAmid n m rows i) p q = if p < i then (bitT rows p q || (bitT rows p m && bitT rows m q)) else bitT rows p q
  | 0, _, p, _, q, _ => by
    rw [if_neg (Nat.not_lt_zero p)]
    rfl
  | i + 1, hi, p, hp, q, hq => by
    have ih := clAmid_bit s hm i (by omega)
    have s2 := clAmid_sq (m := m) s i
    have e1 : bitT (clAmid n m rows i) i m = bitT rows i m := by rw [ih i (by omega) m hm, if_neg (Nat.lt_irrefl i)]
    have em : bitT (clAmid n m rows i) m q = bitT rows m q := by
      rw [ih m hm q hq]
      split
      · cases bitT rows m m <;> cases bitT rows m q <;> rfl
      · rfl
    rw [clAmid_succ]
    show bitT (if bitT (clAmid n m rows i) i m = true then (clAmid n m rows i).set i (orRow n ((clAmid n m rows i).getD i []) ((clAmid n m rows i).getD m [])) else clAmid n m rows i) p q = _
    by_cases c : bitT (clAmid n m rows i) i m = true
    · rw [if_pos c, bitT_set s2 (by omega)]
      by_cases d : p = i
      · subst d
        rw [if_pos rfl, orRow_at hq, if_pos (Nat.lt_succ_self p)]
        show (bitT (clAmid n m rows p) p q || bitT (clAmid n m rows p) m q) = _
        rw [em, ih p hp q hq, if_neg (Nat.lt_irrefl p), ← e1, c, Bool.true_and]
      · rw [if_neg d, ih p hp q hq]
        by_cases l : p < i
        · rw [if_pos l, if_pos (by omega)]
        · rw [if_neg l, if_neg (by omega)]
    · rw [if_neg c, ih p hp q hq]
      by_cases d : p = i
      · subst d
        rw [if_neg (Nat.lt_irrefl p), if_pos (Nat.lt_succ_self p), ← e1, Bool.eq_false_iff.mpr c, Bool.false_and, Bool.or_false]
      · by_cases l : p < i
        · rw [if_pos l, if_pos (by omega)]
        · rw [if_neg l, if_neg (by omega)]
/-- a relation goes on behind itself -/
def Tra (n : Nat) (R : Nat → Nat → Prop) : Prop := ∀ p a q, p < n → a < n → q < n → R p a → R a q → R p q
structure ClOk (n k : Nat) (f g : Tb) : Prop where
  has : ∀ p q, p < n → q < n → f p q = true → g p q = true
  low : ∀ R : Nat → Nat → Prop, Tra n R → (∀ p q, p < n → q < n → f p q = true → R p q) → ∀ p q, p < n → q < n → g p q = true → R p q
  tra : ∀ p a q, p < n → a < k → q < n → g p a = true → g a q = true → g p q = true
theorem clAll_ok {n : Nat} {f : Tb} : ∀ k, k ≤ n → ClOk n k f (bitT (clAll n (tabF n f) k))
  | 0, _ => ⟨fun p q hp hq h => by rw [show clAll n (tabF n f) 0 = tabF n f from rfl, bit_tabF hp hq]; exact h, fun R _ h p q hp hq g => h p q hp hq (by rw [show clAll n (tabF n f) 0 = tabF n f from rfl, bit_tabF hp hq] at g; exact g), fun p a q _ ha => absurd ha (Nat.not_lt_zero a)⟩
  | k + 1, hk => by
    obtain ⟨h1, h2, h3⟩ := clAll_ok (n := n) (f := f) k (by omega)
    have s := clAll_sq (n := n) (rows := tabF n f) sq_tabF k
    have b : ∀ p, p < n → ∀ q, q < n → (bitT (clAll n (tabF n f) (k + 1)) p q = true ↔ bitT (clAll n (tabF n f) k) p q = true ∨ (bitT (clAll n (tabF n f) k) p k = true ∧ bitT (clAll n (tabF n f) k) k q = true)) := fun p hp q hq => by
      rw [clAll_succ, clAmid_bit s (by omega) n (Nat.le_refl n) p hp q hq, if_pos hp, Bool.or_eq_true, Bool.and_eq_true]
    generalize bitT (clAll n (tabF n f) (k + 1)) = g' at b
    generalize bitT (clAll n (tabF n f) k) = g at h1 h2 h3 b
    refine ⟨fun p q hp hq h => (b p hp q hq).mpr (.inl (h1 p q hp hq h)), fun R tr hf p q hp hq h => ?_, fun p a q hp ha hq x y => ?_⟩
    · rcases (b p hp q hq).mp h with z | ⟨z1, z2⟩
      · exact h2 R tr hf p q hp hq z
      · exact tr p k q hp (by omega) hq (h2 R tr hf p k hp (by omega) z1) (h2 R tr hf k q (by omega) hq z2)
    · have x := (b p hp a (by omega)).mp x
      have y := (b a (by omega) q hq).mp y
      refine (b p hp q hq).mpr ?_
      by_cases e : a = k
      · subst e
        have x' : g p a = true := x.elim id fun z => z.1
        have y' : g a q = true := y.elim id fun z => z.2
        exact .inr ⟨x', y'⟩
      · have ha' : a < k := by omega
        rcases x with x | ⟨x1, x2⟩
        · rcases y with y | ⟨y1, y2⟩
          · exact .inl (h3 p a q hp ha' hq x y)
          · exact .inr ⟨h3 p a k hp ha' (by omega) x y1, y2⟩
        · rcases y with y | ⟨y1, y2⟩
          · exact .inr ⟨x1, h3 k a q (by omega) ha' hq x2 y⟩
          · exact .inr ⟨x1, y2⟩
theorem clF_ok {n : Nat} {f : Tb} : ClOk n n f (clF n f) := clAll_ok n (Nat.le_refl n)
theorem compF_iff {n p q : Nat} {f g : Tb} : compF n f g p q = true ↔ ∃ a, a < n ∧ f p a = true ∧ g a q = true := by
  unfold compF
  rw [List.any_eq_true]
  constructor
  · rintro ⟨a, h1, h2⟩
    exact ⟨a, List.mem_range.mp h1, Bool.and_eq_true_iff.mp h2⟩
  · rintro ⟨a, h1, h2⟩
    exact ⟨a, List.mem_range.mpr h1, Bool.and_eq_true_iff.mpr h2⟩
theorem rbF_iff {n q : Nat} {f : Nat → Bool} {T : Tb} : rbF n f T q = true ↔ ∃ a, a < n ∧ f a = true ∧ T a q = true := by
  unfold rbF
  rw [List.any_eq_true]
  constructor
  · rintro ⟨a, h1, h2⟩
    exact ⟨a, List.mem_range.mp h1, Bool.and_eq_true_iff.mp h2⟩
  · rintro ⟨a, h1, h2⟩
    exact ⟨a, List.mem_range.mpr h1, Bool.and_eq_true_iff.mpr h2⟩
theorem stepF_iff {h : House} {D : List Dd} {p q : Nat} : stepF h D p q = true ↔ ∃ v ∈ h.ways, v.room = p ∧ v.other = q ∧ v.deed ∈ D := by
  unfold stepF
  rw [List.any_eq_true]
  constructor
  · rintro ⟨v, h1, h2⟩
    rw [Bool.and_eq_true, Bool.and_eq_true] at h2
    exact ⟨v, h1, of_decide_eq_true h2.1.1, of_decide_eq_true h2.1.2, of_decide_eq_true h2.2⟩
  · rintro ⟨v, h1, h2, h3, h4⟩
    exact ⟨v, h1, by rw [decide_eq_true h2, decide_eq_true h3, decide_eq_true h4]; rfl⟩
theorem orF_iff {f g : Tb} {p q : Nat} : orF f g p q = true ↔ f p q = true ∨ g p q = true := Bool.or_eq_true_iff
theorem hillF_iff {h : House} {f : Tb} {p q : Nat} : hillF h f p q = true ↔ ∃ a b, a < h.many ∧ b < h.many ∧ stepF h [.up] p a = true ∧ f a b = true ∧ stepF h [.down] b q = true := by
  unfold hillF
  rw [compF_iff]
  constructor
  · rintro ⟨b, hb, h1, h2⟩
    obtain ⟨a, ha, h3, h4⟩ := compF_iff.mp h1
    exact ⟨a, b, ha, hb, h3, h4, h2⟩
  · rintro ⟨a, b, ha, hb, h1, h2, h3⟩
    exact ⟨b, hb, compF_iff.mpr ⟨a, ha, h1, h2⟩, h3⟩
/-! ### walks -/
def St (h : House) (s t : Pl) : Prop := ∃ v ∈ h.ways, v.room = s.1 ∧ v.deed.opn s.2 = true ∧ t = (v.other, v.deed.num s.2)
theorem st_bh {h : House} {s t : Pl} : St h s t ↔ ∃ k, bh h s k = some t := by
  constructor
  · rintro ⟨v, hv, h1, h2, rfl⟩
    obtain ⟨k, hk⟩ := List.mem_iff_getElem?.mp hv
    refine ⟨k, ?_⟩
    unfold bh
    rw [hk]
    exact if_pos ⟨h1, h2⟩
  · rintro ⟨k, hk⟩
    unfold bh at hk
    cases c : h.ways[k]? with
    | none => rw [c] at hk; cases hk
    | some v =>
      rw [c] at hk
      have hk' : (if v.room = s.1 ∧ v.deed.opn s.2 = true then some (v.other, v.deed.num s.2) else none) = some t := hk
      by_cases d : v.room = s.1 ∧ v.deed.opn s.2 = true
      · rw [if_pos d] at hk'
        exact ⟨v, List.mem_of_getElem? c, d.1, d.2, (Option.some.inj hk').symm⟩
      · rw [if_neg d] at hk'
        cases hk'
inductive RT (h : House) (top : Nat) : Pl → Pl → Prop where
  | refl (s : Pl) : RT h top s s
  | tail {s t u : Pl} : RT h top s t → St h t u → u.2 ≤ top → RT h top s u
theorem RT.trans {h : House} {top : Nat} {s t u : Pl} (a : RT h top s t) (b : RT h top t u) : RT h top s u := by
  induction b with
  | refl => exact a
  | tail _ st le ih => exact .tail ih st le
theorem RT.one {h : House} {top : Nat} {s t : Pl} (st : St h s t) (le : t.2 ≤ top) : RT h top s t := .tail (.refl s) st le
theorem st_up {h : House} {p q x : Nat} (s : stepF h [.up] p q = true) : St h (p, x) (q, x + 1) := by
  obtain ⟨v, hv, h1, h2, h3⟩ := stepF_iff.mp s
  have h3 := List.mem_singleton.mp h3
  exact ⟨v, hv, h1, by rw [h3]; rfl, by rw [h3, h2]; rfl⟩
theorem st_down {h : House} {p q x : Nat} (s : stepF h [.down] p q = true) : St h (p, x + 1) (q, x) := by
  obtain ⟨v, hv, h1, h2, h3⟩ := stepF_iff.mp s
  have h3 := List.mem_singleton.mp h3
  exact ⟨v, hv, h1, by rw [h3]; exact decide_eq_true (Nat.succ_pos x), by rw [h3, h2]; rfl⟩
theorem st_stay {h : House} {p q x : Nat} (s : stepF h [.stay] p q = true) : St h (p, x) (q, x) := by
  obtain ⟨v, hv, h1, h2, h3⟩ := stepF_iff.mp s
  have h3 := List.mem_singleton.mp h3
  exact ⟨v, hv, h1, by rw [h3]; rfl, by rw [h3, h2]; rfl⟩
theorem st_ground {h : House} {p q : Nat} (s : stepF h [.stay, .zero] p q = true) : St h (p, 0) (q, 0) := by
  obtain ⟨v, hv, h1, h2, h3⟩ := stepF_iff.mp s
  rcases List.mem_cons.mp h3 with h3 | h3
  · exact ⟨v, hv, h1, by rw [h3]; rfl, by rw [h3, h2]; rfl⟩
  · have h3 := List.mem_singleton.mp h3
    exact ⟨v, hv, h1, by rw [h3]; rfl, by rw [h3, h2]; rfl⟩
/-- a kept walk of this height, from any number on -/
def Kp (h : House) (H p q : Nat) : Prop := ∀ x top, x + H ≤ top → RT h top (p, x) (q, x)
theorem kp_tra {h : House} {n H : Nat} : Tra n (Kp h H) := fun p a q _ _ _ h1 h2 x top ht => (h1 x top ht).trans (h2 x top ht)
theorem kp_up {h : House} {H p q : Nat} (k : Kp h H p q) : Kp h (H + 1) p q := fun x top ht => k x top (by omega)
theorem kp_hill {h : House} {H p a b q : Nat} (u : stepF h [.up] p a = true) (k : Kp h H a b) (d : stepF h [.down] b q = true) : Kp h (H + 1) p q := fun x top ht =>
  ((RT.one (st_up u) (by show x + 1 ≤ top; omega)).trans (k (x + 1) top (by omega))).tail (st_down d) (by show x ≤ top; omega)
theorem kIt_sound {h : House} : ∀ i p q, p < h.many → q < h.many → kIt h i p q = true → Kp h i p q
  | 0, p, q, hp, hq, e => (clF_ok (n := h.many) (f := orF idF (stepF h [.stay]))).low (Kp h 0) kp_tra (fun p q hp hq z => by
      rcases orF_iff.mp z with z | z
      · have e : p = q := of_decide_eq_true z
        subst e
        exact fun x top _ => .refl _
      · exact fun x top ht => .one (st_stay z) (by show x ≤ top; omega)) p q hp hq e
  | i + 1, p, q, hp, hq, e => (clF_ok (n := h.many) (f := orF (kIt h i) (hillF h (kIt h i)))).low (Kp h (i + 1)) kp_tra (fun p q hp hq z => by
      rcases orF_iff.mp z with z | z
      · exact kp_up (kIt_sound i p q hp hq z)
      · obtain ⟨a, b, ha, hb, z1, z2, z3⟩ := hillF_iff.mp z
        exact kp_hill z1 (kIt_sound i a b ha hb z2) z3) p q hp hq e
theorem ground_sound {h : House} {k : Tb} {m : Nat} (hk : ∀ p q, p < h.many → q < h.many → k p q = true → Kp h m p q) {p q : Nat} (hp : p < h.many) (hq : q < h.many) (e : groundF h k p q = true) {top : Nat} (ht : m + 1 ≤ top) : RT h top (p, 0) (q, 0) :=
  (clF_ok (n := h.many) (f := orF (orF idF (stepF h [.stay, .zero])) (hillF h k))).low (fun p q => RT h top (p, 0) (q, 0)) (fun _ _ _ _ _ _ h1 h2 => h1.trans h2) (fun p q hp hq z => by
    rcases orF_iff.mp z with z | z
    · rcases orF_iff.mp z with z | z
      · have e : p = q := of_decide_eq_true z
        subst e
        exact .refl _
      · exact .one (st_ground z) (Nat.zero_le _)
    · obtain ⟨a, b, ha, hb, z1, z2, z3⟩ := hillF_iff.mp z
      exact kp_hill z1 (hk a b ha hb z2) z3 0 top (by omega)) p q hp hq e
theorem fall_iff {h : House} {k : Tb} {p q : Nat} : fallF h k p q = true ↔ ∃ a, a < h.many ∧ k p a = true ∧ stepF h [.down] a q = true := compF_iff
theorem rise_iff {h : House} {k : Tb} {p q : Nat} : riseF h k p q = true ↔ ∃ a, a < h.many ∧ stepF h [.up] p a = true ∧ k a q = true := compF_iff
theorem fir_sound {h : House} {k : Tb} {m p0 c : Nat} (hk : ∀ p q, p < h.many → q < h.many → k p q = true → Kp h m p q) {top : Nat} (ht : c + m ≤ top) : ∀ j, j ≤ c → ∀ q, q < h.many → firF h k p0 j q = true → RT h top (p0, c) (q, c - j)
  | 0, _, q, _, e => by
    have e' : q = p0 := of_decide_eq_true e
    subst e'
    exact .refl _
  | j + 1, hj, q, hq, e => by
    obtain ⟨a, ha, e1, e2⟩ := rbF_iff.mp e
    obtain ⟨b, hb, e3, e4⟩ := fall_iff.mp e2
    have w := fir_sound hk ht j (by omega) a ha e1
    have w2 := w.trans (hk a b ha hb e3 (c - j) top (by omega))
    have e : c - j = (c - (j + 1)) + 1 := by omega
    rw [e] at w2
    exact w2.tail (st_down e4) (by show c - (j + 1) ≤ top; omega)
theorem rows_sound {h : House} {k : Tb} {m p0 c : Nat} (hk : ∀ p q, p < h.many → q < h.many → k p q = true → Kp h m p q) : ∀ l q, q < h.many → rowsF h k p0 c l q = true → ∀ top, max c l + m + 1 ≤ top → RT h top (p0, c) (q, l)
  | 0, q, hq, e, top, ht => by
    obtain ⟨a, ha, e1, e2⟩ := rbF_iff.mp e
    have w := fir_sound (c := c) hk (top := top) (by omega) c (Nat.le_refl c) a ha e1
    rw [Nat.sub_self] at w
    exact w.trans (ground_sound hk ha hq e2 (by omega))
  | l + 1, q, hq, e, top, ht => by
    have t1 : c ≤ max c (l + 1) := Nat.le_max_left _ _
    have t2 : l + 1 ≤ max c (l + 1) := Nat.le_max_right _ _
    have t3 : max c l ≤ max c (l + 1) := Nat.max_le.mpr ⟨t1, by omega⟩
    have up : rbF h.many (rowsF h k p0 c l) (riseF h k) q = true → RT h top (p0, c) (q, l + 1) := fun e => by
      obtain ⟨a, ha, e1, e2⟩ := rbF_iff.mp e
      obtain ⟨b, hb, e3, e4⟩ := rise_iff.mp e2
      have w := rows_sound hk l a ha e1 top (by omega)
      exact (w.tail (st_up e3) (by show l + 1 ≤ top; omega)).trans (hk b q hb hq e4 (l + 1) top (by omega))
    have e' : (if l + 1 ≤ c then fun q => rbF h.many (firF h k p0 (c - (l + 1))) k q || rbF h.many (rowsF h k p0 c l) (riseF h k) q else rbF h.many (rowsF h k p0 c l) (riseF h k)) q = true := e
    by_cases d : l + 1 ≤ c
    · rw [if_pos d] at e'
      rcases Bool.or_eq_true_iff.mp e' with z | z
      · obtain ⟨a, ha, e1, e2⟩ := rbF_iff.mp z
        have w := fir_sound (c := c) hk (top := top) (by omega) (c - (l + 1)) (by omega) a ha e1
        rw [show c - (c - (l + 1)) = l + 1 by omega] at w
        exact w.trans (hk a q ha hq e2 (l + 1) top (by omega))
      · exact up z
    · rw [if_neg d] at e'
      exact up e'
/-! ### what no way leaves -/
structure KOk (h : House) (k : Tb) : Prop where
  id : ∀ p, p < h.many → k p p = true
  stay : ∀ p q, p < h.many → q < h.many → stepF h [.stay] p q = true → k p q = true
  tra : ∀ p a q, p < h.many → a < h.many → q < h.many → k p a = true → k a q = true → k p q = true
  hill : ∀ p q, p < h.many → q < h.many → hillF h k p q = true → k p q = true
theorem kIt_up {h : House} {i p q : Nat} (hp : p < h.many) (hq : q < h.many) (e : kIt h i p q = true) : kIt h (i + 1) p q = true := clF_ok.has p q hp hq (orF_iff.mpr (.inl e))
theorem kIt_k0 {h : House} {p q : Nat} (hp : p < h.many) (hq : q < h.many) (e : kIt h 0 p q = true) : ∀ i, kIt h i p q = true
  | 0 => e
  | i + 1 => kIt_up hp hq (kIt_k0 hp hq e i)
theorem kept_ok {h : House} {m : Nat} (K : Kept h m) : KOk h (kIt h m) where
  id := fun p hp => kIt_k0 hp hp (clF_ok.has p p hp hp (orF_iff.mpr (.inl (decide_eq_true rfl)))) m
  stay := fun p q hp hq s => kIt_k0 hp hq (clF_ok.has p q hp hq (orF_iff.mpr (.inr s))) m
  tra := fun p a q hp ha hq h1 h2 => by
    cases m with
    | zero => exact clF_ok.tra p a q hp ha hq h1 h2
    | succ m => exact clF_ok.tra p a q hp ha hq h1 h2
  hill := fun p q hp hq e => by
    rw [← K.fix p hp q hq]
    exact clF_ok.has p q hp hq (orF_iff.mpr (.inr e))
section
variable {h : House} {k : Tb} {p0 c : Nat}
theorem rows_zero {q : Nat} : rowsF h k p0 c 0 q = true ↔ ∃ a, a < h.many ∧ firF h k p0 c a = true ∧ groundF h k a q = true := rbF_iff
theorem rows_up {l q : Nat} (e : rbF h.many (rowsF h k p0 c l) (riseF h k) q = true) : rowsF h k p0 c (l + 1) q = true := by
  show (if l + 1 ≤ c then fun q => rbF h.many (firF h k p0 (c - (l + 1))) k q || rbF h.many (rowsF h k p0 c l) (riseF h k) q else rbF h.many (rowsF h k p0 c l) (riseF h k)) q = true
  split
  · exact Bool.or_eq_true_iff.mpr (.inr e)
  · exact e
theorem rows_fir {l q : Nat} (hl : l + 1 ≤ c) (e : rbF h.many (firF h k p0 (c - (l + 1))) k q = true) : rowsF h k p0 c (l + 1) q = true := by
  show (if l + 1 ≤ c then fun q => rbF h.many (firF h k p0 (c - (l + 1))) k q || rbF h.many (rowsF h k p0 c l) (riseF h k) q else rbF h.many (rowsF h k p0 c l) (riseF h k)) q = true
  rw [if_pos hl]
  exact Bool.or_eq_true_iff.mpr (.inl e)
theorem rows_succ {l q : Nat} (e : rowsF h k p0 c (l + 1) q = true) : (l + 1 ≤ c ∧ rbF h.many (firF h k p0 (c - (l + 1))) k q = true) ∨ rbF h.many (rowsF h k p0 c l) (riseF h k) q = true := by
  have e' : (if l + 1 ≤ c then fun q => rbF h.many (firF h k p0 (c - (l + 1))) k q || rbF h.many (rowsF h k p0 c l) (riseF h k) q else rbF h.many (rowsF h k p0 c l) (riseF h k)) q = true := e
  by_cases d : l + 1 ≤ c
  · rw [if_pos d] at e'
    exact (Bool.or_eq_true_iff.mp e').imp (fun z => ⟨d, z⟩) fun z => z
  · rw [if_neg d] at e'
    exact .inr e'
variable (K : KOk h k)
include K
theorem rows_k {l p q : Nat} (hp : p < h.many) (hq : q < h.many) (e : rowsF h k p0 c (l + 1) p = true) (kk : k p q = true) : rowsF h k p0 c (l + 1) q = true := by
  rcases rows_succ e with ⟨hl, z⟩ | z
  · obtain ⟨a, ha, e1, e2⟩ := rbF_iff.mp z
    exact rows_fir hl (rbF_iff.mpr ⟨a, ha, e1, K.tra a p q ha hp hq e2 kk⟩)
  · obtain ⟨a, ha, e1, e2⟩ := rbF_iff.mp z
    obtain ⟨b, hb, e3, e4⟩ := rise_iff.mp e2
    exact rows_up (rbF_iff.mpr ⟨a, ha, e1, rise_iff.mpr ⟨b, hb, e3, K.tra b p q hb hp hq e4 kk⟩⟩)
theorem rows_g {p q : Nat} (hp : p < h.many) (hq : q < h.many) (e : rowsF h k p0 c 0 p = true) (g : groundF h k p q = true) : rowsF h k p0 c 0 q = true := by
  obtain ⟨a, ha, e1, e2⟩ := rows_zero.mp e
  exact rows_zero.mpr ⟨a, ha, e1, clF_ok.tra a p q ha hp hq e2 g⟩
theorem rows_hill {l p q : Nat} (hp : p < h.many) (hq : q < h.many) (e : rowsF h k p0 c l p = true) (g : hillF h k p q = true) : rowsF h k p0 c l q = true := by
  cases l with
  | zero => exact rows_g K hp hq e (clF_ok.has p q hp hq (orF_iff.mpr (.inr g)))
  | succ l => exact rows_k K hp hq e (K.hill p q hp hq g)
theorem rows_of_fir {l q : Nat} (hl : l ≤ c) (hq : q < h.many) (e : firF h k p0 (c - l) q = true) : rowsF h k p0 c l q = true := by
  cases l with
  | zero => exact rows_zero.mpr ⟨q, hq, e, clF_ok.has q q hq hq (orF_iff.mpr (.inl (orF_iff.mpr (.inl (decide_eq_true rfl)))))⟩
  | succ l => exact rows_fir hl (rbF_iff.mpr ⟨q, hq, e, K.id q hq⟩)
theorem rows_start (hp : p0 < h.many) : rowsF h k p0 c c p0 = true := rows_of_fir K (Nat.le_refl c) hp (by rw [Nat.sub_self]; exact decide_eq_true rfl)
theorem rows_down {l p q : Nat} (hp : p < h.many) (hq : q < h.many) (e : rowsF h k p0 c (l + 1) p = true) (d : stepF h [.down] p q = true) : rowsF h k p0 c l q = true := by
  rcases rows_succ e with ⟨hl, z⟩ | z
  · obtain ⟨a, ha, e1, e2⟩ := rbF_iff.mp z
    refine rows_of_fir K (by omega) hq ?_
    rw [show c - l = c - (l + 1) + 1 by omega]
    exact rbF_iff.mpr ⟨a, ha, e1, fall_iff.mpr ⟨p, hp, e2, d⟩⟩
  · obtain ⟨a, ha, e1, e2⟩ := rbF_iff.mp z
    obtain ⟨b, hb, e3, e4⟩ := rise_iff.mp e2
    exact rows_hill K ha hq e1 (hillF_iff.mpr ⟨b, p, hb, hp, e3, e4, d⟩)
/-- no way leaves the rows -/
theorem rows_closed (gd : Good h) {v : Way} (hv : v ∈ h.ways) {x : Nat} (ho : v.deed.opn x = true) (e : rowsF h k p0 c x v.room = true) : rowsF h k p0 c (v.deed.num x) v.other = true := by
  have hr := gd.room v hv
  have hq := gd.other v hv
  have st : ∀ D : List Dd, v.deed ∈ D → stepF h D v.room v.other = true := fun D hD => stepF_iff.mpr ⟨v, hv, rfl, rfl, hD⟩
  cases d : v.deed with
  | up =>
    rw [d] at st
    exact rows_up (rbF_iff.mpr ⟨v.room, hr, e, rise_iff.mpr ⟨v.other, hq, st [.up] (by simp), K.id _ hq⟩⟩)
  | down =>
    rw [d] at st ho
    have hx : 0 < x := of_decide_eq_true ho
    obtain ⟨y, rfl⟩ : ∃ y, x = y + 1 := ⟨x - 1, by omega⟩
    exact rows_down K hr hq e (st [.down] (by simp))
  | stay =>
    rw [d] at st
    show rowsF h k p0 c x v.other = true
    cases x with
    | zero => exact rows_g K hr hq e (clF_ok.has _ _ hr hq (orF_iff.mpr (.inl (orF_iff.mpr (.inr (st [.stay, .zero] (by simp)))))))
    | succ x => exact rows_k K hr hq e (K.stay _ _ hr hq (st [.stay] (by simp)))
  | zero =>
    rw [d] at st ho
    have hx : x = 0 := of_decide_eq_true ho
    subst hx
    exact rows_g K hr hq e (clF_ok.has _ _ hr hq (orF_iff.mpr (.inl (orF_iff.mpr (.inr (st [.stay, .zero] (by simp)))))))
end
end Sr
set_option Elab.async false
set_option linter.all false
set_option maxRecDepth 100000
set_option maxHeartbeats 2000000
set_option autoImplicit false
/-! What the law asks of a house and a place, all in one. -/
namespace Sr
open PySem L2
/-! ### keeps ends -/
theorem count_lt {α : Type} {f g : α → Bool} : ∀ {l : List α}, (∀ x ∈ l, f x = true → g x = true) → (∃ x ∈ l, f x = false ∧ g x = true) → l.countP f < l.countP g
  | [], _, h => by
    obtain ⟨x, hx, _⟩ := h
    cases hx
  | a :: l, h, hx => by
    have le : ∀ {l : List α}, (∀ x ∈ l, f x = true → g x = true) → l.countP f ≤ l.countP g := fun {l} h => List.countP_mono_left h
    have ht : ∀ x ∈ l, f x = true → g x = true := fun x hx => h x (List.mem_cons_of_mem _ hx)
    have ha := h a List.mem_cons_self
    obtain ⟨x, hxm, x1, x2⟩ := hx
    rw [List.countP_cons, List.countP_cons]
    rcases List.mem_cons.mp hxm with e | e
    · subst e
      rw [x1, x2]
      have q := le ht
      simp
      omega
    · have q := count_lt ht ⟨x, e, x1, x2⟩
      cases c : f a with
      | true => rw [ha c]; simp; omega
      | false =>
        cases g a with
        | true => simp; omega
        | false => simp; omega
def cells (n : Nat) : List (Nat × Nat) := (List.range n).flatMap fun p => (List.range n).map fun q => (p, q)
theorem mem_cells {n : Nat} {c : Nat × Nat} : c ∈ cells n ↔ c.1 < n ∧ c.2 < n := by
  unfold cells
  rw [List.mem_flatMap]
  constructor
  · rintro ⟨p, hp, hc⟩
    obtain ⟨q, hq, rfl⟩ := List.mem_map.mp hc
    exact ⟨List.mem_range.mp hp, List.mem_range.mp hq⟩
  · rintro ⟨h1, h2⟩
    exact ⟨c.1, List.mem_range.mpr h1, List.mem_map.mpr ⟨c.2, List.mem_range.mpr h2, rfl⟩⟩
theorem cells_len {n : Nat} : (cells n).length = n * n := by
  unfold cells
  have g : ∀ m, ((List.range m).flatMap fun p => (List.range n).map fun q => (p, q)).length = m * n := by
    intro m
    induction m with
    | zero => rw [Nat.zero_mul]; rfl
    | succ m ih =>
      rw [List.range_succ, List.flatMap_append, List.length_append, ih, Nat.succ_mul]
      simp
  exact g n
def cntT (n : Nat) (f : Tb) : Nat := (cells n).countP fun c => f c.1 c.2
theorem kept_some {h : House} (gd : Good h) : ∃ m, Kept h m ∧ m + 1 ≤ h.many * h.many := by
  have n1 := gd.pos
  have n2 := gd.few
  have nn : h.many * h.many ≤ 12 * 12 := Nat.mul_le_mul n2 n2
  have grow : ∀ i, ¬ eqTo h.many (kIt h (i + 1)) (kIt h i) → cntT h.many (kIt h i) < cntT h.many (kIt h (i + 1)) := fun i ne => by
    refine count_lt (fun c hc e => ?_) ?_
    · obtain ⟨c1, c2⟩ := mem_cells.mp hc
      exact kIt_up c1 c2 e
    · refine Decidable.byContradiction fun no => ne fun p hp q hq => ?_
      by_cases c : kIt h i p q = true
      · rw [c, kIt_up hp hq c]
      · have c' := Bool.eq_false_iff.mpr c
        rw [c']
        by_cases d : kIt h (i + 1) p q = true
        · exact absurd ⟨(p, q), mem_cells.mpr ⟨hp, hq⟩, c', d⟩ no
        · exact Bool.eq_false_iff.mpr d
  have cap : ∀ i, cntT h.many (kIt h i) ≤ h.many * h.many := fun i => by
    rw [← cells_len]
    exact List.countP_le_length
  have c0 : 1 ≤ cntT h.many (kIt h 0) := by
    refine List.countP_pos_iff.mpr ⟨(0, 0), mem_cells.mpr ⟨by show 0 < h.many; omega, by show 0 < h.many; omega⟩, ?_⟩
    exact clF_ok.has 0 0 (by omega) (by omega) (orF_iff.mpr (.inl (decide_eq_true rfl)))
  have key : ∀ m, (∀ i, i < m → ¬ eqTo h.many (kIt h (i + 1)) (kIt h i)) → m + 1 ≤ cntT h.many (kIt h m) := by
    intro m
    induction m with
    | zero => intro _; exact c0
    | succ m ih =>
      intro hb
      have q1 := ih fun i hi => hb i (by omega)
      have q2 := grow m (hb m (by omega))
      omega
  have find : ∀ m, (∀ i, i < m → ¬ eqTo h.many (kIt h (i + 1)) (kIt h i)) ∨ ∃ k, k < m ∧ eqTo h.many (kIt h (k + 1)) (kIt h k) ∧ ∀ i, i < k → ¬ eqTo h.many (kIt h (i + 1)) (kIt h i) := by
    intro m
    induction m with
    | zero => exact .inl fun i hi => absurd hi (Nat.not_lt_zero i)
    | succ m ih =>
      rcases ih with ih | ⟨k, h1, h2, h3⟩
      · by_cases c : eqTo h.many (kIt h (m + 1)) (kIt h m)
        · exact .inr ⟨m, Nat.lt_succ_self m, c, ih⟩
        · refine .inl fun i hi => ?_
          by_cases e : i = m
          · rw [e]; exact c
          · exact ih i (by omega)
      · exact .inr ⟨k, by omega, h2, h3⟩
  rcases find (h.many * h.many) with z | ⟨k, k1, k2, k3⟩
  · have q1 := key _ z
    have q2 := cap (h.many * h.many)
    omega
  · have q1 := key k k3
    have q2 := cap k
    exact ⟨k, ⟨k2, by omega, k3⟩, by omega⟩
/-! ### the rows come round -/
section
variable {h : House} {k : Tb} {p0 c : Nat}
theorem rows_next {l q : Nat} (hl : c ≤ l) : rowsF h k p0 c (l + 1) q = rbF h.many (rowsF h k p0 c l) (riseF h k) q := by
  show (if l + 1 ≤ c then fun q => rbF h.many (firF h k p0 (c - (l + 1))) k q || rbF h.many (rowsF h k p0 c l) (riseF h k) q else rbF h.many (rowsF h k p0 c l) (riseF h k)) q = _
  rw [if_neg (by omega : ¬ l + 1 ≤ c)]
theorem rbF_congr {n : Nat} {f g : Nat → Bool} {T : Tb} (e : rowsEq n f g) (q : Nat) : rbF n f T q = rbF n g T q := by
  unfold rbF
  rw [Bool.eq_iff_iff, List.any_eq_true, List.any_eq_true]
  constructor
  · rintro ⟨p, hp, z⟩
    exact ⟨p, hp, by rw [← e p (List.mem_range.mp hp)]; exact z⟩
  · rintro ⟨p, hp, z⟩
    exact ⟨p, hp, by rw [e p (List.mem_range.mp hp)]; exact z⟩
theorem rows_shift {a b : Nat} (ha : c ≤ a) (hb : c ≤ b) (e : rowsEq h.many (rowsF h k p0 c a) (rowsF h k p0 c b)) : ∀ i, rowsEq h.many (rowsF h k p0 c (a + i)) (rowsF h k p0 c (b + i))
  | 0 => e
  | i + 1 => fun p hp => by
    show rowsF h k p0 c (a + i + 1) p = rowsF h k p0 c (b + i + 1) p
    rw [rows_next (by omega), rows_next (by omega)]
    exact rbF_congr (rows_shift ha hb e i) p
theorem round_some (gd : Good h) : ∃ b N, Round h.many (rowsF h k p0 c) c b N ∧ N ≤ c + 249 := by
  have n2 := gd.few
  let A : Nat → Nat → Prop := fun u v => u < h.many ∧ v < h.many ∧ riseF h k u v = true
  let M : Nat → Nat → Prop := fun i v => v < h.many ∧ rowsF h k p0 c (c + i) v = true
  have O : Ob.Orb A M h.many := ⟨fun i v m => m.1, fun i u v m a => ⟨a.2.1, by
      show rowsF h k p0 c (c + i + 1) v = true
      rw [rows_next (by omega)]
      exact rbF_iff.mpr ⟨u, m.1, m.2, a.2.2⟩⟩, fun i v m => by
      have z : rowsF h k p0 c (c + i + 1) v = true := m.2
      rw [rows_next (by omega)] at z
      obtain ⟨u, u1, u2, u3⟩ := rbF_iff.mp z
      exact ⟨u, ⟨u1, u2⟩, u1, m.1, u3⟩⟩
  obtain ⟨i, j, hij, hj, e⟩ := O.round n2 fun u v a => ⟨a.2.1, a.1⟩
  have eR : rowsEq h.many (rowsF h k p0 c (c + j)) (rowsF h k p0 c (c + i)) := fun p hp => by
    rw [Bool.eq_iff_iff]
    exact ⟨fun z => ((e p).mpr ⟨hp, z⟩).2, fun z => ((e p).mp ⟨hp, z⟩).2⟩
  have find : ∀ m, (∀ a b, a < b → b < m → ¬ rowsEq h.many (rowsF h k p0 c (c + b)) (rowsF h k p0 c (c + a))) ∨ ∃ a b, a < b ∧ b < m ∧ rowsEq h.many (rowsF h k p0 c (c + b)) (rowsF h k p0 c (c + a)) ∧ ∀ a' b', a' < b' → b' < b → ¬ rowsEq h.many (rowsF h k p0 c (c + b')) (rowsF h k p0 c (c + a')) := by
    intro m
    induction m with
    | zero => exact .inl fun a b _ hb => absurd hb (Nat.not_lt_zero b)
    | succ m ih =>
      rcases ih with ih | ⟨a, b, h1, h2, h3⟩
      · by_cases d : ∃ a, a < m ∧ rowsEq h.many (rowsF h k p0 c (c + m)) (rowsF h k p0 c (c + a))
        · obtain ⟨a, a1, a2⟩ := d
          exact .inr ⟨a, m, a1, Nat.lt_succ_self m, a2, ih⟩
        · refine .inl fun a b ab hb z => ?_
          by_cases e : b = m
          · subst e
            exact d ⟨a, ab, z⟩
          · exact ih a b ab (by omega) z
      · exact .inr ⟨a, b, h1, by omega, h3⟩
  rcases find (j + 1) with z | ⟨a, b, h1, h2, h3, h4⟩
  · exact absurd eR (z i j hij (Nat.lt_succ_self j))
  · refine ⟨c + a, c + b, ⟨by omega, by omega, h3, fun x y hx hxy hy z => ?_⟩, by omega⟩
    refine h4 (x - c) (y - c) (by omega) (by omega) fun p hp => ?_
    rw [show c + (y - c) = y by omega, show c + (x - c) = x by omega]
    exact (z p hp).symm
theorem round_per {b N q : Nat} (rd : Round h.many (rowsF h k p0 c) c b N) (hq : q < h.many) : Per (fun x => rowsF h k p0 c x q) b (N - b) := fun x hx => by
  have b1 := rd.lo
  have b2 := rd.lt
  have z := rows_shift (by omega) b1 rd.eq (x - b) q hq
  rw [show N + (x - b) = x + (N - b) by omega, show b + (x - b) = x by omega] at z
  exact z
end
/-! ### all that the law asks -/
structure Facts (h : House) (p0 c m b N : Nat) (bs ts : Nat → Nat) : Prop where
  kept : Kept h m
  round : Round h.many (rowsF h (kIt h m) p0 c) c b N
  base : b ≤ 3000
  step : N - b ≤ 840
  last : N ≤ 5000
  stair : ∀ q, q < h.many → IsStep (fun x => rowsF h (kIt h m) p0 c x q) b (N - b) (ts q) ∧ IsBase (fun x => rowsF h (kIt h m) p0 c x q) b (ts q) (bs q)
  per : ∀ q, q < h.many → bs q ≤ 3000 ∧ ts q ≤ 840 ∧ 1 ≤ ts q ∧ Per (fun x => rowsF h (kIt h m) p0 c x q) (bs q) (ts q)
  start : rowsF h (kIt h m) p0 c c p0 = true
  shut : ∀ v ∈ h.ways, ∀ x, v.deed.opn x = true → rowsF h (kIt h m) p0 c x v.room = true → rowsF h (kIt h m) p0 c (v.deed.num x) v.other = true
  met : ∀ (q : Pl) (d : Nat), q.1 < h.many → Done h (p0, c) (max c q.2 + h.many * h.many) d → metE (bfs h (p0, c) (max c q.2 + h.many * h.many) d) q = rowsF h (kIt h m) p0 c q.2 q.1
theorem facts_some {h : House} (gd : Good h) {p0 c : Nat} (hp : p0 < h.many) (hc : c ≤ 1000) : ∃ m b N bs ts, Facts h p0 c m b N bs ts := by
  obtain ⟨m, K, hm⟩ := kept_some gd
  obtain ⟨b, N, rd, hN⟩ := round_some (k := kIt h m) (p0 := p0) (c := c) gd
  have b1 := rd.lo
  have b2 := rd.lt
  have ko := kept_ok K
  have st : ∀ q, ∃ t a, q < h.many → IsStep (fun x => rowsF h (kIt h m) p0 c x q) b (N - b) t ∧ IsBase (fun x => rowsF h (kIt h m) p0 c x q) b t a := fun q => by
    obtain ⟨t, ht⟩ := isStep_some (fun x => rowsF h (kIt h m) p0 c x q) b (s := N - b) (by omega)
    obtain ⟨a, ha⟩ := isBase_some (fun x => rowsF h (kIt h m) p0 c x q) t b
    exact ⟨t, a, fun _ => ⟨ht, ha⟩⟩
  refine ⟨m, b, N, fun q => Classical.choose (Classical.choose_spec (st q)), fun q => Classical.choose (st q), ?_⟩
  have sp : ∀ q, q < h.many → IsStep (fun x => rowsF h (kIt h m) p0 c x q) b (N - b) (Classical.choose (st q)) ∧ IsBase (fun x => rowsF h (kIt h m) p0 c x q) b (Classical.choose (st q)) (Classical.choose (Classical.choose_spec (st q))) := fun q hq => Classical.choose_spec (Classical.choose_spec (st q)) hq
  have shut : ∀ v ∈ h.ways, ∀ x, v.deed.opn x = true → rowsF h (kIt h m) p0 c x v.room = true → rowsF h (kIt h m) p0 c (v.deed.num x) v.other = true := fun v hv x ho e => rows_closed ko gd hv ho e
  have start : rowsF h (kIt h m) p0 c c p0 = true := rows_start ko hp
  refine ⟨K, rd, by omega, by omega, by omega, sp, fun q hq => ?_, start, shut, fun q d hq D => ?_⟩
  · obtain ⟨s1, s2⟩ := sp q hq
    have q1 := s1.pos
    have q2 := s1.le
    have q3 := s2.le
    exact ⟨by omega, by omega, q1, s2.per (s1.per (round_per rd hq))⟩
  · have ht : (p0, c).2 ≤ max c q.2 + h.many * h.many := Nat.le_trans (Nat.le_max_left c q.2) (Nat.le_add_right _ _)
    have I := bfs_inv gd hp ht d
    rw [Bool.eq_iff_iff]
    constructor
    · intro z
      obtain ⟨e, he, eq⟩ := metE_iff.mp z
      have run := I.run e he
      have g : ∀ (b : List Nat) (t : Pl), runR h (p0, c) b = some t → rowsF h (kIt h m) p0 c t.2 t.1 = true := by
        intro b
        induction b with
        | nil =>
          intro t ht
          have e : (p0, c) = t := Option.some.inj ht
          rw [← e]
          exact start
        | cons x b ih =>
          intro t ht
          have ht' : (runR h (p0, c) b).bind (fun q => bh h q x) = some t := ht
          cases r : runR h (p0, c) b with
          | none => rw [r] at ht'; cases ht'
          | some s =>
            rw [r] at ht'
            obtain ⟨v, hv, h1, h2, rfl⟩ := st_bh.mpr ⟨x, ht'⟩
            refine shut v hv s.2 h2 ?_
            rw [h1]
            exact ih s r
      rw [← eq]
      exact g e.back e.pl run
    · intro z
      have w := rows_sound (kIt_sound m) q.2 q.1 hq z (max c q.2 + h.many * h.many) (by omega)
      have g : ∀ t, RT h (max c q.2 + h.many * h.many) (p0, c) t → metE (bfs h (p0, c) (max c q.2 + h.many * h.many) d) t = true := by
        intro t w
        induction w with
        | refl => exact I.start
        | tail _ st le ih =>
          obtain ⟨e, he, eq⟩ := metE_iff.mp ih
          obtain ⟨x, hx⟩ := st_bh.mp st
          rw [← eq] at hx
          exact done_closed gd hp ht D he hx le
      exact g q w
end Sr
set_option Elab.async false
set_option linter.all false
set_option maxRecDepth 100000
set_option maxHeartbeats 3200000
set_option autoImplicit false
/-! len(set(xs)): xs a tuple of fewer than 64 tuples of ints and texts, no two alike. -/
namespace Sr
open PySem PySem.Spec PyProof.Rows L2
section
variable {Pg : Program} {Wd : World} {Ar : Around} {Er : Value → Shared → Prop} {sh : Shared}
/-- the tuple at an address, by its keys -/
abbrev Tk (Pg : Program) (Wd : World) (hp : Heap) (key : List Key) (at_ : Addr) : Prop := IsTupleKey (mixKind Pg Wd) hp key at_
abbrev mh (Pg : Program) (Wd : World) (key : List Key) : Int := tupleKeyHash (mixKind Pg Wd) key
def Flt (v : Value) : Prop := (∃ i t, v = .int i t) ∨ ∃ z t, v = .str z t
theorem flt_items {key : List Key} {vs : List Value} (r : ItemsAre (mixKind Pg Wd) key vs) : ∀ v ∈ vs, Flt v := by
  induction r with
  | nil => exact fun v hv => absurd hv List.not_mem_nil
  | cons one _ ih =>
    refine fun v hv => (List.mem_cons.mp hv).elim (fun e => ?_) (ih v)
    rw [e]
    rcases keyIs_shape one with ⟨i, t, _, z⟩ | ⟨z, t, _, y⟩
    · exact .inl ⟨i, t, z⟩
    · exact .inr ⟨z, t, y⟩
theorem flt_cls (n : Nat) {v : Value} (f : Flt v) : ofAClassStatement n v = pure false := by
  rcases f with ⟨i, t, rfl⟩ | ⟨z, t, rfl⟩ <;> cases n <;> rfl
theorem flt_by (n : Nat) {v : Value} (f : Flt v) : ∃ b, hashByValue n v = pure b := by
  rcases f with ⟨i, t, rfl⟩ | ⟨z, t, rfl⟩
  · exact ⟨true, by cases n <;> rfl⟩
  · exact ⟨false, by cases n <;> rfl⟩
theorem tk_cls {key : List Key} {at_ : Addr} {Po : Bool → Shared → Prop} (tk : Tk Pg Wd sh.heap key at_) (po : Po false sh) : wpAny (model Pg Wd) Ar (ofAClassStatement 8 (.ref at_)) Po Er sh := by
  have ty := tk.typeIs
  obtain ⟨ob, its, n, at1, _, dat, all⟩ := tk
  unfold ofAClassStatement
  refine wpAny_bind (wpAny_typeOf ty ?_)
  dsimp only
  simp only [show (("tuple" : String) == "tuple") = true by decide, if_true, Bool.not_true, Bool.false_eq_true, if_false]
  try refine wpAny_bind (wpAny_pure ?_)
  try simp only [Bool.not_true, Bool.false_eq_true, if_false]
  show wpAny _ _ (seqItems? (Value.ref at_) >>= _) _ _ sh
  refine wpAny_bind (wpAny_seqItems at1 dat ?_)
  dsimp only
  refine wpAny_bind ?_
  show wpAny _ _ (forIn its _ _) _ _ sh
  rw [← Array.forIn_toList]
  refine wpAny_forIn_list _ (fun more got now => got.1 = none ∧ now = sh ∧ ∀ v ∈ more, Flt v) _ (fun v more got now ⟨g, e, fl⟩ => ?_) (fun got now ⟨g, e, _⟩ => ?_) _ _ ⟨rfl, rfl, flt_items all⟩
  · subst e
    rw [flt_cls _ (fl v List.mem_cons_self)]
    refine wpAny_bind (wpAny_pure ?_)
    simp only [Bool.false_eq_true, if_false]
    exact wpAny_pure ⟨rfl, rfl, fun u hu => fl u (List.mem_cons_of_mem _ hu)⟩
  · obtain ⟨g1, g2⟩ := got
    subst e
    have g' : g1 = none := g
    subst g'
    exact wpAny_pure po
theorem tk_by {key : List Key} {at_ : Addr} {Po : Bool → Shared → Prop} (tk : Tk Pg Wd sh.heap key at_) (po : ∀ b, Po b sh) : wpAny (model Pg Wd) Ar (hashByValue 8 (.ref at_)) Po Er sh := by
  have ty := tk.typeIs
  obtain ⟨ob, its, n, at1, _, dat, all⟩ := tk
  unfold hashByValue
  refine wpAny_bind (wpAny_specialOf ty F.slot_tuple_hash.lookup ?_)
  show wpAny _ _ (seqItems? (Value.ref at_) >>= _) _ _ sh
  refine wpAny_bind (wpAny_seqItems at1 dat ?_)
  refine wpAny_bind ?_
  show wpAny _ _ (forIn its _ _) _ _ sh
  rw [← Array.forIn_toList]
  refine wpAny_forIn_list _ (fun more got now => got.1 = none ∧ now = sh ∧ ∀ v ∈ more, Flt v) _ (fun v more got now ⟨g, e, fl⟩ => ?_) (fun got now ⟨g, e, _⟩ => ?_) _ _ ⟨rfl, rfl, flt_items all⟩
  · subst e
    obtain ⟨b, eb⟩ := flt_by 7 (fl v List.mem_cons_self)
    rw [eb]
    refine wpAny_bind (wpAny_pure ?_)
    cases b with
    | true =>
      simp only [Bool.not_true, Bool.false_eq_true, if_false]
      exact wpAny_pure ⟨rfl, rfl, fun u hu => fl u (List.mem_cons_of_mem _ hu)⟩
    | false =>
      simp only [Bool.not_false, if_true]
      exact wpAny_pure (wpAny_pure (po false))
  · obtain ⟨g1, g2⟩ := got
    subst e
    have g' : g1 = none := g
    subst g'
    exact wpAny_pure (po true)
theorem tk_seen {key : List Key} {at_ : Addr} {Po : Bool → Shared → Prop} (tk : Tk Pg Wd sh.heap key at_) {ys : List Value} (oth : ∀ y ∈ ys, ∃ key' b, y = .ref b ∧ Tk Pg Wd sh.heap key' b) (po : Po false sh) : wpAny (model Pg Wd) Ar (searchCouldBeSeen (.ref at_) ys) Po Er sh := by
  unfold searchCouldBeSeen
  refine wpAny_bind ?_
  refine wpAny_forIn_list _ (fun more got now => got.1 = none ∧ now = sh ∧ ∀ y ∈ more, ∃ key' b, y = Value.ref b ∧ Tk Pg Wd sh.heap key' b) _ (fun y more got now ⟨g, e, fl⟩ => ?_) (fun got now ⟨g, e, _⟩ => ?_) _ _ ⟨rfl, rfl, oth⟩
  · subst e
    obtain ⟨key', b, rfl, tk'⟩ := fl y List.mem_cons_self
    have fl' : ∀ u ∈ more, ∃ key' b, u = Value.ref b ∧ Tk Pg Wd now.heap key' b := fun u hu => fl u (List.mem_cons_of_mem _ hu)
    dsimp only
    by_cases same : (at_ == b || (carriedByValue (.ref at_) && carriedByValue (.ref b))) = true
    · exact wp_if_pos same (wpAny_pure ⟨rfl, rfl, fl'⟩)
    · refine wp_if_neg same (wpAny_bind (wpAny_eqIsQuiet_tuple tk ?_))
      simp only [Bool.not_true, Bool.false_eq_true, if_false]
      refine wpAny_bind (wpAny_eqIsQuiet_tuple tk' ?_)
      simp only [Bool.not_true, Bool.false_eq_true, if_false]
      refine wpAny_bind (tk_cls tk ?_)
      simp only [Bool.false_eq_true, if_false]
      refine wpAny_bind (tk_cls tk' ?_)
      simp only [Bool.false_eq_true, if_false]
      exact wpAny_pure ⟨rfl, rfl, fl'⟩
  · obtain ⟨g1, g2⟩ := got
    subst e
    have g' : g1 = none := g
    subst g'
    exact wpAny_pure po
/-! ### the set -/
abbrev KL := List (Addr × List Key)
def rowsM (Pg : Program) (Wd : World) (ls : KL) : List (Int × Value) := ls.map fun e => (mh Pg Wd e.2, Value.ref e.1)
def hashM (Pg : Program) (Wd : World) (ls : KL) : List Int := ls.map fun e => mh Pg Wd e.2
theorem rowsM_len {ls : KL} : (rowsM Pg Wd ls).length = ls.length := List.length_map ..
theorem hashM_len {ls : KL} : (hashM Pg Wd ls).length = ls.length := List.length_map ..
structure Ms (Pg : Program) (Wd : World) (hp : Heap) (S : Addr) (ls : KL) (rows : Array (Int × Value)) (ep : Nat) (tb : SetTable) : Prop where
  obj : ∃ ob, hp.get? S = some ob ∧ ob.ExactSet ∧ ob.data = .set rows ep tb
  are : rows.toList = rowsM Pg Wd ls
  tab : TabOk tb (hashM Pg Wd ls)
  tks : ∀ e ∈ ls, Tk Pg Wd hp e.2 e.1
  led : Wd.params.followText "set-order" = true ∨ tb.led = true
  room : ls.length * 5 < tb.mask * 3
variable {S : Addr} {ls : KL} {rows : Array (Int × Value)} {ep : Nat} {tb : SetTable}
theorem rows_size (are : rows.toList = rowsM Pg Wd ls) : rows.size = ls.length := by
  rw [← Array.length_toList, are, rowsM_len]
theorem fits_of (dm : tb.dummies = #[]) (sz : tb.place.size = rows.size) (le : rows.size ≤ tb.mask) : tb.fits rows.size = true := by
  unfold SetTable.fits SetTable.fill
  rw [dm, Bool.and_eq_true]
  refine ⟨beq_iff_eq.mpr sz, decide_eq_true ?_⟩
  show tb.place.size + 0 ≤ tb.mask
  omega
theorem Ms.fits (M : Ms Pg Wd sh.heap S ls rows ep tb) : tb.fits rows.size = true := by
  have e1 := M.tab.sz
  rw [hashM_len] at e1
  have e2 := rows_size M.are
  have e3 := M.room
  exact fits_of M.tab.dm (by omega) (by omega)
theorem Ms.row (M : Ms Pg Wd sh.heap S ls rows ep tb) {i : Nat} {e : Addr × List Key} (h : ls[i]? = some e) : rows[i]? = some (mh Pg Wd e.2, Value.ref e.1) := by
  rw [← Array.getElem?_toList, M.are]
  unfold rowsM
  rw [List.getElem?_map, h]
  rfl
abbrev wayP (tb : SetTable) (hs : Int) (c : Nat) : SetTable.Probe := nth tb.mask (runAt tb.mask (SetTable.bits hs % (tb.mask + 1)) (SetTable.bits hs)) c
theorem nth_dummy (m : Nat) : ∀ (n : Nat) (p : SetTable.Probe), p.dummy = none → (nth m p n).dummy = none
  | 0, _, h => h
  | n + 1, p, h => nth_dummy m n (adv m p) (by unfold adv; split <;> exact h)
/-- a new key's search comes to the empty slot -/
theorem find_new (M : Ms Pg Wd sh.heap S ls rows ep tb) {x : Addr} {key : List Key} (tk : Tk Pg Wd sh.heap key x) (un : Ar.units < cLine) (new : ∀ e ∈ ls, e.2 ≠ key) {Z : Nat} (z1 : Z < 10 * SetTable.turns tb.mask)
    (z2 : way tb.mask (mh Pg Wd key) Z ∉ tb.place.toList) (z3 : ∀ c, c < Z → way tb.mask (mh Pg Wd key) c ∈ tb.place.toList) {Po : SetFound → Shared → Prop} (po : Po (.free (way tb.mask (mh Pg Wd key) Z) false) sh) :
    ∀ (fuel c : Nat) (stand : Option SetTable.Probe), stand.getD (tb.probeStart (mh Pg Wd key)) = wayP tb (mh Pg Wd key) c → c ≤ Z → Z - c < fuel → wpAny (model Pg Wd) Ar (setSearchFrom S (.ref x) (mh Pg Wd key) true fuel stand) Po Er sh
  | 0, c, _, _, _, f => absurd f (Nat.not_lt_zero _)
  | fuel + 1, c, stand, st, cz, f => by
    obtain ⟨ob, at1, ex, dat⟩ := M.obj
    have fit := M.fits
    generalize hh : mh Pg Wd key = hs at z2 z3 po st
    rw [setSearchFrom_succ]
    refine wpAny_bind (wpAny_setState_of at1 dat fit ?_)
    dsimp only
    have gw : ¬ tb.gaveWay = true := by
      unfold SetTable.gaveWay
      rw [mask_odd M.tab.mok]
      decide
    refine wp_if_neg gw ?_
    try refine wpAny_bind (wpAny_pure ?_)
    have shift : ∀ q, nth tb.mask (wayP tb hs c) q = wayP tb hs (c + q) := fun q => (nth_add tb.mask c _ q).symm
    have shj : ∀ q, (nth tb.mask (wayP tb hs c) q).j = way tb.mask hs (c + q) := fun q => congrArg SetTable.Probe.j (shift q)
    have spec := go_spec tb M.tab.ris M.tab.dm (fun i => (rows[i]?.map (·.1)).getD 0) hs (10 * SetTable.turns tb.mask) (Z - c) (wayP tb hs c) (nth_dummy _ _ _ rfl) (by omega)
      (fun q hq => by rw [shj]; exact z3 (c + q) (by omega)) (by rw [shj, show c + (Z - c) = Z by omega]; exact z2)
    rcases spec with ⟨q, i, q1, q2, _, _, q5⟩ | ⟨_, q5⟩
    · have pr : tb.probe (fun i => (rows[i]?.map (·.1)).getD 0) hs (stand.getD (tb.probeStart hs)) = some (.candidate (way tb.mask hs (c + q)) i (wayP tb hs (c + (q + 1)))) := by
        rw [st, ← shj, ← shift]
        exact q5
      rw [pr]
      dsimp only
      rw [shj] at q2
      have il : i < ls.length := by
        have l1 := (List.getElem?_eq_some_iff.mp q2).1
        have l2 := M.tab.sz
        rw [hashM_len] at l2
        rw [Array.length_toList] at l1
        omega
      have ei : ls[i]? = some ls[i] := List.getElem?_eq_getElem il
      generalize ls[i] = e at ei
      have em := List.mem_of_getElem? ei
      have ne : ¬ (e.2 = key) := new e em
      have cand : wpAny (model Pg Wd) Ar (searchRest S (.ref x) hs true fuel rows tb (way tb.mask hs (c + q)) i (wayP tb hs (c + (q + 1)))) Po Er sh := by
        unfold searchRest
        rw [M.row ei]
        dsimp only
        refine wpAny_bind (wpAny_holding (wpAny_eqBool_tuple un (M.tks e em) tk ?_))
        refine wpAny_bind (wpAny_setState_of at1 dat fit ?_)
        dsimp only
        refine wp_if_neg (by simp [ne]) ?_
        try refine wpAny_bind (wpAny_pure ?_)
        rw [sameMem]
        dsimp only
        simp only [if_true, slot_live M.tab.ris q2, M.row ei]
        refine wpAny_bind (wpAny_isSame_ref_self (wpAny_bind (wpAny_pure ?_)))
        simp only [if_true]
        refine wp_if_neg (by simp [ne]) ?_
        have again := find_new M tk un new z1 (hh ▸ z2) (hh ▸ z3) (hh ▸ po) fuel (c + (q + 1)) (some (wayP tb hs (c + (q + 1)))) (by rw [hh]; rfl) (by omega) (by omega)
        rw [hh] at again
        exact again
      by_cases ld : tb.led = true
      · refine wp_if_neg (by simp [ld]) ?_
        try refine wpAny_bind (wpAny_pure ?_)
        exact cand
      · refine wp_if_pos (by simp [ld]) (wpAny_bind (tk_seen tk (fun y hy => ?_) ?_))
        · obtain ⟨g, g1, g2⟩ := List.mem_map.mp hy
          have g3 : g ∈ rows ∧ g.1 = hs := by simpa using g1
          have g4 : g ∈ rows.toList := by simpa using g3.1
          rw [M.are] at g4
          obtain ⟨e', e1, e2⟩ := List.mem_map.mp g4
          exact ⟨e'.2, e'.1, by rw [← g2, ← e2], M.tks e' e1⟩
        · refine wp_if_neg (by decide) ?_
          try refine wpAny_bind (wpAny_pure ?_)
          exact cand
    · have pr : tb.probe (fun i => (rows[i]?.map (·.1)).getD 0) hs (stand.getD (tb.probeStart hs)) = some (.empty (way tb.mask hs Z) none) := by
        have e2 : way tb.mask hs Z = (nth tb.mask (wayP tb hs c) (Z - c)).j := by rw [shj, show c + (Z - c) = Z by omega]
        rw [st, e2]
        exact q5
      rw [pr]
      exact wpAny_pure po
theorem search_new (M : Ms Pg Wd sh.heap S ls rows ep tb) {x : Addr} {key : List Key} (tk : Tk Pg Wd sh.heap key x) (un : Ar.units < cLine) (new : ∀ e ∈ ls, e.2 ≠ key) {Po : SetFound → Shared → Prop}
    (po : ∀ Z, way tb.mask (mh Pg Wd key) Z ∉ tb.place.toList → (∀ c, c < Z → way tb.mask (mh Pg Wd key) c ∈ tb.place.toList) → Po (.free (way tb.mask (mh Pg Wd key) Z) false) sh) :
    wpAny (model Pg Wd) Ar (setSearch S (.ref x) (mh Pg Wd key) true) Po Er sh := by
  have rm := M.room
  obtain ⟨Z, z1, z2, z3⟩ := M.tab.first (by rw [hashM_len]; omega) (mh Pg Wd key)
  have big : Z < 100000 := by
    have : 10 * SetTable.turns tb.mask ≤ 1420 := by
      unfold SetTable.turns
      rcases M.tab.mok with e | e | e <;> omega
    omega
  unfold setSearch
  exact find_new M tk un new z1 z2 z3 (po Z z2 z3) 100000 0 none rfl (Nat.zero_le _) (by omega)
theorem tk_apart {hp hp' : Heap} {key : List Key} {b : Addr} {ob : Obj} (tk : Tk Pg Wd hp key b) (at1 : hp.get? S = some ob) (dat : ob.data = .set rows ep tb) (sb : Heap.SameBut S hp hp') : Tk Pg Wd hp' key b := by
  obtain ⟨ob', its, n, at2, cl, dat2, all⟩ := tk
  refine ⟨ob', its, n, (sb.2 b fun e => ?_).trans at2, cl, dat2, all⟩
  rw [e, at1] at at2
  rw [← Option.some.inj at2, dat] at dat2
  cases dat2
theorem perm_at (ls : KL) (p : Nat) (e : Addr × List Key) : (ls.take p ++ e :: ls.drop p).Perm (e :: ls) := List.perm_middle.trans (by rw [List.take_append_drop])
theorem rowsM_at (ls : KL) (p : Nat) (e : Addr × List Key) : rowsM Pg Wd (ls.take p ++ e :: ls.drop p) = (rowsM Pg Wd ls).take p ++ (mh Pg Wd e.2, Value.ref e.1) :: (rowsM Pg Wd ls).drop p := by
  simp only [rowsM, List.map_append, List.map_cons, List.map_take, List.map_drop]
theorem hashM_at (ls : KL) (p : Nat) (e : Addr × List Key) : hashM Pg Wd (ls.take p ++ e :: ls.drop p) = (hashM Pg Wd ls).take p ++ mh Pg Wd e.2 :: (hashM Pg Wd ls).drop p := by
  simp only [hashM, List.map_append, List.map_cons, List.map_take, List.map_drop]
/-- the rows in another order -/
theorem reorder (ls : KL) (order : List Nat) (pm : order.Perm (List.range ls.length)) (are : rows.toList = rowsM Pg Wd ls) :
    ∃ ls2 : KL, order.filterMap (fun i => rows[i]?) = rowsM Pg Wd ls2 ∧ ls2.Perm ls ∧ hashM Pg Wd ls2 = order.map fun i => (rows.map (·.1)).getD i 0 := by
  have lt : ∀ i ∈ order, i < ls.length := fun i hi => List.mem_range.mp (pm.mem_iff.mp hi)
  have get : ∀ i (h : i < ls.length), rows[i]? = some (mh Pg Wd (ls[i]).2, Value.ref (ls[i]).1) := fun i h => by
    rw [← Array.getElem?_toList, are]
    unfold rowsM
    rw [List.getElem?_map, List.getElem?_eq_getElem h]
    rfl
  have whole : (List.range ls.length).filterMap (fun i => ls[i]?) = ls := by
    have g : ∀ n, n ≤ ls.length → (List.range n).filterMap (fun i => ls[i]?) = ls.take n := by
      intro n
      induction n with
      | zero => exact fun _ => rfl
      | succ n ih =>
        intro hn
        rw [List.range_succ, List.filterMap_append, ih (by omega), List.take_add_one]
        have e := List.getElem?_eq_getElem (show n < ls.length by omega)
        rw [e, List.filterMap_cons_some e]
        rfl
    rw [g _ (Nat.le_refl _), List.take_length]
  refine ⟨order.filterMap fun i => ls[i]?, ?_, ?_, ?_⟩
  · clear pm
    induction order with
    | nil => rfl
    | cons i order ih =>
      have hi := lt i List.mem_cons_self
      rw [List.filterMap_cons_some (get i hi), List.filterMap_cons_some (List.getElem?_eq_getElem hi), ih fun j hj => lt j (List.mem_cons_of_mem _ hj)]
      rfl
  · have z := pm.filterMap fun i => ls[i]?
    rw [whole] at z
    exact z
  · clear pm
    induction order with
    | nil => rfl
    | cons i order ih =>
      have hi := lt i List.mem_cons_self
      have e : (rows.map (·.1)).getD i 0 = mh Pg Wd (ls[i]).2 := by
        have e5 : (rows.map (·.1))[i]? = some (mh Pg Wd (ls[i]).2) := by
          rw [Array.getElem?_map, get i hi]
          rfl
        simp [Array.getD_eq_getD_getElem?, e5]
      have tl := ih fun j hj => lt j (List.mem_cons_of_mem _ hj)
      rw [List.filterMap_cons_some (List.getElem?_eq_getElem hi), List.map_cons, e, ← tl]
      rfl
/-- the table laid anew -/
theorem relay_new {ob : Obj} (at1 : sh.heap.get? S = some ob) (ex : ob.ExactSet) (dat : ob.data = .set rows ep tb) (are : rows.toList = rowsM Pg Wd ls) (sz : tb.place.size = rows.size) (dm : tb.dummies = #[]) (le : rows.size ≤ tb.mask)
    (tks : ∀ e ∈ ls, Tk Pg Wd sh.heap e.2 e.1) (ld : Wd.params.followText "set-order" = true ∨ tb.led = true) {wanted m : Nat}
    (w1 : SetTable.sizeAbove wanted - 1 = m) (w2 : MaskOk m) (w3 : SetTable.sizeAbove wanted ≤ 128) (w4 : ls.length * 5 < m * 3) {Po : Unit → Shared → Prop}
    (po : ∀ hp' ls' rows' ep' tb', Heap.SameBut S sh.heap hp' → Ms Pg Wd hp' S ls' rows' ep' tb' → ls'.Perm ls → Po () { sh with heap := hp' }) : wpAny (model Pg Wd) Ar (setRelay S wanted) Po Er sh := by
  have rs := rows_size are
  have hm : m ≤ 127 := by rcases w2 with e | e | e <;> omega
  obtain ⟨tb', order, e1, e2, T, e4, e5, e6, e7⟩ := relaid_ok tb (hs := rows.map (·.1)) (wanted := wanted) w1 w2 (by rw [Array.size_map, rs]; omega)
  rw [Array.size_map, rs] at e2
  obtain ⟨ls2, r1, r2, r3⟩ := reorder ls order.toList e2 are
  rw [← r3] at T
  have r1' : (order.filterMap (rows[·]?)).toList = rowsM Pg Wd ls2 := by
    first
      | (rw [Array.toList_filterMap]; exact r1)
      | simpa using r1
  have s2 : (order.filterMap (rows[·]?)).size = rows.size := by rw [rows_size r1', r2.length_eq, rs]
  rw [setRelay_eq]
  refine wpAny_bind (wpAny_setState_of at1 dat (fits_of dm sz le) ?_)
  dsimp only
  refine wp_if_neg (show ¬ SetTable.sizeAbove wanted > sizeLine by rw [sizeLine_eq]; omega) ?_
  try refine wpAny_bind (wpAny_pure ?_)
  rw [e1]
  dsimp only
  refine wpAny_bind ?_
  refine wp_if_neg (by simp [s2]) ?_
  try refine wpAny_bind (wpAny_pure ?_)
  refine wpAny_pure ?_
  dsimp only
  have hlow : (order.filterMap (rows[·]?)).size ≤ 127 := by rw [s2, rs]; omega
  refine wpAny_storeSet_of at1 dat ?_ (by rw [sizeLine_eq]; omega)
  have sb : Heap.SameBut S sh.heap (sh.heap.update S (Obj.putSet (order.filterMap (rows[·]?)) tb')) := Heap.SameBut.update ..
  exact po _ ls2 (order.filterMap (rows[·]?)) (ep + 1) tb' sb ⟨⟨_, store_at at1 dat, ⟨ex.1, ex.2.1, ex.2.2⟩, rfl⟩, r1', T, fun e he => tk_apart (tks e (r2.mem_iff.mp he)) at1 dat sb, by rw [e5]; exact ld, by rw [r2.length_eq, e4]; exact w4⟩ r2
theorem TabOk.as {t u : SetTable} {hs : List Int} (T : TabOk t hs) (e1 : u.place = t.place) (e2 : u.dummies = t.dummies) (e3 : u.mask = t.mask) : TabOk u hs := by
  obtain ⟨u1, u2, u3, u4, u5, u6, u7⟩ := u
  obtain ⟨t1, t2, t3, t4, t5, t6, t7⟩ := t
  have e1 : u2 = t2 := e1
  have e2 : u3 = t3 := e2
  have e3 : u1 = t1 := e3
  subst e1 e2 e3
  exact ⟨T.ris, T.dm, T.sz, T.mok, T.bd, T.reach⟩
/-- a new key is added -/
theorem add_new (M : Ms Pg Wd sh.heap S ls rows ep tb) {x : Addr} {key : List Key} (tk : Tk Pg Wd sh.heap key x) (un : Ar.units < cLine) (new : ∀ e ∈ ls, e.2 ≠ key) (few : ls.length + 1 < 64) {Po : Bool → Shared → Prop}
    (po : ∀ hp' ls' rows' ep' tb', Heap.SameBut S sh.heap hp' → Ms Pg Wd hp' S ls' rows' ep' tb' → ls'.Perm ((x, key) :: ls) → Po true { sh with heap := hp' }) :
    wpAny (model Pg Wd) Ar (setAddHashed S (.ref x) (mh Pg Wd key)) Po Er sh := by
  obtain ⟨ob, at1, ex, dat⟩ := M.obj
  have rs := rows_size M.are
  have rm := M.room
  unfold setAddHashed
  refine wpAny_holding ?_
  rw [show (100000 : Nat) = 99999 + 1 from rfl, setAddHashedIn_succ]
  refine wpAny_bind (wpAny_setState_of at1 dat M.fits ?_)
  dsimp only
  refine wp_if_neg (show ¬ byScan (Value.ref x) rows = true by simp [byScan, Value.scannable]) ?_
  try refine wpAny_bind (wpAny_pure ?_)
  refine wpAny_bind (search_new M tk un new fun Z z2 z3 => ?_)
  dsimp only
  refine wpAny_bind (wpAny_setState_of at1 dat M.fits ?_)
  dsimp only
  obtain ⟨p1, p2, p3, p4, p5, _, _, _, p9⟩ := M.tab.put z2 z3
  generalize hput : tb.put (way tb.mask (mh Pg Wd key) Z) = pt at p1 p3 p4 p5 p9 ⊢
  obtain ⟨t1, p⟩ := pt
  dsimp only at p1 p3 p4 p5 p9 ⊢
  subst p1
  have both : ∀ b : Bool, wpAny (model Pg Wd) Ar (do
      storeSet S (SetTable.insertAt rows (SetTable.below tb.place (way tb.mask (mh Pg Wd key) Z)) (mh Pg Wd key, Value.ref x)) (if b = true then t1 else { t1 with plain := false })
      if (!false && (if b = true then t1 else { t1 with plain := false }).tooFull) = true then do
        setRelay S (SetTable.grown (rows.size + 1))
        pure true
      else pure true) Po Er sh := fun b => ?tail
  · by_cases pl : t1.plain = true
    · exact wp_if_pos pl (wpAny_bind (tk_by tk fun b => both b))
    · exact wp_if_neg pl (wpAny_bind (wpAny_pure (both true)))
  have like : ∀ b : Bool, TabOk (if b = true then t1 else { t1 with plain := false }) ((hashM Pg Wd ls).take (SetTable.below tb.place (way tb.mask (mh Pg Wd key) Z)) ++ mh Pg Wd key :: (hashM Pg Wd ls).drop (SetTable.below tb.place (way tb.mask (mh Pg Wd key) Z))) ∧
      (if b = true then t1 else { t1 with plain := false }).mask = tb.mask ∧ (if b = true then t1 else { t1 with plain := false }).led = tb.led ∧ (if b = true then t1 else { t1 with plain := false }).fill = (hashM Pg Wd ls).length + 1 := fun b => by
    cases b with
    | true => exact ⟨p3, p4, p5, p9⟩
    | false => exact ⟨TabOk.as p3 rfl rfl rfl, p4, p5, p9⟩
  obtain ⟨q3, q4, q5, q9⟩ := like b
  generalize (if b = true then t1 else { t1 with plain := false }) = t2 at q3 q4 q5 q9 ⊢
  generalize hpp : SetTable.below tb.place (way tb.mask (mh Pg Wd key) Z) = p at p2 q3 ⊢
  have pm := perm_at ls p (x, key)
  rw [← hashM_at (Pg := Pg) (Wd := Wd) ls p (x, key)] at q3
  have are1 : (SetTable.insertAt rows p (mh Pg Wd key, Value.ref x)).toList = rowsM Pg Wd (ls.take p ++ (x, key) :: ls.drop p) := by
    rw [SetTable.toList_insertAt, M.are, rowsM_at]
  generalize SetTable.insertAt rows p (mh Pg Wd key, Value.ref x) = rows1 at are1 ⊢
  generalize ls.take p ++ (x, key) :: ls.drop p = ls1 at pm q3 are1
  have len1 : ls1.length = ls.length + 1 := pm.length_eq
  have rs1 := rows_size are1
  rw [hashM_len] at q9
  refine wpAny_bind (wpAny_storeSet_of at1 dat ?_ (by rw [rs1, sizeLine_eq]; omega))
  have sb : Heap.SameBut S sh.heap (sh.heap.update S (Obj.putSet rows1 t2)) := Heap.SameBut.update ..
  have at2 := store_at (es' := rows1) (t' := t2) at1 dat
  generalize sh.heap.update S (Obj.putSet rows1 t2) = hp1 at sb at2 ⊢
  have tks1 : ∀ e ∈ ls1, Tk Pg Wd hp1 e.2 e.1 := fun e he => (List.mem_cons.mp (pm.mem_iff.mp he)).elim (fun z => by rw [z]; exact tk_apart tk at1 dat sb) fun z => tk_apart (M.tks e z) at1 dat sb
  have ld1 : Wd.params.followText "set-order" = true ∨ t2.led = true := by rw [q5]; exact M.led
  have sz1 : t2.place.size = rows1.size := by
    have z := q3.sz
    rw [hashM_len] at z
    rw [z, rs1]
  by_cases full : t2.tooFull = true
  · have fl : (ls.length + 1) * 5 ≥ t2.mask * 3 := by
      have z := full
      unfold SetTable.tooFull at z
      rw [decide_eq_true_eq, q9] at z
      exact z
    have two' : (tb.mask = 7 ∧ ls.length = 4) ∨ (tb.mask = 31 ∧ ls.length = 18) := by
      rw [q4] at fl
      rcases M.tab.mok with e | e | e
      · exact .inl ⟨e, by rw [e] at fl rm; omega⟩
      · exact .inr ⟨e, by rw [e] at fl rm; omega⟩
      · rw [e] at fl
        omega
    have go : ∀ m, SetTable.sizeAbove (SetTable.grown (ls.length + 1)) - 1 = m → MaskOk m → SetTable.sizeAbove (SetTable.grown (ls.length + 1)) ≤ 128 → (ls.length + 1) * 5 < m * 3 →
        wpAny (model Pg Wd) Ar (setRelay S (SetTable.grown (ls.length + 1))) (fun _ s' => wpAny (model Pg Wd) Ar (pure true) Po Er s') Er { sh with heap := hp1 } := fun m w1 w2 w3 w4 =>
      relay_new (sh := { sh with heap := hp1 }) at2 ⟨ex.1, ex.2.1, ex.2.2⟩ rfl are1 sz1 q3.dm (by rw [rs1, len1, q4]; rcases two' with ⟨e, e2⟩ | ⟨e, e2⟩ <;> omega) tks1 ld1 w1 w2 w3 (by rw [len1]; exact w4)
        fun hp2 ls2 rows2 ep2 tb2 sb2 M2 pm2 => wpAny_pure (po hp2 ls2 rows2 ep2 tb2 (sb.trans sb2) M2 (pm2.trans pm))
    first
      | refine wpAny_bind (wp_if_pos (by simp [full]) ?_)
      | refine wp_if_pos (by simp [full]) (wpAny_bind ?_)
    rw [rs]
    rcases two' with ⟨_, e2⟩ | ⟨_, e2⟩
    · exact go 31 (by rw [e2, size_20]) (.inr (.inl rfl)) (by rw [e2, size_20]; decide) (by omega)
    · exact go 127 (by rw [e2, size_76]) (.inr (.inr rfl)) (by rw [e2, size_76]; decide) (by omega)
  · have low : ls1.length * 5 < t2.mask * 3 := by
      have z := full
      unfold SetTable.tooFull at z
      rw [decide_eq_true_eq, q9] at z
      rw [len1]
      omega
    have M1 : Ms Pg Wd hp1 S ls1 rows1 (ep + 1) t2 := ⟨⟨_, at2, ⟨ex.1, ex.2.1, ex.2.2⟩, rfl⟩, are1, q3, tks1, ld1, low⟩
    first
      | refine wpAny_bind (wp_if_neg (by simp [full]) (wpAny_pure (wpAny_pure ?_)))
      | refine wp_if_neg (by simp [full]) (wpAny_pure ?_)
      | refine wp_if_neg (by simp [full]) (wpAny_bind (wpAny_pure (wpAny_pure ?_)))
    exact po hp1 ls1 rows1 (ep + 1) t2 sb M1 pm
/-! ### set(xs) -/
theorem tk_keep {hp hp' : Heap} {key : List Key} {b : Addr} (tk : Tk Pg Wd hp key b) (k : ∀ c o, hp.get? c = some o → hp'.get? c = some o) : Tk Pg Wd hp' key b := by
  obtain ⟨ob, its, n, e, r⟩ := tk
  exact ⟨ob, its, n, k b ob e, r⟩
theorem Ms.keep {hp hp' : Heap} (M : Ms Pg Wd hp S ls rows ep tb) (h1 : ∀ o, hp.get? S = some o → hp'.get? S = some o) (h2 : ∀ e ∈ ls, Tk Pg Wd hp' e.2 e.1) : Ms Pg Wd hp' S ls rows ep tb := by
  obtain ⟨ob, e, r⟩ := M.obj
  exact ⟨⟨ob, h1 ob e, r⟩, M.are, M.tab, h2, M.led, M.room⟩
theorem ms_fresh {hp : Heap} (at1 : hp.get? S = some { cls := .type "set", dict := none, data := .set #[] 0 (.fresh 0 0 (!Wd.params.followText "set-order")) }) : Ms Pg Wd hp S [] #[] 0 (.fresh 0 0 (!Wd.params.followText "set-order")) :=
  ⟨⟨_, at1, ⟨rfl, rfl, rfl⟩, rfl⟩, rfl, ⟨List.Pairwise.nil, rfl, rfl, .inl rfl, fun z hz => absurd hz List.not_mem_nil, fun i g j hi => absurd hi (by simp [hashM])⟩, fun e he => absurd he List.not_mem_nil, (by
    show _ ∨ (!Wd.params.followText "set-order") = true
    cases Wd.params.followText "set-order"
    · exact .inr rfl
    · exact .inl rfl), (by show 0 * 5 < 7 * 3; decide)⟩
/-- the loop of set.update over keys that are all new -/
theorem update_new {I : Addr} {fp wr : List Addr} {G : Array GenState → Array GenState → Prop} {n : Nat} {Pv : Nat → Value → Prop} {St : Nat → Shared → Prop} {Re : Result → Shared → Prop}
    (Wk : WalksS Pg Wd Ar.in1 I fp wr G n Pv St) (S : Addr) (nf : S ∉ fp) (ks : KL) (hn : n = ks.length) (few : ks.length < 64) (nd : (ks.map Prod.snd).Nodup) (val : ∀ i v, Pv i v → ∃ e, ks[i]? = some e ∧ v = .ref e.1)
    (hp0 : Heap) (tk0 : ∀ e ∈ ks, Tk Pg Wd hp0 e.2 e.1) (s0 : hp0.get? S = none) (w0 : ∀ b ∈ wr, hp0.get? b = none) (un : Ar.in1.units < cLine) :
    ∀ (j i : Nat) (now : Shared), n - i = j → i ≤ n → St i now → (∀ b o, hp0.get? b = some o → now.heap.get? b = some o) → (∃ ls rows ep tb, Ms Pg Wd now.heap S ls rows ep tb ∧ ls.Perm (ks.take i)) →
      (∀ s' ls rows ep tb, Moved (S :: wr) G now s' → Ms Pg Wd s'.heap S ls rows ep tb → ls.Perm (ks.take n) → (∀ b o, hp0.get? b = some o → s'.heap.get? b = some o) → Re (.ok (.ret .none)) s') →
      codeAny (model Pg Wd) Ar (.builtin "set.update.loop" ⟨[.ref S, .ref I], []⟩) Re now := by
  have nw : S ∉ wr := fun z => nf (Wk.sub _ z)
  have sub : ∀ b ∈ wr, b ∈ S :: wr := fun b hb => List.mem_cons_of_mem _ hb
  have kept : ∀ {s s' : Shared}, Moved wr G s s' → (∀ b o, hp0.get? b = some o → s.heap.get? b = some o) → ∀ b o, hp0.get? b = some o → s'.heap.get? b = some o := fun mv k b o e =>
    mv.heap b o (fun z => by rw [w0 b z] at e; cases e) (k b o e)
  intro j
  induction j with
  | zero =>
    intro i now hj hi st k ⟨ls, rows, ep, tb, M, pm⟩ re
    have e : i = n := by omega
    subst e
    refine codeAny_builtin F.entry_set_update_loop ?_
    rw [Around.under_plainId F.plain_set_update_loop _]
    show wpAny _ Ar.in1 (pyNext (Value.ref I) >>= _) _ _ now
    refine wpAny_bind (Wk.done now _ _ st fun s' mv => ?_)
    show wpAny _ Ar.in1 (ret Value.none) _ _ s'
    have k' := kept mv k
    exact wpAny_pure (re s' ls rows ep tb (mv.mono sub) (M.keep (fun o e => mv.heap S o nw e) fun e he => tk_keep (tk0 e (List.mem_of_mem_take (pm.mem_iff.mp he))) k') pm k')
  | succ j ih =>
    intro i now hj hi st k ⟨ls, rows, ep, tb, M, pm⟩ re
    have lt : i < n := by omega
    refine codeAny_builtin F.entry_set_update_loop ?_
    rw [Around.under_plainId F.plain_set_update_loop _]
    show wpAny _ Ar.in1 (pyNext (Value.ref I) >>= _) _ _ now
    refine wpAny_bind (Wk.item i now _ _ lt st fun v s' pv st' mv => ?_)
    obtain ⟨e, he, rfl⟩ := val i v pv
    have k' := kept mv k
    have M' : Ms Pg Wd s'.heap S ls rows ep tb := M.keep (fun o z => mv.heap S o nw z) fun g hg => tk_keep (tk0 g (List.mem_of_mem_take (pm.mem_iff.mp hg))) k'
    have tk : Tk Pg Wd s'.heap e.2 e.1 := tk_keep (tk0 e (List.mem_of_getElem? he)) k'
    have len : ls.length ≤ i := by
      rw [pm.length_eq, List.length_take]
      omega
    have new : ∀ g ∈ ls, g.2 ≠ e.2 := fun g hg z => by
      obtain ⟨a, ha⟩ := List.mem_iff_getElem?.mp (pm.mem_iff.mp hg)
      obtain ⟨a1, a2⟩ := List.getElem?_eq_some_iff.mp ha
      rw [List.length_take] at a1
      rw [List.getElem_take] at a2
      obtain ⟨b1, b2⟩ := List.getElem?_eq_some_iff.mp he
      have y := (List.getElem_inj (h₀ := by rw [List.length_map]; omega) (h₁ := by rw [List.length_map]; exact b1) nd (i := a) (j := i)).mp (by rw [List.getElem_map, List.getElem_map, a2, b2, z])
      omega
    have tk1 : (ks.take (i + 1)).Perm ((e.1, e.2) :: ks.take i) := by
      rw [List.take_add_one, he]
      exact List.perm_append_singleton e (ks.take i)
    show wpAny _ Ar.in1 (holding [Value.ref e.1] (setAdd S (.ref e.1)) >>= _) _ _ s'
    refine wpAny_bind (wpAny_holding ?_)
    unfold setAdd
    refine wpAny_holding ?_
    refine wpAny_bind (wpAny_pyHash_tuple un tk ?_)
    refine add_new (sh := { s' with toks := s'.toks + (e.2.length + 1) }) M' tk un new (by omega) fun hp' ls' rows' ep' tb' sb M2 pm2 => ?_
    have k2 : ∀ b o, hp0.get? b = some o → hp'.get? b = some o := fun b o z => (sb.2 b (fun y => by rw [y, s0] at z; cases z)).trans (k' b o z)
    refine wpAny_pure ⟨plainId_quiet F.plain_set_update_loop _, ih (i + 1) _ (by omega) lt (Wk.frame _ s' _ _ st' (Nat.le_add_right _ _) fun b hb o z => ?_) k2 ⟨ls', rows', ep', tb', M2, (pm2.trans (List.Perm.cons _ pm)).trans tk1.symm⟩ fun s'' ls2 rows2 ep2 tb2 mv2 M3 pm3 k3 => ?_⟩
    · rw [sb.2 b fun y : b = S => nf (by rw [← y]; exact hb)]
      exact z
    · refine re s'' ls2 rows2 ep2 tb2 (Moved.trans Wk.gtrans ((mv.mono sub).then_heap (Nat.le_add_right _ _) fun b o hb z => ?_) mv2) M3 pm3 k3
      rw [sb.2 b fun y : b = S => hb (by rw [y]; exact List.mem_cons_self)]
      exact z
abbrev newSet (Wd : World) : Obj := { cls := .type "set", dict := none, data := .set #[] 0 (.fresh 0 0 (!Wd.params.followText "set-order")) }
/-- set(xs), xs a tuple of tuples of which no two are alike -/
theorem call_set_new {l : Addr} {items : Array Value} (ks : KL) {Po : Value → Shared → Prop} (calm : Ar.handled = none) (isT : sh.heap.IsTuple l items) (hit : items.toList = ks.map fun e => Value.ref e.1) (tks : ∀ e ∈ ks, Tk Pg Wd sh.heap e.2 e.1)
    (few : ks.length < 64) (nd : (ks.map Prod.snd).Nodup) (un : Ar.units + 3 < cLine)
    (po : ∀ (hp' : Heap) (tk : Nat) ls rows ep tb, Ms Pg Wd hp' sh.heap.objs.size ls rows ep tb → ls.Perm ks → (∀ b o, sh.heap.get? b = some o → hp'.get? b = some o) → Po (.ref sh.heap.objs.size) { sh with heap := hp', toks := tk }) :
    wpAny (model Pg Wd) Ar (call (.type "set") [.ref l]) Po Er sh := by
  have size : items.size = ks.length := by rw [← Array.length_toList, hit, List.length_map]
  obtain ⟨mc, mt, mro⟩ := F.called_set.mro
  have made := F.called_set.made
  have subs := F.called_set.sub
  refine wpAny_call (codeAny_of_tree ?_)
  show wpAny _ _ (callAny (Value.type "set") _) _ _ _
  refine wpAny_pure ⟨Code.quiet_builtin _ (by decide +kernel), codeAny_builtin F.entry_type_call ?_⟩
  rw [Around.under_plain (weight_type_call_type "set" [Value.ref l] []) rfl]
  have c1 := F.called_set.notType
  have c2 := F.called_set.canCreate
  have c3 := F.typeCall_set_1 (Value.ref l)
  repeat (any_goals (first | assumption | wp_step))
  refine codeAny_mono (code_set_led1 (Value.ref l) (E := Er) (Q₁ := fun ob s1 => ob = .ref sh.heap.objs.size ∧ s1 = { sh with heap := sh.heap.push (newSet Wd) }) ⟨rfl, rfl⟩) fun got s1 hgot => ?_
  cases got with
  | error e => exact hgot
  | ok fin =>
    cases fin with
    | ret ob =>
      obtain ⟨rfl, rfl⟩ := hgot
      have at1 : (sh.heap.push (newSet Wd)).get? sh.heap.objs.size = some (newSet Wd) := Heap.get?_push_size _ rfl
      have ty1 : Shared.TypeIs { sh with heap := sh.heap.push (newSet Wd) } (.ref sh.heap.objs.size) "set" := ⟨_, at1, rfl⟩
      have il := F.called_set.init.lookup
      have ib := F.called_set.init.bind (Value.ref sh.heap.objs.size)
      repeat (any_goals (first | assumption | wp_step))
      refine codeAny_mono (codeAny_call_builtin (R := wants (fun r s2 => r = .none ∧ ∃ hp' tk ls rows ep tb, s2 = { sh with heap := hp', toks := tk } ∧ Ms Pg Wd hp' sh.heap.objs.size ls rows ep tb ∧ ls.Perm ks ∧
          (∀ b o, sh.heap.get? b = some o → hp'.get? b = some o)) Er) F.called_set.init.plain F.entry_set_init (check_set_init_1 ty1 ?_)) fun got2 s2 hgot2 => ?_
      · obtain ⟨ot, hot, cls, nt, dat⟩ := isT
        obtain ⟨ocl, odi, oda, osl⟩ := ot
        simp only at cls dat
        subst cls
        subst dat
        have hot1 : (sh.heap.push (newSet Wd)).get? l = some { cls := .type "tuple", dict := odi, data := .seq items nt, slots := osl } := Heap.get?_push_of_some _ hot
        have not1 := F.sub_tuple_set
        have not2 := F.sub_tuple_frozenset
        have not3 : (Value.type "tuple" == Value.type "dict") = false := by decide
        have isT1 : (sh.heap.push (newSet Wd)).IsTuple l items := ⟨_, hot1, rfl, nt, rfl⟩
        unfold Builtin.«set.__init__» noKeywords Builtin.Frozenset.updateFrom
        generalize hIter : pyIter = itf
        wp_walk
        subst hIter
        refine wpAny_pyIter_tuple isT1 ?_
        refine wpAny_bind (wpAny_runValue ?_)
        have lS : l < sh.heap.objs.size := Heap.lt_size hot
        have calm3 : Ar.in1.in1.in1.handled = none := by simp [calm]
        have size1 : (sh.heap.push (newSet Wd)).objs.size = sh.heap.objs.size + 1 := Heap.size_push ..
        have apart : l ≠ (sh.heap.push (newSet Wd)).objs.size := by
          rw [size1]
          exact Nat.ne_of_lt (Nat.lt_succ_of_lt lS)
        have aside : sh.heap.objs.size ∉ [(sh.heap.push (newSet Wd)).objs.size, l] := by
          rw [size1]
          simp only [List.mem_cons, List.not_mem_nil, or_false, not_or]
          exact ⟨Nat.ne_of_lt (Nat.lt_succ_self _), Nat.ne_of_gt lS⟩
        have val : ∀ (i : Nat) (v : Value), items[i]? = some v → ∃ e, ks[i]? = some e ∧ v = .ref e.1 := fun i v hv => by
          rw [← Array.getElem?_toList, hit, List.getElem?_map] at hv
          obtain ⟨e, e1, e2⟩ := Option.map_eq_some_iff.mp hv
          exact ⟨e, e1, e2.symm⟩
        have gone : ∀ b, sh.heap.objs.size ≤ b → sh.heap.get? b = none := fun b hb => by
          cases q : sh.heap.get? b with
          | none => rfl
          | some o =>
            exact absurd (Nat.lt_of_lt_of_le (Heap.lt_size q) hb) (Nat.lt_irrefl _)
        have later : sh.heap.get? (sh.heap.push (newSet Wd)).objs.size = none := gone _ (by rw [size1]; exact Nat.le_succ _)
        have first_ : ((sh.heap.push (newSet Wd)).push { cls := .type "tuple_iterator", data := .fields #[.ref l, .int 0 0] }).get? sh.heap.objs.size = some (newSet Wd) := Heap.get?_push_of_some _ at1
        refine update_new ((Walks.tuple calm3 _ l apart items).toS) sh.heap.objs.size aside ks size few nd val sh.heap tks (gone _ (Nat.le_refl _)) (fun b hb => by rw [List.mem_singleton.mp hb]; exact later) un (items.size - 0) 0 _ (by omega) (Nat.zero_le _)
          ⟨⟨_, Heap.get?_push_size _ rfl, rfl, rfl⟩, isT1.push _⟩ (fun b o e => Heap.get?_push_of_some _ (Heap.get?_push_of_some _ e)) ⟨[], #[], 0, _, ms_fresh first_, List.Perm.refl _⟩ fun s' ls rows ep tb mv M pm k => ?_
        obtain ⟨hp', gens', drawn', toks', os'⟩ := s'
        obtain rfl : gens' = sh.gens := mv.gens
        obtain rfl : drawn' = sh.drawn := mv.drawn
        obtain rfl : os' = sh.os := mv.os
        show wpAny _ _ _ _ _ _
        refine wpAny_pure ?_
        show wpAny _ _ (ret Value.none) _ _ _
        rw [size, List.take_length] at pm
        exact wpAny_pure ⟨rfl, hp', toks', ls, rows, ep, tb, rfl, M, pm, k⟩
      · cases got2 with
        | error e => exact hgot2
        | ok fin2 =>
          cases fin2 with
          | ret r =>
            obtain ⟨rfl, hp', tk, ls, rows, ep, tb, rfl, M, pm, k⟩ := hgot2
            repeat (any_goals (first | assumption | wp_step))
            exact po _ _ _ _ _ _ M pm k
          | _ => exact hgot2.elim
    | _ => exact hgot.elim
end
section
variable {X : Cx}
theorem refs_vals {ks : KL} {us : List Value} (r : Vals (ks.map fun e => V.ref e.1) us) : us = ks.map fun e => Value.ref e.1 := by
  have z := refs_of_vals (ks := ks.map fun e => (e.1, ([] : List Int))) (us := us) (by rw [List.map_map]; exact r)
  rw [List.map_map] at z
  exact z
/-- len(set(xs)) -/
def tLenSetK (K : PySem.W.Frag) (ta : TE) : TE := fun σ H Q => ta σ H fun x H1 => ∃ (l : Addr) (ks : KL), x = V.ref l ∧ SqT K H1 l (ks.map fun e => V.ref e.1) ∧ (∀ e ∈ ks, H1 e.1 = some (.tup (e.2.map kV))) ∧ ks.length < 64 ∧ (ks.map Prod.snd).Nodup ∧ Q (.int ks.length) H1
theorem pe_lenSetK {a : Expr} {ta : TE} {p p2 q pos : Pos} (hc : X.calm = true) (hu : X.A.units + 64 < cLine) (hg : Gl X "len") (hm : X.mg "len" = none) (hg2 : Gl X "set") (hm2 : X.mg "set" = none) (ha : PE X a ta)
    (na : starEach [a] X.env = (false, eval a X.env) :: starEach [] X.env := by rfl) : PE X (.Call (.Name "len" p) [.Call (.Name "set" p2) [a] [] q] [] pos) (tLenSetK X.K ta) := by
  refine ⟨fun pins s σ H Q I h => ?_⟩
  refine Call_ (ld_blt I hg hm PySem.boot_len ?_)
  refine PyProof.Rows.callWith_builtin1 (PyProof.Rows.args_cons ?_ rfl) rfl rfl
  refine Call_ (ld_blt I hg2 hm2 PyProof.Rows.boot_set ?_)
  refine PyProof.Rows.callWith_type1 (PyProof.Rows.args_cons (thn (ha.run pins s σ H _ I h) fun v s1 ⟨x, H1, I1, r1, q1⟩ => PyProof.Rows.args_nil ?_) na) na rfl
  obtain ⟨l, ks, rfl, hl, hk, few, nd, q1⟩ := q1
  cases r1
  obtain ⟨its, rv, pl, hz⟩ := I1.tuple hl
  refine call_set_new (Pg := X.prog) (Wd := X.w) ks (I1.ok.hd hc) pl (by simpa using refs_vals rv) (fun e he => key_of I1.hok (hk e he)) few nd (by omega) fun hp' tk ls rows ep tb M pm k => ?_
  refine PyProof.Rows.args_nil ?_
  obtain ⟨ob, at1, ex, dat⟩ := M.obj
  have I2 : Inv X pins σ H1 { s1 with heap := hp', toks := tk } := I1.kept fun b o e => k b o e
  have sz : rows.size = ks.length := by rw [rows_size M.are, pm.length_eq]
  have fit := Ms.fits (sh := { s1 with heap := hp', toks := tk }) M
  refine call_len_set at1 ex dat fit (by rw [sz]; omega) ⟨.int ks.length, H1, I2.tok _, ⟨_, by rw [sz]⟩, q1⟩
end
end Sr
set_option Elab.async false
set_option linter.all false
set_option maxRecDepth 100000
set_option maxHeartbeats 4000000
set_option autoImplicit false
namespace Sr
open PySem L2

theorem ok_closed_table {P : Program} {w : World} {K : PySem.W.Frag} {mg : Str → Option Value} {base : Heap} {aR : Addr} {des : Array DictEntry} {dn : Nat} (T : Txt K w mg aR des dn)  : Cal P w K mg base 1 "closed_table" ["table"] g_closed_table := by
  obtain ⟨f, fd, F, hm⟩ := T.f_closed_table
  refine ⟨f, fd, ?_, hm, F.kp, F.binds fun _ _ _ _ _ _ us hl => match us, hl with | [_], _ => rfl⟩
  refine fn_by F sc_closed_table (by decide) fun cdv A outer s H E hr => ?_
  have hu := hu_of hr
  have hu64 := hr.units
  have hu65 : (A.deeper (PyProof.Rows.envOfC "closed_table" (defScope s_closed_table) s.heap.objs.size f cdv)).units + 65 < cLine := by
    have := hr.un
    omega
  refine ⟨_, (pss_cons (ps_set (i := 1) sc_closed_table.nd rfl (Or.inl rfl) (pe_callB (id := "len") (cLen K rfl) (by rfl) T.b_len (by decide +kernel) (pa_cons (pv 0) pa_nil)))
      (pss_cons (ps_set (i := 2) sc_closed_table.nd rfl (Or.inr rfl) (pe_lc (own := [("row", 3)]) (by rfl) sc_closed_table.nd (piL K rfl (pv 0)) (blkOk_by (N := ["table", "many", "rows", "row", "amid", "p", "q"]) (sc := defScope s_closed_table) (by decide +kernel))
      (fun _ _ _ _ _ => (pg_name (i := 3) sc_closed_table.nd rfl (Or.inl rfl))) (fun _ _ _ _ _ => pts_nil) (fun _ _ _ _ _ => (pe_callTy (T := "list") (cList K rfl) (by rfl) T.b_list (by decide +kernel) (pa_cons (pv 3) pa_nil)))))
      (pss_cons (ps_for PassesOwn.never (by rfl) (pi_range1 (by rfl) T.b_range (pa_cons (pv 1) pa_nil)) (pg_name (i := 4) sc_closed_table.nd rfl (Or.inr rfl))
        (pss_one (ps_for PassesOwn.never (by rfl) (pi_range1 (by rfl) T.b_range (pa_cons (pv 1) pa_nil)) (pg_name (i := 5) sc_closed_table.nd rfl (Or.inr rfl))
          (pss_one (ps_if (pt_val (pe_ix (ixL K rfl) (pe_ix (ixL K rfl) (pv 2) (pv 5) (fun _ _ => rfl)) (pv 4) (fun _ _ => rfl)))
            (pss_one (ps_asg (pe_lc (own := [("q", 6)]) (by rfl) sc_closed_table.nd (pi_range1 (by rfl) T.b_range (pa_cons (pv 1) pa_nil)) (blkOk_by (N := ["table", "many", "rows", "row", "amid", "p", "q"]) (sc := defScope s_closed_table) (by decide +kernel))
      (fun _ _ _ _ _ => (pg_name (i := 6) sc_closed_table.nd rfl (Or.inl rfl))) (fun _ _ _ _ _ => pts_nil) (fun _ _ _ _ _ => (pe_or (pe_ix (ixL K rfl) (pe_ix (ixL K rfl) (pv 2) (pv 5) (fun _ _ => rfl)) (pv 6) (fun _ _ => rfl)) (pe_one (pe_ix (ixL K rfl) (pe_ix (ixL K rfl) (pv 2) (pv 4) (fun _ _ => rfl)) (pv 6) (fun _ _ => rfl)))))) (pg_sub (pv 2) (pv 5) set_list)))
            pss_nil)))))
      (pss_one (ps_ret (pv 2)))))), fun ds r hn hg => ?_⟩
  clear hu hu64 hu65 hr hn
  obtain ⟨n, tb, hn, sq, rfl, rfl⟩ := hg
  refine .inl ?_
  have hz : tb.length ≤ 12 := by rw [sq.len]; exact hn
  refine yo_seq (yo_asg ((ye_lenL (Ye.yl (ye_var rfl))).to (d' := .int (n : Int)) (by rw [List.length_map, sq.len]))) ?_
  refine yo_seq (yo_asgM (xs := tb.map encB) (Yf.to (yf_lcA (as := tb) (enc := encB) (fun _ => true) encB (yi_list (ye_var rfl)) (by omega) fun i a h => ⟨_, _, (by simp), yg_name ltr, yt_yes, fun _ => (yf_listL (Ye.yl (ye_var rfl))).ye⟩) (by rw [List.filter_eq_self.mpr (fun _ _ => rfl)]))) ?_
  refine yo_seq (yo_forN (yi_range1 (ya_cons (ye_var rfl) ya_nil) (by omega) (by omega)) (fun i => [.im (encT tb), .im (.int n), .ml ((clAll n tb i).map encB), .no, .no, .no, .no]) rfl (fun _ => by simp) fun m hm => ?_) ?_
  · have hm : m < n := by omega
    refine yo_weak (yo_forN (yi_range1 (ya_cons (ye_var rfl) ya_nil) (by omega) (by omega)) (fun p => [.im (encT tb), .im (.int n), .ml ((clAmid n m (clAll n tb m) p).map encB), .no, .im (.int m), .no, .no]) rfl (fun _ => by simp) fun p hp => ?_) ?_
    · have hp : p < n := by omega
      have sp := clAmid_sq (m := m) (clAll_sq sq m) p
      refine yo_if (yt_B (ye_bit sp (yl_var rfl) (ye_var rfl) (ye_var rfl) hp hm)) (fun hb => ?_) (fun hb => ?_)
      · refine Yo.to (yo_weak (yo_setM (j := p) rfl (yf_lcN (v := upN) (n := n) (j := 6) (fun q => .bool (((clAmid n m (clAll n tb m) p).getD p []).getD q false || ((clAmid n m (clAll n tb m) p).getD m []).getD q false)) (yi_range1 (n := (n : Int)) (ya_cons (ye_var rfl) ya_nil) (by omega) (by omega)) (by omega) (by simp) ltr fun q hq => ?_).ye (ye_var rfl) (by rw [List.length_map, sp.len]; exact hp)) (.same (.same (.same (.same (.same (.drop (.same .nil)))))))) ?_
        · exact ye_or (ye_bit sp (yl_var rfl) (ye_var rfl) (ye_var rfl) hp hq) fun _ => ye_bit sp (yl_var rfl) (ye_var rfl) (ye_var rfl) hm hq
        · rw [clAmid_succ]
          unfold clStep
          rw [if_pos hb, List.map_set]
          unfold encB orRow
          rw [List.map_map]
          rfl
      · refine Yo.to (yo_weak yo_nx (.same (.same (.same (.same (.same (.drop (.same .nil)))))))) ?_
        rw [clAmid_succ]
        unfold clStep
        rw [if_neg (by rw [hb]; exact Bool.false_ne_true)]
    · rw [clAll_succ]
      exact .same (.same (.same (.same (.drop (.same (.same .nil))))))
  · exact yo_freeze (i := 2) rfl (yo_ret (ye_var rfl))

end Sr
set_option Elab.async false
set_option linter.all false
set_option maxRecDepth 100000
set_option maxHeartbeats 4000000
set_option autoImplicit false
namespace Sr
open PySem L2
theorem int_of_nat (a b : Nat) : decide ((a : Int) < (b : Int)) = decide (a < b) := by simp
theorem ok_whole_number {P : Program} {w : World} {K : PySem.W.Frag} {mg : Str → Option Value} {base : Heap} {aR : Addr} {des : Array DictEntry} {dn : Nat} (T : Txt K w mg aR des dn)  : Cal P w K mg base 1 "whole_number" ["thing"] g_whole_number := by
  obtain ⟨f, fd, F, hm⟩ := T.f_whole_number
  refine ⟨f, fd, ?_, hm, F.kp, F.binds fun _ _ _ _ _ _ us hl => match us, hl with | [_], _ => rfl⟩
  refine fn_by F sc_whole_number (by decide) fun cdv A outer s H E hr => ?_
  have hu := hu_of hr
  have hu64 := hr.units
  have hu65 : (A.deeper (PyProof.Rows.envOfC "whole_number" (defScope s_whole_number) s.heap.objs.size f cdv)).units + 65 < cLine := by
    have := hr.un
    omega
  refine ⟨_, (pss_one (ps_ret (pe_and (pe_callB (id := "isinstance") (cIsi K rfl) (by rfl) T.b_isinstance (by decide +kernel) (pa_cons (pv 0) (pa_cons (pe_bltn (v := .ty "int") (by rfl) T.b_int (by decide +kernel) rfl) pa_nil))) (pe_one (pe_not (pe_callB (id := "isinstance") (cIsi K rfl) (by rfl) T.b_isinstance (by decide +kernel) (pa_cons (pv 0) (pa_cons (pe_bltn (v := .ty "bool") (by rfl) T.b_bool (by decide +kernel) rfl) pa_nil)))))))), fun ds r hn hg => ?_⟩
  clear hu hu64 hu65 hr hn
  obtain ⟨i, rfl, rfl⟩ := hg
  exact .inl (yo_ret (ye_and (ye_isI (ye_var rfl)) fun _ => ye_not (ye_isB (ye_var rfl))))

theorem ok_room_of {P : Program} {w : World} {K : PySem.W.Frag} {mg : Str → Option Value} {base : Heap} {aR : Addr} {des : Array DictEntry} {dn : Nat} (T : Txt K w mg aR des dn) (C_whole_number : Cal P w K mg base 1 "whole_number" ["thing"] g_whole_number) : Cal P w K mg base 2 "room_of" ["thing", "many"] g_room_of := by
  obtain ⟨f, fd, F, hm⟩ := T.f_room_of
  refine ⟨f, fd, ?_, hm, F.kp, F.binds fun _ _ _ _ _ _ us hl => match us, hl with | [_, _], _ => rfl⟩
  refine fn_by F sc_room_of (by decide) fun cdv A outer s H E hr => ?_
  have hu := hu_of hr
  have hu64 := hr.units
  have hu65 : (A.deeper (PyProof.Rows.envOfC "room_of" (defScope s_room_of) s.heap.objs.size f cdv)).units + 65 < cLine := by
    have := hr.un
    omega
  refine ⟨_, (pss_one (ps_ret (pe_and (peCal K C_whole_number rfl rfl rfl rfl rfl hr (by rfl) (pa_cons (pv 0) pa_nil)) (pe_one (pe_chain op_le op_lt pe_int (pv 0) (pv 1)))))), fun ds r hn hg => ?_⟩
  clear hu hu64 hu65 hr hn
  obtain ⟨i, m, rfl, rfl⟩ := hg
  refine .inl (yo_ret (Ye.to (ye_and (ye_call (ya_cons (ye_var rfl) ya_nil) rfl ⟨i, rfl, rfl⟩) fun _ => ye_chain ye_int (ye_var rfl) (ye_var rfl) (fun v w H F Q h1 h2 q => ?_) (fun _ v w H F Q h1 h2 q => ?_)) (by rw [Bool.true_and])))
  · cases (show v = .int 0 from h1)
    cases (show w = .int i from h2)
    exact ⟨0, i, rfl, rfl, q⟩
  · cases (show v = .int i from h1)
    cases (show w = .int m from h2)
    exact ⟨i, m, rfl, rfl, q⟩

theorem ok_sign_of_way {P : Program} {w : World} {K : PySem.W.Frag} {mg : Str → Option Value} {base : Heap} {aR : Addr} {des : Array DictEntry} {dn : Nat} (T : Txt K w mg aR des dn)  : Cal P w K mg base 1 "sign_of_way" ["thing"] g_sign_of_way := by
  obtain ⟨f, fd, F, hm⟩ := T.f_sign_of_way
  refine ⟨f, fd, ?_, hm, F.kp, F.binds fun _ _ _ _ _ _ us hl => match us, hl with | [_], _ => rfl⟩
  refine fn_by F sc_sign_of_way (by decide) fun cdv A outer s H E hr => ?_
  have hu := hu_of hr
  have hu64 := hr.units
  have hu65 : (A.deeper (PyProof.Rows.envOfC "sign_of_way" (defScope s_sign_of_way) s.heap.objs.size f cdv)).units + 65 < cLine := by
    have := hr.un
    omega
  refine ⟨_, (pss_one (ps_ret (pe_and (pe_callB (id := "isinstance") (cIsi K rfl) (by rfl) T.b_isinstance (by decide +kernel) (pa_cons (pv 0) (pa_cons (pe_bltn (v := .ty "str") (by rfl) T.b_str (by decide +kernel) rfl) pa_nil))) (pe_and (pe_cmpR op_eq (pe_callB (id := "len") call_len_str (by rfl) T.b_len (by decide +kernel) (pa_cons (pv 0) pa_nil)) pe_int (nomark _)) (pe_one (pe_cmpR op_in_str (pv 0) (pe_globS (by rfl) T.c_LETTERS) (by rfl))))))), fun ds r hn hg => ?_⟩
  clear hu hu64 hu65 hr hn
  obtain ⟨c, hc, rfl, rfl⟩ := hg
  refine .inl (yo_ret (Ye.to (ye_and (ye_isS (ye_var rfl)) fun _ => ye_and (ye_eqI (ye_lenS (ye_var rfl) (show (1 : Nat) ≤ 100000 by decide)) ye_int) fun _ => ye_inS (ye_var rfl) ye_str) (congrArg PyData.bool ?_)))
  rcases hc with rfl | rfl | rfl <;> decide +kernel

theorem ok_way_of {P : Program} {w : World} {K : PySem.W.Frag} {mg : Str → Option Value} {base : Heap} {aR : Addr} {des : Array DictEntry} {dn : Nat} (T : Txt K w mg aR des dn) (C_room_of : Cal P w K mg base 2 "room_of" ["thing", "many"] g_room_of) (C_sign_of_way : Cal P w K mg base 1 "sign_of_way" ["thing"] g_sign_of_way) : Cal P w K mg base 3 "way_of" ["thing", "many"] g_way_of := by
  obtain ⟨f, fd, F, hm⟩ := T.f_way_of
  refine ⟨f, fd, ?_, hm, F.kp, F.binds fun _ _ _ _ _ _ us hl => match us, hl with | [_, _], _ => rfl⟩
  refine fn_by F sc_way_of (by decide) fun cdv A outer s H E hr => ?_
  have hu := hu_of hr
  have hu64 := hr.units
  have hu65 : (A.deeper (PyProof.Rows.envOfC "way_of" (defScope s_way_of) s.heap.objs.size f cdv)).units + 65 < cLine := by
    have := hr.un
    omega
  refine ⟨_, (pss_cons (ps_if (PW.pt (pw_or (pt_not (pt_val (pe_callB (id := "isinstance") (cIsi K rfl) (by rfl) T.b_isinstance (by decide +kernel) (pa_cons (pv 0) (pa_cons (pe_bltn (v := .ty "tuple") (by rfl) T.b_tuple (by decide +kernel) rfl) pa_nil))))) (pw_or1 (pt_cmpR op_ne (pe_callB (id := "len") (cLen K rfl) (by rfl) T.b_len (by decide +kernel) (pa_cons (pv 0) pa_nil)) pe_int (nomark _)))))
        (pss_one (ps_ret pe_bl))
        pss_nil)
      (pss_cons (ps_asg (pv 0) (pgT (n := 4) K rfl rfl (pgs_cons (pg_name (i := 2) sc_way_of.nd rfl (Or.inl rfl)) (pgs_cons (pg_name (i := 3) sc_way_of.nd rfl (Or.inl rfl)) (pgs_cons (pg_name (i := 4) sc_way_of.nd rfl (Or.inl rfl)) (pgs_cons (pg_name (i := 5) sc_way_of.nd rfl (Or.inl rfl)) pgs_nil))))))
      (pss_cons (ps_if (PW.pt (pw_or (pt_not (pt_val (peCal K C_room_of rfl rfl rfl rfl rfl hr (by rfl) (pa_cons (pv 2) (pa_cons (pv 1) pa_nil))))) (pw_or (pt_not (pt_val (peCal K C_room_of rfl rfl rfl rfl rfl hr (by rfl) (pa_cons (pv 4) (pa_cons (pv 1) pa_nil))))) (pw_or1 (pt_not (pt_val (peCal K C_sign_of_way rfl rfl rfl rfl rfl (hr.mono (by decide)) (by rfl) (pa_cons (pv 5) pa_nil))))))))
        (pss_one (ps_ret pe_bl))
        pss_nil)
      (pss_one (ps_ret (pe_and (pe_callB (id := "isinstance") (cIsi K rfl) (by rfl) T.b_isinstance (by decide +kernel) (pa_cons (pv 3) (pa_cons (pe_bltn (v := .ty "str") (by rfl) T.b_str (by decide +kernel) rfl) pa_nil))) (pe_one (pe_cmpR (opInK K rfl rfl T.d_RAISES) (pv 3) (pe_glob (v := .ref aR) (by rfl) T.c_RAISES rfl) (by rfl))))))))), fun ds r hn hg => ?_⟩
  clear hu hu64 hu65 hr hn
  obtain ⟨v, m, h1, h2, h3, rfl, rfl⟩ := hg
  refine .inl ?_
  refine yo_seq (yo_if (b := false) (yt_or (yt_not (yt_B (ye_isT (ye_var rfl)))) fun _ => yt_B ((ye_neI (ye_lenT (ye_var rfl)) ye_int).to (d' := .bool false) rfl)) (fun hb => by cases hb) fun _ => yo_nx) ?_
  refine yo_seq (yo_asgG (ye_var rfl) (yg_tup rfl (ygs_cons (yg_name ltr) (ygs_cons (yg_name ltr) (ygs_cons (yg_name ltr) (ygs_cons (yg_name ltr) ygs_nil)))))) ?_
  have r1 : (decide ((0 : Int) ≤ (v.room : Int)) && decide ((v.room : Int) < (m : Int))) = true := by simp; omega
  have r2 : (decide ((0 : Int) ≤ (v.other : Int)) && decide ((v.other : Int) < (m : Int))) = true := by simp; omega
  refine yo_seq (yo_if (b := false) ((yt_or (yt_not (yt_B (ye_call (ya_cons (ye_var rfl) (ya_cons (ye_var rfl) ya_nil)) rfl ⟨_, _, rfl, rfl⟩))) fun _ => yt_or (yt_not (yt_B (ye_call (ya_cons (ye_var rfl) (ya_cons (ye_var rfl) ya_nil)) rfl ⟨_, _, rfl, rfl⟩))) fun _ => yt_not (yt_B (ye_call (ya_cons (ye_var rfl) ya_nil) rfl ⟨_, h3, rfl, rfl⟩))).to (by rw [r1, r2]; rfl)) (fun hb => by cases hb) fun _ => yo_nx) ?_
  exact yo_ret (ye_and (ye_isS (ye_var rfl)) fun _ => ye_inR T (ye_var rfl))

theorem ok_check_house {P : Program} {w : World} {K : PySem.W.Frag} {mg : Str → Option Value} {base : Heap} {aR : Addr} {des : Array DictEntry} {dn : Nat} (T : Txt K w mg aR des dn) (C_is_house : Cal P w K mg base 4 "is_house" ["thing"] g_is_house) : Cal P w K mg base 5 "check_house" ["house"] g_check_house := by
  obtain ⟨f, fd, F, hm⟩ := T.f_check_house
  refine ⟨f, fd, ?_, hm, F.kp, F.binds fun _ _ _ _ _ _ us hl => match us, hl with | [_], _ => rfl⟩
  refine fn_by F sc_check_house (by decide) fun cdv A outer s H E hr => ?_
  have hu := hu_of hr
  have hu64 := hr.units
  have hu65 : (A.deeper (PyProof.Rows.envOfC "check_house" (defScope s_check_house) s.heap.objs.size f cdv)).units + 65 < cLine := by
    have := hr.un
    omega
  refine ⟨_, (pss_one (ps_if (pt_not (pt_val (peCal K C_is_house rfl rfl rfl rfl rfl hr (by rfl) (pa_cons (pv 0) pa_nil))))
        (pss_one ps_never)
        pss_nil)), fun ds r hn hg => ?_⟩
  clear hu hu64 hu65 hr hn
  obtain ⟨h, gd, rfl, rfl⟩ := hg
  refine .inr ⟨_, yo_if (yt_not (yt_B (ye_call (ya_cons (ye_var rfl) ya_nil) rfl ⟨h, gd, rfl, rfl⟩))) (fun hb => by cases hb) fun _ => yo_nx, rfl⟩

theorem ok_check_places {P : Program} {w : World} {K : PySem.W.Frag} {mg : Str → Option Value} {base : Heap} {aR : Addr} {des : Array DictEntry} {dn : Nat} (T : Txt K w mg aR des dn)  : Cal P w K mg base 1 "check_places" ["house", "places"] g_check_places := by
  obtain ⟨f, fd, F, hm⟩ := T.f_check_places
  refine ⟨f, fd, ?_, hm, F.kp, F.binds fun _ _ _ _ _ _ us hl => match us, hl with | [_, _], _ => rfl⟩
  refine fn_by F sc_check_places (by decide) fun cdv A outer s H E hr => ?_
  have hu := hu_of hr
  have hu64 := hr.units
  have hu65 : (A.deeper (PyProof.Rows.envOfC "check_places" (defScope s_check_places) s.heap.objs.size f cdv)).units + 65 < cLine := by
    have := hr.un
    omega
  refine ⟨_, (pss_cons (ps_for PassesOwn.never (by rfl) (piL K rfl (pv 1)) (pgT (n := 2) K rfl rfl (pgs_cons (pg_name (i := 2) sc_check_places.nd rfl (Or.inl rfl)) (pgs_cons (pg_name (i := 3) sc_check_places.nd rfl (Or.inl rfl)) pgs_nil)))
        (pss_one (ps_if (PW.pt (pw_or (pt_cmpR op_lt (pv 2) pe_int (nomark _)) (pw_or (pt_cmpR op_ge (pv 2) (pe_ix (ixT K rfl) (pv 0) pe_int (fun _ _ => rfl)) (nomark _)) (pw_or1 (pt_cmpR op_lt (pv 3) pe_int (nomark _))))))
          (pss_one ps_never)
          pss_nil)))
      (pss_one (ps_for PassesOwn.never (by rfl) (piL K rfl (pv 1)) (pgT (n := 2) K rfl rfl (pgs_cons (pg_name (i := 2) sc_check_places.nd rfl (Or.inl rfl)) (pgs_cons (pg_name (i := 3) sc_check_places.nd rfl (Or.inl rfl)) pgs_nil)))
        (pss_one (ps_if (pt_cmpR op_gt (pv 3) (pe_globI (by rfl) T.c_HIGHEST) (nomark _))
          (pss_one ps_never)
          pss_nil))))), fun ds r hn hg => ?_⟩
  clear hu hu64 hu65 hr hn
  obtain ⟨h, ps, hp, hl, rfl, rfl⟩ := hg
  refine .inr ⟨ents ["house", "places", "room", "number"] [h.enc, .list (ps.map encP)], ?_, rfl⟩
  refine yo_seq (yo_for (yi_list (ye_var rfl)) (fun _ => ents ["house", "places", "room", "number"] [h.enc, .list (ps.map encP)]) rfl fun i d hd => ?_) ?_
  · rw [List.getElem?_map] at hd
    obtain ⟨p, e, rfl⟩ := Option.map_eq_some_iff.mp hd
    have q := hp p (List.mem_of_getElem? e)
    refine ⟨_, _, yg_tup rfl (ygs_cons (yg_name ltr) (ygs_cons (yg_name ltr) ygs_nil)), ?_⟩
    refine yo_weak (yo_if (b := false) (Yt.to (yt_or (yt_test (ye_lt (ye_var rfl) ye_int)) fun _ => yt_or (yt_test (ye_ge (ye_var rfl) (ye_ixT (d := .int h.many) (ye_var rfl) ye_int rfl))) fun _ => yt_test (ye_lt (ye_var rfl) ye_int)) ?_) (fun hb => by cases hb) fun _ => yo_nx) (.same (.same (.drop (.drop .nil))))
    simp
    omega
  · refine yo_for (yi_list (ye_var rfl)) (fun _ => ents ["house", "places", "room", "number"] [h.enc, .list (ps.map encP)]) rfl fun i d hd => ?_
    rw [List.getElem?_map] at hd
    obtain ⟨p, e, rfl⟩ := Option.map_eq_some_iff.mp hd
    have q := hp p (List.mem_of_getElem? e)
    refine ⟨_, _, yg_tup rfl (ygs_cons (yg_name ltr) (ygs_cons (yg_name ltr) ygs_nil)), ?_⟩
    refine yo_weak (yo_if (b := false) (Yt.to (yt_test (ye_gt (ye_var rfl) ye_int)) ?_) (fun hb => by cases hb) fun _ => yo_nx) (.same (.same (.drop (.drop .nil))))
    simp
    omega

theorem ok_check_place {P : Program} {w : World} {K : PySem.W.Frag} {mg : Str → Option Value} {base : Heap} {aR : Addr} {des : Array DictEntry} {dn : Nat} (T : Txt K w mg aR des dn) (C_check_places : Cal P w K mg base 1 "check_places" ["house", "places"] g_check_places) : Cal P w K mg base 2 "check_place" ["house", "place"] g_check_place := by
  obtain ⟨f, fd, F, hm⟩ := T.f_check_place
  refine ⟨f, fd, ?_, hm, F.kp, F.binds fun _ _ _ _ _ _ us hl => match us, hl with | [_, _], _ => rfl⟩
  refine fn_by F sc_check_place (by decide) fun cdv A outer s H E hr => ?_
  have hu := hu_of hr
  have hu64 := hr.units
  have hu65 : (A.deeper (PyProof.Rows.envOfC "check_place" (defScope s_check_place) s.heap.objs.size f cdv)).units + 65 < cLine := by
    have := hr.un
    omega
  refine ⟨_, (pss_one (ps_expr (peCal K C_check_places rfl rfl rfl rfl rfl hr (by rfl) (pa_cons (pv 0) (pa_cons (pe_lst (pa_cons (pv 1) pa_nil)) pa_nil))))), fun ds r hn hg => ?_⟩
  clear hu hu64 hu65 hr hn
  obtain ⟨h, p, h1, h2, rfl, rfl⟩ := hg
  exact .inr ⟨_, yo_drop (ye_call (ya_cons (ye_var rfl) (ya_cons (yf_lst (ya_cons (ye_var rfl) ya_nil) (show (1 : Nat) ≤ 100000 by decide)).ye ya_nil)) rfl ⟨h, [p], fun q hq => by simp at hq; subst hq; exact ⟨h1, h2⟩, (by simp), rfl, rfl⟩), rfl⟩
theorem op_rest {d : Dd} (x : Nat) (h : d ≠ .down) : (decide ((x : Int) = 0) || !decide (d.str = "zero")) = d.opn x := by
  cases d with
  | down => exact absurd rfl h
  | up => show (_ || true) = true; rw [Bool.or_true]
  | stay => show (_ || true) = true; rw [Bool.or_true]
  | zero =>
    show (decide ((x : Int) = 0) || false) = decide (x = 0)
    rw [Bool.or_false]
    exact decide_eq_decide.mpr (by omega)

theorem ok_deed_open {P : Program} {w : World} {K : PySem.W.Frag} {mg : Str → Option Value} {base : Heap} {aR : Addr} {des : Array DictEntry} {dn : Nat} (T : Txt K w mg aR des dn)  : Cal P w K mg base 1 "deed_open" ["deed", "number"] g_deed_open := by
  obtain ⟨f, fd, F, hm⟩ := T.f_deed_open
  refine ⟨f, fd, ?_, hm, F.kp, F.binds fun _ _ _ _ _ _ us hl => match us, hl with | [_, _], _ => rfl⟩
  refine fn_by F sc_deed_open (by decide) fun cdv A outer s H E hr => ?_
  have hu := hu_of hr
  have hu64 := hr.units
  have hu65 : (A.deeper (PyProof.Rows.envOfC "deed_open" (defScope s_deed_open) s.heap.objs.size f cdv)).units + 65 < cLine := by
    have := hr.un
    omega
  refine ⟨_, (pss_cons (ps_if (pt_cmpR op_eq (pv 0) pe_str (nomark _))
        (pss_one (ps_ret (pe_cmpR op_gt (pv 1) pe_int (nomark _))))
        pss_nil)
      (pss_one (ps_ret (pe_or (pe_cmpR op_eq (pv 1) pe_int (nomark _)) (pe_one (pe_cmpR op_ne (pv 0) pe_str (nomark _))))))), fun ds r hn hg => ?_⟩
  clear hu hu64 hu65 hr hn
  obtain ⟨d, x, rfl, rfl⟩ := hg
  refine .inl ?_
  by_cases e : d = .down
  · subst e
    exact yo_seqR (yo_if (b := true) (Yt.to (yt_test (ye_eqS (ye_var rfl) ye_str)) (by decide +kernel)) (fun _ => yo_ret ((ye_gt (ye_var rfl) ye_int).to (congrArg PyData.bool (decide_eq_decide.mpr (by omega))))) fun hb => by cases hb)
  · refine yo_seq (yo_if (b := false) (Yt.to (yt_test (ye_eqS (ye_var rfl) ye_str)) ?_) (fun hb => by cases hb) fun _ => yo_nx) (yo_ret ((ye_or (ye_eqI (ye_var rfl) ye_int) fun _ => ye_neS (ye_var rfl) ye_str).to (congrArg PyData.bool (op_rest x e))))
    cases d with
    | down => exact absurd rfl e
    | up => decide +kernel
    | stay => decide +kernel
    | zero => decide +kernel

theorem ok_deed_number {P : Program} {w : World} {K : PySem.W.Frag} {mg : Str → Option Value} {base : Heap} {aR : Addr} {des : Array DictEntry} {dn : Nat} (T : Txt K w mg aR des dn)  : Cal P w K mg base 1 "deed_number" ["deed", "number"] g_deed_number := by
  obtain ⟨f, fd, F, hm⟩ := T.f_deed_number
  refine ⟨f, fd, ?_, hm, F.kp, F.binds fun _ _ _ _ _ _ us hl => match us, hl with | [_, _], _ => rfl⟩
  refine fn_by F sc_deed_number (by decide) fun cdv A outer s H E hr => ?_
  have hu := hu_of hr
  have hu64 := hr.units
  have hu65 : (A.deeper (PyProof.Rows.envOfC "deed_number" (defScope s_deed_number) s.heap.objs.size f cdv)).units + 65 < cLine := by
    have := hr.un
    omega
  refine ⟨_, (pss_one (ps_ret (pe_op op_add (pv 1) (pe_ix (ixD K w rfl rfl) (pe_glob (v := .ref aR) (by rfl) T.c_RAISES rfl) (pv 0) (fun _ _ => rfl))))), fun ds r hn hg => ?_⟩
  clear hu hu64 hu65 hr hn
  obtain ⟨d, x, ho, rfl, rfl⟩ := hg
  exact .inl (yo_ret ((ye_add (ye_var rfl) (ye_ixR T (ye_var rfl))).to (by rw [Dd.num_rise ho])))


end Sr
set_option Elab.async false
set_option linter.all false
set_option maxRecDepth 100000
set_option maxHeartbeats 4000000
set_option autoImplicit false
namespace Sr
open PySem L2

theorem ok_own_table {P : Program} {w : World} {K : PySem.W.Frag} {mg : Str → Option Value} {base : Heap} {aR : Addr} {des : Array DictEntry} {dn : Nat} (T : Txt K w mg aR des dn)  : Cal P w K mg base 1 "own_table" ["many"] g_own_table := by
  obtain ⟨f, fd, F, hm⟩ := T.f_own_table
  refine ⟨f, fd, ?_, hm, F.kp, F.binds fun _ _ _ _ _ _ us hl => match us, hl with | [_], _ => rfl⟩
  refine fn_by F sc_own_table (by decide) fun cdv A outer s H E hr => ?_
  have hu := hu_of hr
  have hu64 := hr.units
  have hu65 : (A.deeper (PyProof.Rows.envOfC "own_table" (defScope s_own_table) s.heap.objs.size f cdv)).units + 65 < cLine := by
    have := hr.un
    omega
  refine ⟨_, (pss_one (ps_ret (pe_lc (own := [("p", 1)]) (by rfl) sc_own_table.nd (pi_range1 (by rfl) T.b_range (pa_cons (pv 0) pa_nil)) (blkOk_by (N := ["many", "p", "q"]) (sc := defScope s_own_table) (by decide +kernel))
      (fun _ _ _ _ _ => (pg_name (i := 1) sc_own_table.nd rfl (Or.inr rfl))) (fun _ _ _ _ _ => pts_nil) (fun _ _ _ _ _ => (pe_lc (own := [("q", 2)]) (by rfl) sc_own_table.nd (pi_range1 (by rfl) T.b_range (pa_cons (pv 0) pa_nil)) (blkOk_by (by rfl))
      (fun _ _ _ _ _ => (pg_name (i := 2) sc_own_table.nd rfl (Or.inl rfl))) (fun _ _ _ _ _ => pts_nil) (fun _ _ _ _ _ => (pe_cmpR op_eq (pv 1) (pv 2) (nomark _)))))))), fun ds r hn hg => ?_⟩
  clear hu hu64 hu65 hr hn
  obtain ⟨n, hn, rfl, rfl⟩ := hg
  refine .inl (yo_ret (Ye.to (yf_lcN (v := upN) (n := n) (j := 1) (fun p => .list ((List.range n).map fun q => .bool (idF p q))) (yi_range1 (n := (n : Int)) (ya_cons (ye_var rfl) ya_nil) (by omega) (by omega)) (by omega) (by simp) ltr fun p hp => ?_).ye (by unfold encF encT; rw [encF_rows])))
  refine (yf_lcN (v := upN) (n := n) (j := 2) (fun q => .bool (idF p q)) (yi_range1 (n := (n : Int)) (ya_cons (ye_var rfl) ya_nil) (by omega) (by omega)) (by omega) (by simp) ltr fun q hq => ?_).ye
  exact (ye_eqI (ye_var rfl) (ye_var rfl)).to (congrArg PyData.bool (decide_eq_decide.mpr (show ((p : Int) = q) ↔ p = q by omega)))

theorem ok_either_table {P : Program} {w : World} {K : PySem.W.Frag} {mg : Str → Option Value} {base : Heap} {aR : Addr} {des : Array DictEntry} {dn : Nat} (T : Txt K w mg aR des dn)  : Cal P w K mg base 1 "either_table" ["one", "other"] g_either_table := by
  obtain ⟨f, fd, F, hm⟩ := T.f_either_table
  refine ⟨f, fd, ?_, hm, F.kp, F.binds fun _ _ _ _ _ _ us hl => match us, hl with | [_, _], _ => rfl⟩
  refine fn_by F sc_either_table (by decide) fun cdv A outer s H E hr => ?_
  have hu := hu_of hr
  have hu64 := hr.units
  have hu65 : (A.deeper (PyProof.Rows.envOfC "either_table" (defScope s_either_table) s.heap.objs.size f cdv)).units + 65 < cLine := by
    have := hr.un
    omega
  refine ⟨_, (pss_cons (ps_set (i := 2) sc_either_table.nd rfl (Or.inr rfl) (pe_callB (id := "len") (cLen K rfl) (by rfl) T.b_len (by decide +kernel) (pa_cons (pv 0) pa_nil)))
      (pss_one (ps_ret (pe_lc (own := [("p", 3)]) (by rfl) sc_either_table.nd (pi_range1 (by rfl) T.b_range (pa_cons (pv 2) pa_nil)) (blkOk_by (N := ["one", "other", "many", "p", "q"]) (sc := defScope s_either_table) (by decide +kernel))
      (fun _ _ _ _ _ => (pg_name (i := 3) sc_either_table.nd rfl (Or.inr rfl))) (fun _ _ _ _ _ => pts_nil) (fun _ _ _ _ _ => (pe_lc (own := [("q", 4)]) (by rfl) sc_either_table.nd (pi_range1 (by rfl) T.b_range (pa_cons (pv 2) pa_nil)) (blkOk_by (by rfl))
      (fun _ _ _ _ _ => (pg_name (i := 4) sc_either_table.nd rfl (Or.inl rfl))) (fun _ _ _ _ _ => pts_nil) (fun _ _ _ _ _ => (pe_or (pe_ix (ixL K rfl) (pe_ix (ixL K rfl) (pv 0) (pv 3) (fun _ _ => rfl)) (pv 4) (fun _ _ => rfl)) (pe_one (pe_ix (ixL K rfl) (pe_ix (ixL K rfl) (pv 1) (pv 3) (fun _ _ => rfl)) (pv 4) (fun _ _ => rfl))))))))))), fun ds r hn hg => ?_⟩
  clear hu hu64 hu65 hr hn
  obtain ⟨n, a, b, hn, rfl, rfl⟩ := hg
  refine .inl ?_
  refine yo_seq (yo_asg ((ye_lenL (Ye.yl (ye_var rfl))).to (d' := .int (n : Int)) (by rw [encF_len]))) ?_
  refine yo_ret (Ye.to (yf_lcN (v := upN) (n := n) (j := 3) (fun p => .list ((List.range n).map fun q => .bool (orF a b p q))) (yi_range1 (n := (n : Int)) (ya_cons (ye_var rfl) ya_nil) (by omega) (by omega)) (by omega) (by simp) ltr fun p hp => ?_).ye (by unfold encF encT; rw [encF_rows]))
  refine (yf_lcN (v := upN) (n := n) (j := 4) (fun q => .bool (orF a b p q)) (yi_range1 (n := (n : Int)) (ya_cons (ye_var rfl) ya_nil) (by omega) (by omega)) (by omega) (by simp) ltr fun q hq => ?_).ye
  exact ye_or (ye_bitF (ye_var rfl) (ye_var rfl) (ye_var rfl) hp hq) fun _ => ye_bitF (ye_var rfl) (ye_var rfl) (ye_var rfl) hp hq

theorem ok_behind_table {P : Program} {w : World} {K : PySem.W.Frag} {mg : Str → Option Value} {base : Heap} {aR : Addr} {des : Array DictEntry} {dn : Nat} (T : Txt K w mg aR des dn)  : Cal P w K mg base 1 "behind_table" ["one", "other"] g_behind_table := by
  obtain ⟨f, fd, F, hm⟩ := T.f_behind_table
  refine ⟨f, fd, ?_, hm, F.kp, F.binds fun _ _ _ _ _ _ us hl => match us, hl with | [_, _], _ => rfl⟩
  refine fn_by F sc_behind_table (by decide) fun cdv A outer s H E hr => ?_
  have hu := hu_of hr
  have hu64 := hr.units
  have hu65 : (A.deeper (PyProof.Rows.envOfC "behind_table" (defScope s_behind_table) s.heap.objs.size f cdv)).units + 65 < cLine := by
    have := hr.un
    omega
  refine ⟨_, (pss_cons (ps_set (i := 2) sc_behind_table.nd rfl (Or.inr rfl) (pe_callB (id := "len") (cLen K rfl) (by rfl) T.b_len (by decide +kernel) (pa_cons (pv 0) pa_nil)))
      (pss_cons (ps_set (i := 3) sc_behind_table.nd rfl (Or.inr rfl) (pe_lc (own := [("room", 4)]) (by rfl) sc_behind_table.nd (pi_range1 (by rfl) T.b_range (pa_cons (pv 2) pa_nil)) (blkOk_by (N := ["one", "other", "many", "table", "room", "p", "amid", "q"]) (sc := defScope s_behind_table) (by decide +kernel))
      (fun _ _ _ _ _ => (pg_name (i := 4) sc_behind_table.nd rfl (Or.inl rfl))) (fun _ _ _ _ _ => pts_nil) (fun _ _ _ _ _ => (pe_op op_rep (pe_lst (pa_cons pe_bl pa_nil)) (pv 2)))))
      (pss_cons (ps_for PassesOwn.never (by rfl) (pi_range1 (by rfl) T.b_range (pa_cons (pv 2) pa_nil)) (pg_name (i := 5) sc_behind_table.nd rfl (Or.inr rfl))
        (pss_one (ps_for PassesOwn.never (by rfl) (pi_range1 (by rfl) T.b_range (pa_cons (pv 2) pa_nil)) (pg_name (i := 6) sc_behind_table.nd rfl (Or.inr rfl))
          (pss_one (ps_if (pt_val (pe_ix (ixL K rfl) (pe_ix (ixL K rfl) (pv 0) (pv 5) (fun _ _ => rfl)) (pv 6) (fun _ _ => rfl)))
            (pss_one (ps_asg (pe_lc (own := [("q", 7)]) (by rfl) sc_behind_table.nd (pi_range1 (by rfl) T.b_range (pa_cons (pv 2) pa_nil)) (blkOk_by (N := ["one", "other", "many", "table", "room", "p", "amid", "q"]) (sc := defScope s_behind_table) (by decide +kernel))
      (fun _ _ _ _ _ => (pg_name (i := 7) sc_behind_table.nd rfl (Or.inl rfl))) (fun _ _ _ _ _ => pts_nil) (fun _ _ _ _ _ => (pe_or (pe_ix (ixL K rfl) (pe_ix (ixL K rfl) (pv 3) (pv 5) (fun _ _ => rfl)) (pv 7) (fun _ _ => rfl)) (pe_one (pe_ix (ixL K rfl) (pe_ix (ixL K rfl) (pv 1) (pv 6) (fun _ _ => rfl)) (pv 7) (fun _ _ => rfl)))))) (pg_sub (pv 3) (pv 5) set_list)))
            pss_nil)))))
      (pss_one (ps_ret (pv 3)))))), fun ds r hn hg => ?_⟩
  clear hu hu64 hu65 hr hn
  obtain ⟨n, a, b, hn, rfl, rfl⟩ := hg
  refine .inl ?_
  refine yo_seq (yo_asg ((ye_lenL (Ye.yl (ye_var rfl))).to (d' := .int (n : Int)) (by rw [encF_len]))) ?_
  refine yo_seq (yo_asgM (xs := (tabF n (bhF n a b 0 0)).map encB) (Yf.to (yf_lcN (v := upN) (n := n) (j := 4) (fun p => .list ((List.range n).map fun q => .bool (bhF n a b 0 0 p q))) (yi_range1 (n := (n : Int)) (ya_cons (ye_var rfl) ya_nil) (by omega) (by omega)) (by omega) (by simp) ltr fun p hp => ?_) (by rw [encF_rows]))) ?_
  · refine (Yf.to (yf_rep (k := (n : Int)) (yf_lst (ya_cons ye_bl ya_nil) (show (1 : Nat) ≤ 100000 by decide)) (ye_var rfl) (by omega) (by simp; omega) (by omega)) ?_).ye
    rw [Int.toNat_natCast, flat_rep]
    refine List.map_congr_left fun q _ => congrArg PyData.bool ?_
    unfold bhF
    rw [if_neg (Nat.not_lt_zero p)]
    split <;> rfl
  refine yo_seq (yo_forN (yi_range1 (ya_cons (ye_var rfl) ya_nil) (by omega) (by omega)) (fun p => [.im (encF n a), .im (encF n b), .im (.int n), .ml ((tabF n (bhF n a b p 0)).map encB), .no, .no, .no, .no]) rfl (fun _ => by simp) fun p hp => ?_) ?_
  · have hp : p < n := by omega
    refine yo_weak (yo_forN (yi_range1 (ya_cons (ye_var rfl) ya_nil) (by omega) (by omega)) (fun i => [.im (encF n a), .im (encF n b), .im (.int n), .ml ((tabF n (bhF n a b p i)).map encB), .no, .im (.int p), .no, .no]) rfl (fun _ => by simp) fun i hi => ?_) ?_
    · have hi : i < n := by omega
      refine yo_if (yt_B (ye_bitF (ye_var rfl) (ye_var rfl) (ye_var rfl) hp hi)) (fun hb => ?_) (fun hb => ?_)
      · refine Yo.to (yo_weak (yo_setM (j := p) rfl (yf_lcN (v := upN) (n := n) (j := 7) (fun q => .bool (bhF n a b p i p q || b i q)) (yi_range1 (n := (n : Int)) (ya_cons (ye_var rfl) ya_nil) (by omega) (by omega)) (by omega) (by simp) ltr fun q hq => ?_).ye (ye_var rfl) (by rw [encF_len]; exact hp)) (.same (.same (.same (.same (.same (.same (.drop (.drop .nil))))))))) ?_
        · exact ye_or ((ye_bit sq_tabF (yl_var rfl) (ye_var rfl) (ye_var rfl) hp hq).to (congrArg PyData.bool (bit_tabF hp hq))) fun _ => ye_bitF (ye_var rfl) (ye_var rfl) (ye_var rfl) hi hq
        · have e : ((tabF n (bhF n a b p i)).map encB).set p (PyData.list ((List.range n).map fun q => .bool (bhF n a b p i p q || b i q))) = (tabF n (bhF n a b p (i + 1))).map encB := by
            rw [encF_rows, encF_rows, rows_set hp]
            refine List.map_congr_left fun p' _ => ?_
            by_cases e : p' = p
            · subst e
              rw [if_pos rfl]
              refine congrArg PyData.list (List.map_congr_left fun q _ => congrArg PyData.bool ?_)
              rw [bhF_at, bhF_at, any_range_succ, hb, Bool.true_and]
            · rw [if_neg e]
              refine congrArg PyData.list (List.map_congr_left fun q _ => congrArg PyData.bool (bhF_ne e))
          show _ = [Ent.im (encF n a), .im (encF n b), .im (.int n), .ml ((tabF n (bhF n a b p (i + 1))).map encB), .no, .im (.int p), .no, .no]
          rw [← e]
      · refine Yo.to (yo_weak yo_nx (.same (.same (.same (.same (.same (.same (.drop (.same .nil))))))))) ?_
        have e : tabF n (bhF n a b p i) = tabF n (bhF n a b p (i + 1)) := tabF_congr fun p' _ q _ => by
          by_cases e : p' = p
          · subst e
            rw [bhF_at, bhF_at, any_range_succ, hb, Bool.false_and, Bool.or_false]
          · exact bhF_ne e
        rw [← e]
    · have e : tabF n (bhF n a b p n) = tabF n (bhF n a b (p + 1) 0) := tabF_congr fun p' _ q _ => bhF_next
      show Wk _ [Ent.im (encF n a), .im (encF n b), .im (.int n), .ml ((tabF n (bhF n a b (p + 1) 0)).map encB), .no, .no, .no, .no]
      rw [← e]
      exact .same (.same (.same (.same (.same (.drop (.same (.same .nil)))))))
  · refine yo_freeze (i := 3) rfl (yo_ret ((ye_var rfl).to ?_))
    refine encF_congr fun p hp q hq => ?_
    unfold bhF
    exact if_pos (by omega)

theorem ok_steps_table {P : Program} {w : World} {K : PySem.W.Frag} {mg : Str → Option Value} {base : Heap} {aR : Addr} {des : Array DictEntry} {dn : Nat} (T : Txt K w mg aR des dn)  : Cal P w K mg base 1 "steps_table" ["house", "deeds"] g_steps_table := by
  obtain ⟨f, fd, F, hm⟩ := T.f_steps_table
  refine ⟨f, fd, ?_, hm, F.kp, F.binds fun _ _ _ _ _ _ us hl => match us, hl with | [_, _], _ => rfl⟩
  refine fn_by F sc_steps_table (by decide) fun cdv A outer s H E hr => ?_
  have hu := hu_of hr
  have hu64 := hr.units
  have hu65 : (A.deeper (PyProof.Rows.envOfC "steps_table" (defScope s_steps_table) s.heap.objs.size f cdv)).units + 65 < cLine := by
    have := hr.un
    omega
  refine ⟨_, (pss_cons (ps_asg (pv 0) (pgT (n := 2) K rfl rfl (pgs_cons (pg_name (i := 2) sc_steps_table.nd rfl (Or.inr rfl)) (pgs_cons (pg_name (i := 3) sc_steps_table.nd rfl (Or.inl rfl)) pgs_nil))))
      (pss_cons (ps_setLc (i := 4) (own := [("room", 5)]) (by rfl) sc_steps_table.nd rfl rfl (sw_true rfl rfl rfl (by decide +kernel)) (pi_range1 (by rfl) T.b_range (pa_cons (pv 2) pa_nil)) (blkOk_by (N := ["house", "deeds", "many", "ways", "table", "room", "deed", "other", "sign"]) (sc := defScope s_steps_table) (by decide +kernel))
      (fun _ _ _ _ _ => (pg_name (i := 5) sc_steps_table.nd rfl (Or.inl rfl))) (fun _ _ _ _ _ => pts_nil) (fun _ _ _ _ _ => (pe_op op_rep (pe_lst (pa_cons pe_bl pa_nil)) (pv 2))))
      (pss_cons (ps_for PassesOwn.never (by rfl) (piT K rfl (pv 3)) (pgT (n := 4) K rfl rfl (pgs_cons (pg_name (i := 5) sc_steps_table.nd rfl (Or.inl rfl)) (pgs_cons (pg_name (i := 6) sc_steps_table.nd rfl (Or.inl rfl)) (pgs_cons (pg_name (i := 7) sc_steps_table.nd rfl (Or.inl rfl)) (pgs_cons (pg_name (i := 8) sc_steps_table.nd rfl (Or.inl rfl)) pgs_nil)))))
        (pss_one (ps_if (pt_cmpR (opIn K rfl) (pv 6) (pv 1) (by rfl))
          (pss_one (ps_asg pe_bl (pg_sub (pe_ix (ixL K rfl) (pv 4) (pv 5) (fun _ _ => rfl)) (pv 7) set_list)))
          pss_nil)))
      (pss_one (ps_ret (pv 4)))))), fun ds r hn hg => ?_⟩
  clear hu hu64 hu65 hr hn
  obtain ⟨h, D, gd, rfl, rfl⟩ := hg
  refine .inl ?_
  obtain ⟨n, ws⟩ := h
  have hn : n ≤ 12 := gd.few
  have hs : ws.length ≤ 40 := gd.short
  have hm : ∀ v ∈ ws, v.room < n := gd.room
  have ho : ∀ v ∈ ws, v.other < n := gd.other
  clear gd
  refine yo_seq (yo_asgG (ye_var rfl) (yg_tup rfl (ygs_cons (yg_name ltr) (ygs_cons (yg_name ltr) ygs_nil)))) ?_
  refine yo_seq (yo_asgT (rows := rowsOf' n (stW [] D)) (yft_lc (v := upN) (n := n) (j := 5) (fun p => (List.range n).map fun q => .bool (stW [] D p q)) (yi_range1 (n := (n : Int)) (ya_cons (ye_var rfl) ya_nil) (by omega) (by omega)) (by omega) (by simp) ltr fun p hp => ?_)) ?_
  · refine Yf.to (yf_rep (k := (n : Int)) (yf_lst (ya_cons ye_bl ya_nil) (show (1 : Nat) ≤ 100000 by decide)) (ye_var rfl) (by omega) (by simp; omega) (by omega)) ?_
    rw [Int.toNat_natCast, flat_rep]
    rfl
  refine yo_seq (yo_for (items := ws.map Way.enc) (yi_tup (ye_var rfl)) (fun i => [.im (House.enc ⟨n, ws⟩), .im (encD D), .im (.int n), .im (encWs ws), .mt (rowsOf' n (stW (ws.take i) D)), .no, .no, .no, .no]) rfl fun i d hd => ?_) ?_
  · rw [List.getElem?_map] at hd
    obtain ⟨v, e, rfl⟩ := Option.map_eq_some_iff.mp hd
    have hv := List.mem_of_getElem? e
    have tk : ws.take (i + 1) = ws.take i ++ [v] := by rw [List.take_add_one, e]; rfl
    have st : ∀ p q, stW (ws.take (i + 1)) D p q = (stW (ws.take i) D p q || (decide (v.room = p) && decide (v.other = q) && decide (v.deed ∈ D))) := fun p q => by
      unfold stW
      rw [tk, List.any_append]
      simp
    refine ⟨_, _, yg_tup rfl (ygs_cons (yg_name ltr) (ygs_cons (yg_name ltr) (ygs_cons (yg_name ltr) (ygs_cons (yg_name ltr) ygs_nil)))), ?_⟩
    refine yo_if (b := decide (v.deed ∈ D)) (Yt.to (yt_test (ye_in (neg := false) (ye_var rfl) (Ye.yl (ye_var rfl)) rfl (by simp [flatD]))) ?_) (fun hb => ?_) fun hb => ?_
    · exact inV_deed
    · refine Yo.to (yo_weak (yo_mtSet (j := v.room) (k := v.other) (r := (List.range n).map fun q => .bool (stW (ws.take i) D v.room q)) rfl ye_bl (ye_var rfl) (ye_var rfl) ?_ ?_) (.same (.same (.same (.same (.same (.drop (.drop (.drop (.drop .nil)))))))))) ?_
      · unfold rowsOf'
        rw [List.getElem?_map, List.getElem?_range (hm v hv)]
        rfl
      · rw [List.length_map, List.length_range]
        exact ho v hv
      · have z := rowsOf'_set (n := n) (f := stW (ws.take i) D) (g := stW (ws.take (i + 1)) D) (hm v hv) (ho v hv) fun p' q' => by rw [st, hb, Bool.and_true]
        rw [← z]
    · refine Yo.to (yo_weak yo_nx (.same (.same (.same (.same (.same (.drop (.drop (.drop (.drop .nil)))))))))) ?_
      have z : stW (ws.take (i + 1)) D = stW (ws.take i) D := funext fun p => funext fun q => by rw [st, hb, Bool.and_false, Bool.or_false]
      rw [z]
  · rw [List.length_map, List.take_length]
    refine yo_freezeT (i := 4) rfl (yo_ret ((ye_var rfl).to ?_))
    rw [rowsOf'_enc]
    rfl

theorem ok_hill_table {P : Program} {w : World} {K : PySem.W.Frag} {mg : Str → Option Value} {base : Heap} {aR : Addr} {des : Array DictEntry} {dn : Nat} (T : Txt K w mg aR des dn) (C_behind_table : Cal P w K mg base 1 "behind_table" ["one", "other"] g_behind_table) (C_steps_table : Cal P w K mg base 1 "steps_table" ["house", "deeds"] g_steps_table) : Cal P w K mg base 2 "hill_table" ["house", "keeps"] g_hill_table := by
  obtain ⟨f, fd, F, hm⟩ := T.f_hill_table
  refine ⟨f, fd, ?_, hm, F.kp, F.binds fun _ _ _ _ _ _ us hl => match us, hl with | [_, _], _ => rfl⟩
  refine fn_by F sc_hill_table (by decide) fun cdv A outer s H E hr => ?_
  have hu := hu_of hr
  have hu64 := hr.units
  have hu65 : (A.deeper (PyProof.Rows.envOfC "hill_table" (defScope s_hill_table) s.heap.objs.size f cdv)).units + 65 < cLine := by
    have := hr.un
    omega
  refine ⟨_, (pss_one (ps_ret (peCal K C_behind_table rfl rfl rfl rfl rfl hr (by rfl) (pa_cons (peCal K C_behind_table rfl rfl rfl rfl rfl hr (by rfl) (pa_cons (peCal K C_steps_table rfl rfl rfl rfl rfl hr (by rfl) (pa_cons (pv 0) (pa_cons (pe_lst (pa_cons pe_str pa_nil)) pa_nil))) (pa_cons (pv 1) pa_nil))) (pa_cons (peCal K C_steps_table rfl rfl rfl rfl rfl hr (by rfl) (pa_cons (pv 0) (pa_cons (pe_lst (pa_cons pe_str pa_nil)) pa_nil))) pa_nil))))), fun ds r hn hg => ?_⟩
  clear hu hu64 hu65 hr hn
  obtain ⟨h, a, gd, rfl, rfl⟩ := hg
  exact .inl (yo_ret (ye_call (ya_cons (ye_call (ya_cons (ye_call (ya_cons (ye_var rfl) (ya_cons (yf_lst (ya_cons ye_str ya_nil) (show (1 : Nat) ≤ 100000 by decide)).ye ya_nil)) rfl ⟨h, [.up], gd, rfl, rfl⟩) (ya_cons (ye_var rfl) ya_nil)) rfl ⟨h.many, _, a, gd.few, rfl, rfl⟩)
    (ya_cons (ye_call (ya_cons (ye_var rfl) (ya_cons (yf_lst (ya_cons ye_str ya_nil) (show (1 : Nat) ≤ 100000 by decide)).ye ya_nil)) rfl ⟨h, [.down], gd, rfl, rfl⟩) ya_nil)) rfl ⟨h.many, _, _, gd.few, rfl, rfl⟩))

theorem ok_rises_table {P : Program} {w : World} {K : PySem.W.Frag} {mg : Str → Option Value} {base : Heap} {aR : Addr} {des : Array DictEntry} {dn : Nat} (T : Txt K w mg aR des dn) (C_behind_table : Cal P w K mg base 1 "behind_table" ["one", "other"] g_behind_table) (C_steps_table : Cal P w K mg base 1 "steps_table" ["house", "deeds"] g_steps_table) : Cal P w K mg base 2 "rises_table" ["house", "keeps"] g_rises_table := by
  obtain ⟨f, fd, F, hm⟩ := T.f_rises_table
  refine ⟨f, fd, ?_, hm, F.kp, F.binds fun _ _ _ _ _ _ us hl => match us, hl with | [_, _], _ => rfl⟩
  refine fn_by F sc_rises_table (by decide) fun cdv A outer s H E hr => ?_
  have hu := hu_of hr
  have hu64 := hr.units
  have hu65 : (A.deeper (PyProof.Rows.envOfC "rises_table" (defScope s_rises_table) s.heap.objs.size f cdv)).units + 65 < cLine := by
    have := hr.un
    omega
  refine ⟨_, (pss_one (ps_ret (peCal K C_behind_table rfl rfl rfl rfl rfl hr (by rfl) (pa_cons (peCal K C_steps_table rfl rfl rfl rfl rfl hr (by rfl) (pa_cons (pv 0) (pa_cons (pe_lst (pa_cons pe_str pa_nil)) pa_nil))) (pa_cons (pv 1) pa_nil))))), fun ds r hn hg => ?_⟩
  clear hu hu64 hu65 hr hn
  obtain ⟨h, a, gd, rfl, rfl⟩ := hg
  exact .inl (yo_ret (ye_call (ya_cons (ye_call (ya_cons (ye_var rfl) (ya_cons (yf_lst (ya_cons ye_str ya_nil) (show (1 : Nat) ≤ 100000 by decide)).ye ya_nil)) rfl ⟨h, [.up], gd, rfl, rfl⟩) (ya_cons (ye_var rfl) ya_nil)) rfl ⟨h.many, _, a, gd.few, rfl, rfl⟩))

theorem ok_falls_table {P : Program} {w : World} {K : PySem.W.Frag} {mg : Str → Option Value} {base : Heap} {aR : Addr} {des : Array DictEntry} {dn : Nat} (T : Txt K w mg aR des dn) (C_behind_table : Cal P w K mg base 1 "behind_table" ["one", "other"] g_behind_table) (C_steps_table : Cal P w K mg base 1 "steps_table" ["house", "deeds"] g_steps_table) : Cal P w K mg base 2 "falls_table" ["house", "keeps"] g_falls_table := by
  obtain ⟨f, fd, F, hm⟩ := T.f_falls_table
  refine ⟨f, fd, ?_, hm, F.kp, F.binds fun _ _ _ _ _ _ us hl => match us, hl with | [_, _], _ => rfl⟩
  refine fn_by F sc_falls_table (by decide) fun cdv A outer s H E hr => ?_
  have hu := hu_of hr
  have hu64 := hr.units
  have hu65 : (A.deeper (PyProof.Rows.envOfC "falls_table" (defScope s_falls_table) s.heap.objs.size f cdv)).units + 65 < cLine := by
    have := hr.un
    omega
  refine ⟨_, (pss_one (ps_ret (peCal K C_behind_table rfl rfl rfl rfl rfl hr (by rfl) (pa_cons (pv 1) (pa_cons (peCal K C_steps_table rfl rfl rfl rfl rfl hr (by rfl) (pa_cons (pv 0) (pa_cons (pe_lst (pa_cons pe_str pa_nil)) pa_nil))) pa_nil))))), fun ds r hn hg => ?_⟩
  clear hu hu64 hu65 hr hn
  obtain ⟨h, a, gd, rfl, rfl⟩ := hg
  exact .inl (yo_ret (ye_call (ya_cons (ye_var rfl) (ya_cons (ye_call (ya_cons (ye_var rfl) (ya_cons (yf_lst (ya_cons ye_str ya_nil) (show (1 : Nat) ≤ 100000 by decide)).ye ya_nil)) rfl ⟨h, [.down], gd, rfl, rfl⟩) ya_nil)) rfl ⟨h.many, a, _, gd.few, rfl, rfl⟩))

theorem ok_ground_table {P : Program} {w : World} {K : PySem.W.Frag} {mg : Str → Option Value} {base : Heap} {aR : Addr} {des : Array DictEntry} {dn : Nat} (T : Txt K w mg aR des dn) (C_closed_table : Cal P w K mg base 1 "closed_table" ["table"] g_closed_table) (C_either_table : Cal P w K mg base 1 "either_table" ["one", "other"] g_either_table) (C_hill_table : Cal P w K mg base 2 "hill_table" ["house", "keeps"] g_hill_table) (C_own_table : Cal P w K mg base 1 "own_table" ["many"] g_own_table) (C_steps_table : Cal P w K mg base 1 "steps_table" ["house", "deeds"] g_steps_table) : Cal P w K mg base 3 "ground_table" ["house", "keeps"] g_ground_table := by
  obtain ⟨f, fd, F, hm⟩ := T.f_ground_table
  refine ⟨f, fd, ?_, hm, F.kp, F.binds fun _ _ _ _ _ _ us hl => match us, hl with | [_, _], _ => rfl⟩
  refine fn_by F sc_ground_table (by decide) fun cdv A outer s H E hr => ?_
  have hu := hu_of hr
  have hu64 := hr.units
  have hu65 : (A.deeper (PyProof.Rows.envOfC "ground_table" (defScope s_ground_table) s.heap.objs.size f cdv)).units + 65 < cLine := by
    have := hr.un
    omega
  refine ⟨_, (pss_cons (ps_set (i := 2) sc_ground_table.nd rfl (Or.inl rfl) (peCal K C_either_table rfl rfl rfl rfl rfl (hr.mono (by decide)) (by rfl) (pa_cons (peCal K C_own_table rfl rfl rfl rfl rfl (hr.mono (by decide)) (by rfl) (pa_cons (pe_ix (ixT K rfl) (pv 0) pe_int (fun _ _ => rfl)) pa_nil)) (pa_cons (peCal K C_steps_table rfl rfl rfl rfl rfl (hr.mono (by decide)) (by rfl) (pa_cons (pv 0) (pa_cons (pe_lst (pa_cons pe_str (pa_cons pe_str pa_nil))) pa_nil))) pa_nil))))
      (pss_one (ps_ret (peCal K C_closed_table rfl rfl rfl rfl rfl (hr.mono (by decide)) (by rfl) (pa_cons (peCal K C_either_table rfl rfl rfl rfl rfl (hr.mono (by decide)) (by rfl) (pa_cons (pv 2) (pa_cons (peCal K C_hill_table rfl rfl rfl rfl rfl hr (by rfl) (pa_cons (pv 0) (pa_cons (pv 1) pa_nil))) pa_nil))) pa_nil))))), fun ds r hn hg => ?_⟩
  clear hu hu64 hu65 hr hn
  obtain ⟨h, a, gd, rfl, rfl⟩ := hg
  refine .inl ?_
  refine yo_seq (yo_asg (ye_call (ya_cons (ye_call (ya_cons (ye_ixT (d := .int h.many) (ye_var rfl) ye_int rfl) ya_nil) rfl ⟨h.many, gd.few, rfl, rfl⟩) (ya_cons (ye_call (ya_cons (ye_var rfl) (ya_cons (yf_lst (ya_cons ye_str (ya_cons ye_str ya_nil)) (show (2 : Nat) ≤ 100000 by decide)).ye ya_nil)) rfl ⟨h, [.stay, .zero], gd, rfl, rfl⟩) ya_nil)) rfl ⟨h.many, idF, stepF h [.stay, .zero], gd.few, rfl, rfl⟩)) ?_
  exact yo_ret (ye_call (ya_cons (ye_call (ya_cons (ye_var rfl) (ya_cons (ye_call (ya_cons (ye_var rfl) (ya_cons (ye_var rfl) ya_nil)) rfl ⟨h, a, gd, rfl, rfl⟩) ya_nil)) rfl ⟨h.many, orF idF (stepF h [.stay, .zero]), hillF h a, gd.few, rfl, rfl⟩) ya_nil) rfl (call_closed gd.few))

theorem ok_keeps_table {P : Program} {w : World} {K : PySem.W.Frag} {mg : Str → Option Value} {base : Heap} {aR : Addr} {des : Array DictEntry} {dn : Nat} (T : Txt K w mg aR des dn) (C_closed_table : Cal P w K mg base 1 "closed_table" ["table"] g_closed_table) (C_either_table : Cal P w K mg base 1 "either_table" ["one", "other"] g_either_table) (C_hill_table : Cal P w K mg base 2 "hill_table" ["house", "keeps"] g_hill_table) (C_own_table : Cal P w K mg base 1 "own_table" ["many"] g_own_table) (C_steps_table : Cal P w K mg base 1 "steps_table" ["house", "deeds"] g_steps_table) : Cal P w K mg base 3 "keeps_table" ["house"] g_keeps_table := by
  obtain ⟨f, fd, F, hm⟩ := T.f_keeps_table
  refine ⟨f, fd, ?_, hm, F.kp, F.binds fun _ _ _ _ _ _ us hl => match us, hl with | [_], _ => rfl⟩
  refine fn_by F sc_keeps_table (by decide) fun cdv A outer s H E hr => ?_
  have hu := hu_of hr
  have hu64 := hr.units
  have hu65 : (A.deeper (PyProof.Rows.envOfC "keeps_table" (defScope s_keeps_table) s.heap.objs.size f cdv)).units + 65 < cLine := by
    have := hr.un
    omega
  refine ⟨_, (pss_cons (ps_set (i := 1) sc_keeps_table.nd rfl (Or.inl rfl) (peCal K C_closed_table rfl rfl rfl rfl rfl (hr.mono (by decide)) (by rfl) (pa_cons (peCal K C_either_table rfl rfl rfl rfl rfl (hr.mono (by decide)) (by rfl) (pa_cons (peCal K C_own_table rfl rfl rfl rfl rfl (hr.mono (by decide)) (by rfl) (pa_cons (pe_ix (ixT K rfl) (pv 0) pe_int (fun _ _ => rfl)) pa_nil)) (pa_cons (peCal K C_steps_table rfl rfl rfl rfl rfl (hr.mono (by decide)) (by rfl) (pa_cons (pv 0) (pa_cons (pe_lst (pa_cons pe_str pa_nil)) pa_nil))) pa_nil))) pa_nil)))
      (pss_cons (ps_set (i := 2) sc_keeps_table.nd rfl (Or.inl rfl) pe_bl)
      (pss_cons (ps_while PassesOwn.never (pt_val (pv 2))
        (pss_cons (ps_set (i := 3) sc_keeps_table.nd rfl (Or.inl rfl) (peCal K C_closed_table rfl rfl rfl rfl rfl (hr.mono (by decide)) (by rfl) (pa_cons (peCal K C_either_table rfl rfl rfl rfl rfl (hr.mono (by decide)) (by rfl) (pa_cons (pv 1) (pa_cons (peCal K C_hill_table rfl rfl rfl rfl rfl hr (by rfl) (pa_cons (pv 0) (pa_cons (pv 1) pa_nil))) pa_nil))) pa_nil)))
        (pss_cons (ps_set (i := 2) sc_keeps_table.nd rfl (Or.inl rfl) (pe_cmpR (opNeD K rfl hu64) (pv 3) (pv 1) (nomark _)))
        (pss_one (ps_set (i := 1) sc_keeps_table.nd rfl (Or.inl rfl) (pv 3))))))
      (pss_one (ps_ret (pv 1)))))), fun ds r hn hg => ?_⟩
  clear hu hu64 hu65 hr hn
  obtain ⟨h, m, gd, kp, rfl, rfl⟩ := hg
  refine .inl ?_
  refine yo_seq (yo_asg (ye_call (ya_cons (ye_call (ya_cons (ye_call (ya_cons (ye_ixT (d := .int h.many) (ye_var rfl) ye_int rfl) ya_nil) rfl ⟨h.many, gd.few, rfl, rfl⟩) (ya_cons (ye_call (ya_cons (ye_var rfl) (ya_cons (yf_lst (ya_cons ye_str ya_nil) (show (1 : Nat) ≤ 100000 by decide)).ye ya_nil)) rfl ⟨h, [.stay], gd, rfl, rfl⟩) ya_nil)) rfl ⟨h.many, idF, stepF h [.stay], gd.few, rfl, rfl⟩) ya_nil) rfl (call_closed gd.few))) ?_
  refine yo_seq (yo_asg ye_bl) ?_
  refine yo_seq (yo_while (m + 1) (fun i => [.im h.enc, .im (encF h.many (kIt h i)), .im (.bool (decide (i ≤ m))), .no]) (by rw [decide_eq_true (Nat.zero_le m)]; rfl) (fun i hi => Yt.to (yt_B (ye_var rfl)) (decide_eq_true (by omega))) (fun i hi => ?_) (Yt.to (yt_B (ye_var rfl)) (decide_eq_false (by omega)))) ?_
  · refine yo_seq (yo_asg (ye_call (ya_cons (ye_call (ya_cons (ye_var rfl) (ya_cons (ye_call (ya_cons (ye_var rfl) (ya_cons (ye_var rfl) ya_nil)) rfl ⟨h, kIt h i, gd, rfl, rfl⟩) ya_nil)) rfl ⟨h.many, kIt h i, hillF h (kIt h i), gd.few, rfl, rfl⟩) ya_nil) rfl (call_closed gd.few))) ?_
    refine yo_seq (yo_asg (ye_neD (x := encF h.many (kIt h (i + 1))) (y := encF h.many (kIt h i)) (ye_var rfl) (ye_var rfl) shaped_encF shaped_encF)) ?_
    refine Yo.to (yo_weak (yo_asg (ye_var rfl)) (.same (.same (.same (.drop .nil))))) ?_
    have e : (!PyData.eqv (encF h.many (kIt h (i + 1))) (encF h.many (kIt h i))) = decide (i + 1 ≤ m) := by
      by_cases e : i < m
      · rw [decide_eq_true (by omega : i + 1 ≤ m), Bool.not_eq_true', Bool.eq_false_iff]
        exact fun z => kp.before i e (eqv_encF.mp z)
      · have e2 : i = m := by omega
        subst e2
        rw [decide_eq_false (by omega : ¬ i + 1 ≤ i), eqv_encF.mpr kp.fix]
        rfl
    show [Ent.im h.enc, .im (encF h.many (kIt h (i + 1))), .im (.bool (!PyData.eqv (encF h.many (kIt h (i + 1))) (encF h.many (kIt h i)))), .no] = _
    rw [e]
  · exact yo_ret ((ye_var rfl).to (encF_congr kp.fix))


end Sr
set_option Elab.async false
set_option linter.all false
set_option maxRecDepth 100000
set_option maxHeartbeats 4000000
set_option autoImplicit false
namespace Sr
open PySem L2

theorem ok_is_number {P : Program} {w : World} {K : PySem.W.Frag} {mg : Str → Option Value} {base : Heap} {aR : Addr} {des : Array DictEntry} {dn : Nat} (T : Txt K w mg aR des dn)  : Cal P w K mg base 1 "is_number" ["thing"] g_is_number := by
  obtain ⟨f, fd, F, hm⟩ := T.f_is_number
  refine ⟨f, fd, ?_, hm, F.kp, F.binds fun _ _ _ _ _ _ us hl => match us, hl with | [_], _ => rfl⟩
  refine fn_by F sc_is_number (by decide) fun cdv A outer s H E hr => ?_
  have hu := hu_of hr
  have hu64 := hr.units
  have hu65 : (A.deeper (PyProof.Rows.envOfC "is_number" (defScope s_is_number) s.heap.objs.size f cdv)).units + 65 < cLine := by
    have := hr.un
    omega
  refine ⟨_, (pss_one (ps_ret (pe_and (pe_callB (id := "isinstance") (cIsi K rfl) (by rfl) T.b_isinstance (by decide +kernel) (pa_cons (pv 0) (pa_cons (pe_bltn (v := .ty "int") (by rfl) T.b_int (by decide +kernel) rfl) pa_nil))) (pe_one (pe_not (pe_callB (id := "isinstance") (cIsi K rfl) (by rfl) T.b_isinstance (by decide +kernel) (pa_cons (pv 0) (pa_cons (pe_bltn (v := .ty "bool") (by rfl) T.b_bool (by decide +kernel) rfl) pa_nil)))))))), fun ds r hn hg => ?_⟩
  clear hu hu64 hu65 hr hn
  obtain ⟨i, rfl, rfl⟩ := hg
  exact .inl (yo_ret (ye_and (ye_isI (ye_var rfl)) fun _ => ye_not (ye_isB (ye_var rfl))))
theorem rgsize_one {x m s : Nat} (h1 : x < m) (h2 : m ≤ x + s) (h5 : 1 ≤ s) : Builtin.Range.rangeSize (x : Int) (m : Int) (s : Int) = 1 := by
  unfold Builtin.Range.rangeSize
  rw [if_pos (by omega), if_pos (by omega)]
  rw [Int.ediv_eq_zero_of_lt (by omega) (by omega)]
  rfl
theorem rgc_one {x m s : Nat} (h1 : x < m) (h2 : m ≤ x + s) (h3 : m ≤ 4000) (h4 : s ≤ 840) (h5 : 1 ≤ s) : RgC (x : Int) (m : Int) (s : Int) 1 := by
  refine ⟨by omega, by omega, ?_, ?_⟩
  · unfold Builtin.Range.small
    rw [rgsize_one h1 h2 h5]
    simp only [Builtin.Range.rangeFitsLong, Bool.and_eq_true, Bool.or_eq_true, decide_eq_true_eq, beq_iff_eq, show ((s : Int) > 0) by omega, if_true]
    omega
  · exact rgsize_one h1 h2 h5

theorem ok_is_rising {P : Program} {w : World} {K : PySem.W.Frag} {mg : Str → Option Value} {base : Heap} {aR : Addr} {des : Array DictEntry} {dn : Nat} (T : Txt K w mg aR des dn) (C_is_number : Cal P w K mg base 1 "is_number" ["thing"] g_is_number) : Cal P w K mg base 2 "is_rising" ["row", "low", "high"] g_is_rising := by
  obtain ⟨f, fd, F, hm⟩ := T.f_is_rising
  refine ⟨f, fd, ?_, hm, F.kp, F.binds fun _ _ _ _ _ _ us hl => match us, hl with | [_, _, _], _ => rfl⟩
  refine fn_by F sc_is_rising (by decide) fun cdv A outer s H E hr => ?_
  have hu := hu_of hr
  have hu64 := hr.units
  have hu65 : (A.deeper (PyProof.Rows.envOfC "is_rising" (defScope s_is_rising) s.heap.objs.size f cdv)).units + 65 < cLine := by
    have := hr.un
    omega
  refine ⟨_, (pss_cons (ps_if (PW.pt (pw_or (pt_not (pt_val (pe_callB (id := "isinstance") (cIsi K rfl) (by rfl) T.b_isinstance (by decide +kernel) (pa_cons (pv 0) (pa_cons (pe_bltn (v := .ty "tuple") (by rfl) T.b_tuple (by decide +kernel) rfl) pa_nil))))) (pw_or1 (pt_not (pt_val (pe_callB (id := "all") (cAll K rfl rfl) (by rfl) T.b_all (by decide +kernel) (pa_cons (pe_lc (own := [("x", 3)]) (by rfl) sc_is_rising.nd (piT K rfl (pv 0)) (blkOk_by (N := ["row", "low", "high", "x", "last"]) (sc := defScope s_is_rising) (by decide +kernel))
      (fun _ _ _ _ _ => (pg_name (i := 3) sc_is_rising.nd rfl (Or.inl rfl))) (fun _ _ _ _ _ => pts_nil) (fun _ _ _ _ _ => (peCal K C_is_number rfl rfl rfl rfl rfl hr (by rfl) (pa_cons (pv 3) pa_nil)))) pa_nil)))))))
        (pss_one (ps_ret pe_bl))
        pss_nil)
      (pss_cons (ps_set (i := 4) sc_is_rising.nd rfl (Or.inl rfl) (pe_op op_sub (pv 1) pe_int))
      (pss_cons (ps_for PassesOwn.never (by rfl) (piT K rfl (pv 0)) (pg_name (i := 3) sc_is_rising.nd rfl (Or.inl rfl))
        (pss_cons (ps_if (PW.pt (pw_or (pt_cmpR op_le (pv 3) (pv 4) (nomark _)) (pw_or1 (pt_cmpR op_ge (pv 3) (pv 2) (nomark _)))))
          (pss_one (ps_ret pe_bl))
          pss_nil)
        (pss_one (ps_set (i := 4) sc_is_rising.nd rfl (Or.inl rfl) (pv 3)))))
      (pss_one (ps_ret pe_bl))))), fun ds r hn hg => ?_⟩
  clear hu hu64 hu65 hr hn
  obtain ⟨ns, lo, hi, h1, h2, h3, rfl, rfl⟩ := hg
  refine .inl ?_
  have ft : (ns.map fun _ => true).all id = true := by simp
  refine yo_seq (yo_if (b := false) (Yt.to (yt_or (yt_not (yt_B (ye_isT (ye_var rfl)))) fun _ => yt_not (yt_B (Ye.to (ye_all (bs := ns.map fun _ => true) (Yf.yl (Yf.to (yf_lcA (as := ns) (enc := fun n : Nat => .int n) (fun _ => true) (fun _ => .bool true) (yi_tup (ye_var rfl)) (by omega) fun i a h => ⟨_, _, (by simp), yg_name ltr, yt_yes, fun _ => ye_call (ya_cons (ye_var rfl) ya_nil) rfl ⟨_, rfl, rfl⟩⟩) (by rw [List.filter_eq_self.mpr (fun _ _ => rfl), List.map_map]; rfl)))) (congrArg PyData.bool ft)))) rfl) (fun hb => by cases hb) fun _ => yo_nx) ?_
  refine yo_seq (yo_asg (ye_sub (ye_var rfl) ye_int)) ?_
  refine yo_seq (yo_for (items := ns.map fun n : Nat => .int n) (yi_tup (ye_var rfl)) (fun i => [.im (encN ns), .im (.int lo), .im (.int hi), .no, .im (.int (if i = 0 then (lo : Int) - 1 else (ns.getD (i - 1) 0 : Nat)))]) rfl fun i d hd => ?_) (yo_ret ye_bl)
  rw [List.getElem?_map] at hd
  obtain ⟨x, e, rfl⟩ := Option.map_eq_some_iff.mp hd
  have hx := h2 x (List.mem_of_getElem? e)
  have hlast : (if i = 0 then (lo : Int) - 1 else (ns.getD (i - 1) 0 : Nat)) < (x : Int) := by
    by_cases c : i = 0
    · rw [if_pos c]; omega
    · rw [if_neg c]
      obtain ⟨hl, hv⟩ := List.getElem?_eq_some_iff.mp e
      have z := List.pairwise_iff_getElem.mp h1 (i - 1) i (by omega) hl (by omega)
      have q : ns.getD (i - 1) 0 = ns[i - 1]'(by omega) := by
        rw [List.getD_eq_getElem?_getD, List.getElem?_eq_getElem (show i - 1 < ns.length by omega)]
        rfl
      rw [q]
      omega
  refine ⟨_, _, yg_name ltr, ?_⟩
  refine yo_seq (yo_if (b := false) (Yt.to (yt_or (yt_test (ye_le (ye_var rfl) (ye_var rfl))) fun _ => yt_test (ye_ge (ye_var rfl) (ye_var rfl))) ?_) (fun hb => by cases hb) fun _ => yo_nx) ?_
  · simp only [Bool.or_eq_false_iff, decide_eq_false_iff_not]
    omega
  · refine Yo.to (yo_weak (yo_asg (ye_var rfl)) (.same (.same (.same (.drop (.same .nil)))))) ?_
    rw [if_neg (Nat.succ_ne_zero i), Nat.add_sub_cancel, List.getD_eq_getElem?_getD, e]
    rfl

theorem ok_is_stair {P : Program} {w : World} {K : PySem.W.Frag} {mg : Str → Option Value} {base : Heap} {aR : Addr} {des : Array DictEntry} {dn : Nat} (T : Txt K w mg aR des dn) (C_is_number : Cal P w K mg base 1 "is_number" ["thing"] g_is_number) (C_is_rising : Cal P w K mg base 2 "is_rising" ["row", "low", "high"] g_is_rising) : Cal P w K mg base 3 "is_stair" ["thing"] g_is_stair := by
  obtain ⟨f, fd, F, hm⟩ := T.f_is_stair
  refine ⟨f, fd, ?_, hm, F.kp, F.binds fun _ _ _ _ _ _ us hl => match us, hl with | [_], _ => rfl⟩
  refine fn_by F sc_is_stair (by decide) fun cdv A outer s H E hr => ?_
  have hu := hu_of hr
  have hu64 := hr.units
  have hu65 : (A.deeper (PyProof.Rows.envOfC "is_stair" (defScope s_is_stair) s.heap.objs.size f cdv)).units + 65 < cLine := by
    have := hr.un
    omega
  refine ⟨_, (pss_cons (ps_if (PW.pt (pw_or (pt_not (pt_val (pe_callB (id := "isinstance") (cIsi K rfl) (by rfl) T.b_isinstance (by decide +kernel) (pa_cons (pv 0) (pa_cons (pe_bltn (v := .ty "tuple") (by rfl) T.b_tuple (by decide +kernel) rfl) pa_nil))))) (pw_or1 (pt_cmpR op_ne (pe_callB (id := "len") (cLen K rfl) (by rfl) T.b_len (by decide +kernel) (pa_cons (pv 0) pa_nil)) pe_int (nomark _)))))
        (pss_one (ps_ret pe_bl))
        pss_nil)
      (pss_cons (ps_asg (pv 0) (pgT (n := 4) K rfl rfl (pgs_cons (pg_name (i := 1) sc_is_stair.nd rfl (Or.inl rfl)) (pgs_cons (pg_name (i := 2) sc_is_stair.nd rfl (Or.inl rfl)) (pgs_cons (pg_name (i := 3) sc_is_stair.nd rfl (Or.inl rfl)) (pgs_cons (pg_name (i := 4) sc_is_stair.nd rfl (Or.inl rfl)) pgs_nil))))))
      (pss_cons (ps_if (PW.pt (pw_or (pt_not (pt_val (peCal K C_is_number rfl rfl rfl rfl rfl (hr.mono (by decide)) (by rfl) (pa_cons (pv 1) pa_nil)))) (pw_or (pt_not (pt_val (peCal K C_is_number rfl rfl rfl rfl rfl (hr.mono (by decide)) (by rfl) (pa_cons (pv 2) pa_nil)))) (pw_or (pt_cmpR op_lt (pv 1) pe_int (nomark _)) (pw_or1 (pt_cmpR op_lt (pv 2) pe_int (nomark _)))))))
        (pss_one (ps_ret pe_bl))
        pss_nil)
      (pss_one (ps_ret (pe_and (peCal K C_is_rising rfl rfl rfl rfl rfl hr (by rfl) (pa_cons (pv 3) (pa_cons pe_int (pa_cons (pv 1) pa_nil)))) (pe_one (peCal K C_is_rising rfl rfl rfl rfl rfl hr (by rfl) (pa_cons (pv 4) (pa_cons (pv 1) (pa_cons (pe_op op_add (pv 1) (pv 2)) pa_nil))))))))))), fun ds r hn hg => ?_⟩
  clear hu hu64 hu65 hr hn
  obtain ⟨b, s, P, h1, h2, h3, rfl, rfl⟩ := hg
  refine .inl ?_
  refine yo_seq (yo_if (b := false) (yt_or (yt_not (yt_B (ye_isT (ye_var rfl)))) fun _ => yt_test ((ye_neI (ye_lenT (ye_var rfl)) ye_int).to (d' := .bool false) rfl)) (fun hb => by cases hb) fun _ => yo_nx) ?_
  refine yo_seq (yo_asgG (ye_var rfl) (yg_tup rfl (ygs_cons (yg_name ltr) (ygs_cons (yg_name ltr) (ygs_cons (yg_name ltr) (ygs_cons (yg_name ltr) ygs_nil)))))) ?_
  refine yo_seq (yo_if (b := false) (Yt.to (yt_or (yt_not (yt_B (ye_call (ya_cons (ye_var rfl) ya_nil) rfl (show g_is_number [.int b] (.bool true) from ⟨_, rfl, rfl⟩)))) fun _ => yt_or (yt_not (yt_B (ye_call (ya_cons (ye_var rfl) ya_nil) rfl (show g_is_number [.int s] (.bool true) from ⟨_, rfl, rfl⟩)))) fun _ => yt_or (yt_test (ye_lt (ye_var rfl) ye_int)) fun _ => yt_test (ye_lt (ye_var rfl) ye_int)) ?_) (fun hb => by cases hb) fun _ => yo_nx) ?_
  · simp
    omega
  · refine yo_ret (ye_and (a := true) (b := true) (ye_call (ya_cons (ye_var rfl) (ya_cons ye_int (ya_cons (ye_var rfl) ya_nil))) rfl (show g_is_rising _ _ from ⟨upTo 0 b P, 0, b, upTo_rising, fun x hx => ?_, Nat.le_trans upTo_len (by omega), rfl, rfl⟩)) fun _ => ye_call (ya_cons (ye_var rfl) (ya_cons (ye_var rfl) (ya_cons (ye_add (ye_var rfl) (ye_var rfl)) ya_nil))) rfl (show g_is_rising _ _ from ⟨upTo b s P, b, b + s, upTo_rising, fun x hx => ?_, Nat.le_trans upTo_len (by omega), rfl, rfl⟩))
    · have z := mem_upTo.mp hx
      omega
    · have z := mem_upTo.mp hx
      omega

theorem ok_check_stair {P : Program} {w : World} {K : PySem.W.Frag} {mg : Str → Option Value} {base : Heap} {aR : Addr} {des : Array DictEntry} {dn : Nat} (T : Txt K w mg aR des dn) (C_is_stair : Cal P w K mg base 3 "is_stair" ["thing"] g_is_stair) : Cal P w K mg base 4 "check_stair" ["stair"] g_check_stair := by
  obtain ⟨f, fd, F, hm⟩ := T.f_check_stair
  refine ⟨f, fd, ?_, hm, F.kp, F.binds fun _ _ _ _ _ _ us hl => match us, hl with | [_], _ => rfl⟩
  refine fn_by F sc_check_stair (by decide) fun cdv A outer s H E hr => ?_
  have hu := hu_of hr
  have hu64 := hr.units
  have hu65 : (A.deeper (PyProof.Rows.envOfC "check_stair" (defScope s_check_stair) s.heap.objs.size f cdv)).units + 65 < cLine := by
    have := hr.un
    omega
  refine ⟨_, (pss_cons (ps_if (pt_not (pt_val (peCal K C_is_stair rfl rfl rfl rfl rfl hr (by rfl) (pa_cons (pv 0) pa_nil))))
        (pss_one ps_never)
        pss_nil)
      (pss_one (ps_if (PW.pt (pw_or (pt_cmpR op_gt (pe_ix (ixT K rfl) (pv 0) pe_int (fun _ _ => rfl)) (pe_globI (by rfl) T.c_GREATEST_BASE) (nomark _)) (pw_or1 (pt_cmpR op_gt (pe_ix (ixT K rfl) (pv 0) pe_int (fun _ _ => rfl)) (pe_globI (by rfl) T.c_GREATEST_STEP) (nomark _)))))
        (pss_one ps_never)
        pss_nil))), fun ds r hn hg => ?_⟩
  clear hu hu64 hu65 hr hn
  obtain ⟨b, s, P, h1, h2, h3, rfl, rfl⟩ := hg
  refine .inr ⟨ents ["stair"] [encS b s P], ?_, rfl⟩
  refine yo_seq (yo_if (b := false) (yt_not (yt_B (ye_call (ya_cons (ye_var rfl) ya_nil) rfl (show g_is_stair _ _ from ⟨b, s, P, h1, h2, h3, rfl, rfl⟩)))) (fun hb => by cases hb) fun _ => yo_nx) ?_
  refine yo_if (b := false) (Yt.to (yt_or (yt_test (ye_gt (ye_ixT (d := .int b) (ye_var rfl) ye_int rfl) ye_int)) fun _ => yt_test (ye_gt (ye_ixT (d := .int s) (ye_var rfl) ye_int rfl) ye_int)) ?_) (fun hb => by cases hb) fun _ => yo_nx
  simp
  omega
theorem bits_set {m x : Nat} {P Q : Nat → Bool} (hx : x < m) (h : ∀ y, Q y = (decide (y = x) || P y)) : ((List.range m).map fun y => PyData.bool (P y)).set x (.bool true) = (List.range m).map fun y => .bool (Q y) := by
  rw [rows_set hx]
  refine List.map_congr_left fun y _ => ?_
  by_cases e : y = x
  · rw [if_pos e, h, decide_eq_true e, Bool.true_or]
  · rw [if_neg e, h, decide_eq_false e, Bool.false_or]
theorem mem_next {ns : List Nat} {i x : Nat} (e : ns[i]? = some x) (y : Nat) : decide (y ∈ ns.take (i + 1)) = (decide (y = x) || decide (y ∈ ns.take i)) := by
  rw [← Bool.decide_or]
  refine decide_eq_decide.mpr ?_
  rw [List.take_add_one, e]
  simp
  exact or_comm

theorem ok_bits_of {P : Program} {w : World} {K : PySem.W.Frag} {mg : Str → Option Value} {base : Heap} {aR : Addr} {des : Array DictEntry} {dn : Nat} (T : Txt K w mg aR des dn)  : Cal P w K mg base 1 "bits_of" ["stair", "many"] g_bits_of := by
  obtain ⟨f, fd, F, hm⟩ := T.f_bits_of
  refine ⟨f, fd, ?_, hm, F.kp, F.binds fun _ _ _ _ _ _ us hl => match us, hl with | [_, _], _ => rfl⟩
  refine fn_by F sc_bits_of (by decide) fun cdv A outer s H E hr => ?_
  have hu := hu_of hr
  have hu64 := hr.units
  have hu65 : (A.deeper (PyProof.Rows.envOfC "bits_of" (defScope s_bits_of) s.heap.objs.size f cdv)).units + 65 < cLine := by
    have := hr.un
    omega
  refine ⟨_, (pss_cons (ps_asg (pv 0) (pgT (n := 4) K rfl rfl (pgs_cons (pg_name (i := 2) sc_bits_of.nd rfl (Or.inl rfl)) (pgs_cons (pg_name (i := 3) sc_bits_of.nd rfl (Or.inl rfl)) (pgs_cons (pg_name (i := 4) sc_bits_of.nd rfl (Or.inl rfl)) (pgs_cons (pg_name (i := 5) sc_bits_of.nd rfl (Or.inl rfl)) pgs_nil))))))
      (pss_cons (ps_set (i := 6) sc_bits_of.nd rfl (Or.inl rfl) (pe_op op_rep (pe_lst (pa_cons pe_bl pa_nil)) (pv 1)))
      (pss_cons (ps_for PassesOwn.never (by rfl) (piT K rfl (pv 4)) (pg_name (i := 7) sc_bits_of.nd rfl (Or.inl rfl))
        (pss_one (ps_asg pe_bl (pg_sub (pv 6) (pv 7) set_list))))
      (pss_cons (ps_for PassesOwn.never (by rfl) (piT K rfl (pv 5)) (pg_name (i := 7) sc_bits_of.nd rfl (Or.inl rfl))
        (pss_one (ps_for PassesOwn.never (by rfl) (pi_range3 (by rfl) T.b_range (pa_cons (pv 7) (pa_cons (pv 1) (pa_cons (pv 3) pa_nil)))) (pg_name (i := 8) sc_bits_of.nd rfl (Or.inl rfl))
          (pss_one (ps_asg pe_bl (pg_sub (pv 6) (pv 8) set_list))))))
      (pss_one (ps_ret (pv 6))))))), fun ds r hn hg => ?_⟩
  clear hu hu64 hu65 hr hn
  obtain ⟨b, s, P, h1, h2, h3, rfl, rfl⟩ := hg
  refine .inl ?_
  refine yo_seq (yo_asgG (ye_var rfl) (yg_tup rfl (ygs_cons (yg_name ltr) (ygs_cons (yg_name ltr) (ygs_cons (yg_name ltr) (ygs_cons (yg_name ltr) ygs_nil)))))) ?_
  refine yo_seq (yo_asgM (xs := (List.range (b + s)).map fun x => .bool (decide (x ∈ (upTo 0 b P).take 0))) (Yf.to (yf_rep (k := ((b + s : Nat) : Int)) (yf_lst (ya_cons ye_bl ya_nil) (show (1 : Nat) ≤ 100000 by decide)) (ye_var rfl) (by omega) (by simp; omega) (by omega)) ?_)) ?_
  · rw [Int.toNat_natCast, flat_rep]
    refine List.map_congr_left fun x _ => ?_
    rw [List.take_zero, decide_eq_false (List.not_mem_nil)]
  refine yo_seq (yo_for (items := (upTo 0 b P).map fun n : Nat => .int n) (yi_tup (ye_var rfl)) (fun i => [.im (encS b s P), .im (.int (b + s : Nat)), .im (.int b), .im (.int s), .im (encN (upTo 0 b P)), .im (encN (upTo b s P)), .ml ((List.range (b + s)).map fun x => .bool (decide (x ∈ (upTo 0 b P).take i))), .no, .no]) rfl fun i d hd => ?_) ?_
  · rw [List.getElem?_map] at hd
    obtain ⟨x, e, rfl⟩ := Option.map_eq_some_iff.mp hd
    have hx := mem_upTo.mp (List.mem_of_getElem? e)
    refine ⟨_, _, yg_name ltr, ?_⟩
    refine Yo.to (yo_weak (yo_setM (j := x) rfl ye_bl (ye_var rfl) (by simp; omega)) (.same (.same (.same (.same (.same (.same (.same (.drop (.same .nil)))))))))) ?_
    rw [← bits_set (m := b + s) (x := x) (by omega) (mem_next e)]
  rw [List.length_map]
  refine yo_seq (yo_for (items := (upTo b s P).map fun n : Nat => .int n) (yi_tup (ye_var rfl)) (fun i => [.im (encS b s P), .im (.int (b + s : Nat)), .im (.int b), .im (.int s), .im (encN (upTo 0 b P)), .im (encN (upTo b s P)), .ml ((List.range (b + s)).map fun x => .bool (decide (x ∈ (upTo b s P).take i) || decide (x ∈ upTo 0 b P))), .no, .no]) ?_ fun i d hd => ?_) ?_
  · rw [List.take_length]
    simp
  · rw [List.getElem?_map] at hd
    obtain ⟨x, e, rfl⟩ := Option.map_eq_some_iff.mp hd
    have hx := mem_upTo.mp (List.mem_of_getElem? e)
    refine ⟨_, _, yg_name ltr, ?_⟩
    refine Yo.to (yo_weak (yo_forN (v := fun i => (x : Int) + i * (s : Int)) (n := 1) (yi_range3 (m := (x : Int)) (n := ((b + s : Nat) : Int)) (c := (s : Int)) (ya_cons (ye_var rfl) (ya_cons (ye_var rfl) (ya_cons (ye_var rfl) ya_nil))) (rgc_one (by omega) (by omega) (by omega) h2 h3)) (fun j => [.im (encS b s P), .im (.int (b + s : Nat)), .im (.int b), .im (.int s), .im (encN (upTo 0 b P)), .im (encN (upTo b s P)), .ml (if j = 0 then (List.range (b + s)).map fun x => .bool (decide (x ∈ (upTo b s P).take i) || decide (x ∈ upTo 0 b P)) else ((List.range (b + s)).map fun x => PyData.bool (decide (x ∈ (upTo b s P).take i) || decide (x ∈ upTo 0 b P))).set x (.bool true)), .im (.int x), .no]) rfl (fun _ => by simp) fun j hj => ?_) (.same (.same (.same (.same (.same (.same (.same (.drop (.same .nil)))))))))) ?_
    · have e0 : j = 0 := by omega
      subst e0
      refine yo_weak (yo_setM (j := x) rfl ye_bl ((ye_var rfl).to (by simp)) (by simp; omega)) (.same (.same (.same (.same (.same (.same (.same (.same (.drop .nil)))))))))
    · rw [if_neg (by decide), bits_set (m := b + s) (x := x) (Q := fun y => decide (y ∈ (upTo b s P).take (i + 1)) || decide (y ∈ upTo 0 b P)) (by omega) fun y => by rw [mem_next e, Bool.or_assoc]]
  · rw [List.length_map, List.take_length]
    refine yo_freeze (i := 6) rfl (yo_ret ((ye_var rfl).to ?_))
    refine congrArg PyData.list (List.map_congr_left fun x hx => congrArg PyData.bool ?_)
    have hl := List.mem_range.mp hx
    rw [← Bool.decide_or, Bool.eq_iff_iff, decide_eq_true_eq, mem_upTo, mem_upTo]
    constructor
    · rintro (z | z)
      · exact z.2.2
      · exact z.2.2
    · intro z
      by_cases c : x < b
      · exact .inr ⟨by omega, by omega, z⟩
      · exact .inl ⟨by omega, by omega, z⟩
instance goodBy_dec {P : Nat → Bool} {b s t : Nat} : Decidable (goodBy P b s t) := by unfold goodBy; infer_instance

theorem ok_least_step {P : Program} {w : World} {K : PySem.W.Frag} {mg : Str → Option Value} {base : Heap} {aR : Addr} {des : Array DictEntry} {dn : Nat} (T : Txt K w mg aR des dn)  : Cal P w K mg base 1 "least_step" ["bits", "base", "step"] g_least_step := by
  obtain ⟨f, fd, F, hm⟩ := T.f_least_step
  refine ⟨f, fd, ?_, hm, F.kp, F.binds fun _ _ _ _ _ _ us hl => match us, hl with | [_, _, _], _ => rfl⟩
  refine fn_by F sc_least_step (by decide) fun cdv A outer s H E hr => ?_
  have hu := hu_of hr
  have hu64 := hr.units
  have hu65 : (A.deeper (PyProof.Rows.envOfC "least_step" (defScope s_least_step) s.heap.objs.size f cdv)).units + 65 < cLine := by
    have := hr.un
    omega
  refine ⟨_, (pss_cons (ps_for PassesOwn.never (by rfl) (pi_range2 (by rfl) T.b_range (pa_cons pe_int (pa_cons (pv 2) pa_nil))) (pg_name (i := 3) sc_least_step.nd rfl (Or.inl rfl))
        (pss_one (ps_if (PW.pt (pw_and (pt_cmpR op_eq (pe_op op_mod (pv 2) (pv 3)) pe_int (nomark _)) (pw_and1 (pt_cmpR (opEqD K rfl hu64) (pe_slice (slL K rfl) (pv 0) (po_some (pv 1)) (po_some (pe_op op_sub (pe_op op_add (pv 1) (pv 2)) (pv 3)))) (pe_slice (slL K rfl) (pv 0) (po_some (pe_op op_add (pv 1) (pv 3))) (po_some (pe_op op_add (pv 1) (pv 2)))) (nomark _)))))
          (pss_one (ps_ret (pv 3)))
          pss_nil)))
      (pss_one (ps_ret (pv 2)))), fun ds r hn hg => ?_⟩
  clear hu hu64 hu65 hr hn
  obtain ⟨b, s, t, P, h1, h2, st, rfl, rfl⟩ := hg
  refine .inl ?_
  have p1 := st.pos
  have p2 := st.le
  have cnd : ∀ u, 1 ≤ u → u < s → Yt K _ [Ent.im (encBits (b + s) P), .im (.int b), .im (.int s), .im (.int u)] (decide (goodBy P b s u)) := fun u hu1 hu2 =>
    Yt.to (yt_and (b := decide (∀ i, i < s - u → P (b + i) = P (b + u + i))) (yt_test (ye_eqI (ye_mod (i := (s : Int)) (j := (u : Int)) (ye_var (i := 2) rfl) (ye_var (i := 3) rfl) (by omega)) (ye_int (i := 0)))) fun _ => Yt.to (yt_test (ye_eqD (x := .list ((List.range (s - u)).map fun i => .bool (P (b + i)))) (y := .list ((List.range (s - u)).map fun i => .bool (P (b + u + i))))
      (Ye.to (yf_cut (lo := some ((b : Nat) : Int)) (hi := some ((b + s - u : Nat) : Int)) (Ye.yl (ye_var (i := 0) rfl)) (yp_some (ye_var (i := 1) rfl)) (yp_some ((ye_sub (ye_add (ye_var (i := 1) rfl) (ye_var (i := 2) rfl)) (ye_var (i := 3) rfl)).to (congrArg PyData.int (by omega))))).ye (by rw [cut_range (by omega) (by omega), show b + s - u - b = s - u by omega]))
      (Ye.to (yf_cut (lo := some ((b + u : Nat) : Int)) (hi := some ((b + s : Nat) : Int)) (Ye.yl (ye_var (i := 0) rfl)) (yp_some ((ye_add (ye_var (i := 1) rfl) (ye_var (i := 3) rfl)).to (congrArg PyData.int (by omega)))) (yp_some ((ye_add (ye_var (i := 1) rfl) (ye_var (i := 2) rfl)).to (congrArg PyData.int (by omega))))).ye (by rw [cut_range (by omega) (by omega), show b + s - (b + u) = s - u by omega]))
      shaped_bits shaped_bits)) eqv_bits) (by
        rw [← Bool.decide_and]
        refine decide_eq_decide.mpr ⟨fun z => ⟨by omega, z.2⟩, fun z => ⟨?_, z.2⟩⟩
        have q := z.1
        omega)
  have hit : ∀ u, u < s - 1 → (rgV (fun i => 1 + (i : Int)) ((s : Int) - 1).toNat)[u]? = some (.int ((1 + u : Nat) : Int)) := fun u hu => by
    rw [rgV_get (by omega)]
    congr 2
  have cont : ∀ (i : Nat) (d : PyData), i < t - 1 → (rgV (fun i => 1 + (i : Int)) ((s : Int) - 1).toNat)[i]? = some d → d = .int ((1 + i : Nat) : Int) ∧ 1 + i < s := fun i d hi hd => by
    rw [hit i (by omega)] at hd
    exact ⟨(Option.some.inj hd).symm, by omega⟩
  by_cases e : t = s
  · refine yo_seq (yo_forX (yi_range2 (m := 1) (n := (s : Int)) (ya_cons ye_int (ya_cons (ye_var rfl) ya_nil)) (by omega)) (t - 1) (by rw [rgV_len]; omega) (fun _ => [.im (encBits (b + s) P), .im (.int b), .im (.int s), .no]) rfl (fun i d hi hd => ?_) (.inl ⟨by rw [rgV_len]; omega, rfl⟩)) (yo_ret ((ye_var rfl).to (by rw [e])))
    obtain ⟨rfl, hs⟩ := cont i d hi hd
    refine ⟨_, _, yg_name ltr, ?_⟩
    refine yo_weak (yo_if (b := false) (Yt.to (cnd (1 + i) (by omega) hs) (decide_eq_false (st.low (1 + i) (by omega) (by omega)))) (fun hb => by cases hb) fun _ => yo_nx) (.same (.same (.same (.drop .nil))))
  · refine yo_seqR (yo_forX (yi_range2 (m := 1) (n := (s : Int)) (ya_cons ye_int (ya_cons (ye_var rfl) ya_nil)) (by omega)) (t - 1) (by rw [rgV_len]; omega) (fun _ => [.im (encBits (b + s) P), .im (.int b), .im (.int s), .no]) rfl (fun i d hi hd => ?_) (.inr ⟨.int ((1 + (t - 1) : Nat) : Int), _, _, .int t, hit (t - 1) (by omega), yg_name ltr, ?_, rfl⟩))
    · obtain ⟨rfl, hs⟩ := cont i d hi hd
      refine ⟨_, _, yg_name ltr, ?_⟩
      refine yo_weak (yo_if (b := false) (Yt.to (cnd (1 + i) (by omega) hs) (decide_eq_false (st.low (1 + i) (by omega) (by omega)))) (fun hb => by cases hb) fun _ => yo_nx) (.same (.same (.same (.drop .nil))))
    · have gd : goodBy P b s (1 + (t - 1)) := by
        rw [show 1 + (t - 1) = t by omega]
        exact st.good.resolve_left e
      refine yo_if (b := true) (Yt.to (cnd (1 + (t - 1)) (by omega) (by omega)) (decide_eq_true gd)) (fun _ => yo_ret ((ye_var rfl).to ?_)) (fun hb => by cases hb)
      rw [show 1 + (t - 1) = t by omega]

theorem ok_least_of_bits {P : Program} {w : World} {K : PySem.W.Frag} {mg : Str → Option Value} {base : Heap} {aR : Addr} {des : Array DictEntry} {dn : Nat} (T : Txt K w mg aR des dn) (C_least_step : Cal P w K mg base 1 "least_step" ["bits", "base", "step"] g_least_step) : Cal P w K mg base 2 "least_of_bits" ["bits", "base", "step"] g_least_of_bits := by
  obtain ⟨f, fd, F, hm⟩ := T.f_least_of_bits
  refine ⟨f, fd, ?_, hm, F.kp, F.binds fun _ _ _ _ _ _ us hl => match us, hl with | [_, _, _], _ => rfl⟩
  refine fn_by F sc_least_of_bits (by decide) fun cdv A outer s H E hr => ?_
  have hu := hu_of hr
  have hu64 := hr.units
  have hu65 : (A.deeper (PyProof.Rows.envOfC "least_of_bits" (defScope s_least_of_bits) s.heap.objs.size f cdv)).units + 65 < cLine := by
    have := hr.un
    omega
  refine ⟨_, (pss_cons (ps_set (i := 2) sc_least_of_bits.nd rfl (Or.inl rfl) (peCal K C_least_step rfl rfl rfl rfl rfl hr (by rfl) (pa_cons (pv 0) (pa_cons (pv 1) (pa_cons (pv 2) pa_nil)))))
      (pss_cons (ps_while PassesOwn.never (PW.pt (pw_and (pt_cmpR op_gt (pv 1) pe_int (nomark _)) (pw_and1 (pt_cmpR op_eq (pe_ix (ixL K rfl) (pv 0) (pe_op op_sub (pv 1) pe_int) (fun _ _ => rfl)) (pe_ix (ixL K rfl) (pv 0) (pe_op op_add (pe_op op_sub (pv 1) pe_int) (pv 2)) (fun _ _ => rfl)) (nomark _)))))
        (pss_one (ps_set (i := 1) sc_least_of_bits.nd rfl (Or.inl rfl) (pe_op op_sub (pv 1) pe_int))))
      (pss_cons (ps_setLc (i := 3) (own := [("x", 4)]) (by rfl) sc_least_of_bits.nd rfl rfl (sw_true rfl rfl rfl (by decide +kernel)) (pi_range1 (by rfl) T.b_range (pa_cons (pv 1) pa_nil)) (blkOk_by (N := ["bits", "base", "step", "once", "x", "again"]) (sc := defScope s_least_of_bits) (by decide +kernel))
      (fun _ _ _ _ _ => (pg_name (i := 4) sc_least_of_bits.nd rfl (Or.inl rfl))) (fun _ _ _ _ _ => (pts_one (pt_val (pe_ix (ixL K rfl) (pv 0) (pv 4) (fun _ _ => rfl))))) (fun _ _ _ _ _ => (pv 4)))
      (pss_cons (ps_setLc (i := 5) (own := [("x", 4)]) (by rfl) sc_least_of_bits.nd rfl rfl (sw_true rfl rfl rfl (by decide +kernel)) (pi_range2 (by rfl) T.b_range (pa_cons (pv 1) (pa_cons (pe_op op_add (pv 1) (pv 2)) pa_nil))) (blkOk_by (N := ["bits", "base", "step", "once", "x", "again"]) (sc := defScope s_least_of_bits) (by decide +kernel))
      (fun _ _ _ _ _ => (pg_name (i := 4) sc_least_of_bits.nd rfl (Or.inl rfl))) (fun _ _ _ _ _ => (pts_one (pt_val (pe_ix (ixL K rfl) (pv 0) (pv 4) (fun _ _ => rfl))))) (fun _ _ _ _ _ => (pv 4)))
      (pss_one (ps_ret (pe_tup (pa_cons (pv 1) (pa_cons (pv 2) (pa_cons (pe_callTy (T := "tuple") (cTuple K rfl) (by rfl) T.b_tuple (by decide +kernel) (pa_cons (pv 3) pa_nil)) (pa_cons (pe_callTy (T := "tuple") (cTuple K rfl) (by rfl) T.b_tuple (by decide +kernel) (pa_cons (pv 5) pa_nil)) pa_nil))))))))))), fun ds r hn hg => ?_⟩
  clear hu hu64 hu65 hr hn
  obtain ⟨b, s, t, c, P, h1, h2, st, bs, rfl, rfl⟩ := hg
  refine .inl ?_
  have p1 := st.pos
  have p2 := st.le
  have p3 := bs.le
  refine yo_seq (yo_asg (ye_call (ya_cons (ye_var rfl) (ya_cons (ye_var rfl) (ya_cons (ye_var rfl) ya_nil))) rfl ⟨b, s, t, P, h1, h2, st, rfl, rfl⟩)) ?_
  have bit : ∀ {es : List Ent} {ta tb : TE} (x : Nat), x < b + s → Ye K ta es (encBits (b + s) P) → Ye K tb es (.int x) → Ye K (tOp (rIxL K) ta tb) es (.bool (P x)) := fun x hx ha hb =>
    ye_ixL (Ye.yl ha) hb (atI_nat (by rw [List.getElem?_map, List.getElem?_range hx]; rfl))
  have tst : ∀ y : Nat, y ≤ b → Yt K _ [Ent.im (encBits (b + s) P), .im (.int y), .im (.int t), .no, .no, .no] (decide (0 < y) && decide (P (y - 1) = P (y - 1 + t))) := fun y hy => by
    by_cases e : 0 < y
    · exact Yt.to (yt_and (yt_test (ye_gt (i := (y : Int)) (ye_var (i := 1) rfl) (ye_int (i := 0)))) fun _ => yt_test (ye_eqB (bit (y - 1) (by omega) (ye_var (i := 0) rfl) ((ye_sub (i := (y : Int)) (ye_var (i := 1) rfl) (ye_int (i := 1))).to (congrArg PyData.int (by omega)))) (bit (y - 1 + t) (by omega) (ye_var (i := 0) rfl) ((ye_add (i := (y : Int) - 1) (j := (t : Int)) (ye_sub (ye_var (i := 1) rfl) (ye_int (i := 1))) (ye_var (i := 2) rfl)).to (congrArg PyData.int (by omega))))))
        (by congr 1; exact decide_eq_decide.mpr (by omega))
    · exact Yt.to (yt_and (b := decide (P (y - 1) = P (y - 1 + t))) (yt_test (ye_gt (i := (y : Int)) (ye_var (i := 1) rfl) (ye_int (i := 0)))) fun z => absurd (of_decide_eq_true z) (by omega))
        (by congr 1; exact decide_eq_decide.mpr (by omega))
  refine yo_seq (yo_while (b - c) (fun i => [.im (encBits (b + s) P), .im (.int ((b - i : Nat) : Int)), .im (.int t), .no, .no, .no]) rfl (fun i hi => Yt.to (tst (b - i) (by omega)) ?_) (fun i hi => ?_) (Yt.to (tst (b - (b - c)) (by omega)) ?_)) ?_
  · rw [decide_eq_true (by omega : 0 < b - i), decide_eq_true (bs.same (b - i - 1) (by omega) (by omega))]
    rfl
  · exact Yo.to (yo_asg ((ye_sub (ye_var rfl) ye_int).to (d' := .int ((b - (i + 1) : Nat) : Int)) (congrArg PyData.int (by omega)))) rfl
  · rw [show b - (b - c) = c by omega]
    rcases bs.low with z | z
    · rw [decide_eq_false (by omega : ¬ 0 < c)]
      rfl
    · rw [decide_eq_false z, Bool.and_false]
  · rw [show b - (b - c) = c by omega]
    refine yo_seq (yo_asgM (xs := (upTo 0 c P).map fun n : Nat => .int n) (Yf.to (yf_lcF (v := upN) (n := c) (j := 4) (fun x => P x) (fun x => .int x) (yi_range1 (n := (c : Int)) (ya_cons (ye_var rfl) ya_nil) (by omega) (by omega)) (by omega) (by simp) ltr fun x hx => ⟨yt_B (bit x (by omega) (ye_var rfl) (ye_var rfl)), fun _ => ye_var rfl⟩) upTo_enc0)) ?_
    have e : ((c : Int) + t - c).toNat = t := by omega
    refine yo_seq (yo_asgM (xs := (upTo c t P).map fun n : Nat => .int n) (Yf.to (yf_lcF (v := fun i => (c : Int) + i) (n := t) (j := 4) (fun i => P (c + i)) (fun i => .int ((c : Int) + i)) (by have z := yi_range2 (m := (c : Int)) (n := (c : Int) + t) (K := K) (es := [Ent.im (encBits (b + s) P), .im (.int c), .im (.int t), .ml ((upTo 0 c P).map fun n : Nat => .int n), .no, .no]) (ya_cons (ye_var (i := 1) rfl) (ya_cons (ye_add (i := (c : Int)) (j := (t : Int)) (ye_var (i := 1) rfl) (ye_var (i := 2) rfl)) ya_nil)) (by omega); rw [e] at z; exact z) (by omega) (by simp) ltr fun i hi => ⟨yt_B (bit (c + i) (by omega) (ye_var rfl) (ye_var rfl)), fun _ => ye_var rfl⟩) upTo_enc)) ?_
    exact yo_ret (ye_tup (ya_cons (ye_var rfl) (ya_cons (ye_var rfl) (ya_cons (ye_tupL (yl_var rfl)) (ya_cons (ye_tupL (yl_var rfl)) ya_nil)))) (show (4 : Nat) ≤ 100000 by decide))

theorem ok_least_by {P : Program} {w : World} {K : PySem.W.Frag} {mg : Str → Option Value} {base : Heap} {aR : Addr} {des : Array DictEntry} {dn : Nat} (T : Txt K w mg aR des dn) (C_bits_of : Cal P w K mg base 1 "bits_of" ["stair", "many"] g_bits_of) (C_least_of_bits : Cal P w K mg base 2 "least_of_bits" ["bits", "base", "step"] g_least_of_bits) : Cal P w K mg base 3 "least_by" ["stair"] g_least_by := by
  obtain ⟨f, fd, F, hm⟩ := T.f_least_by
  refine ⟨f, fd, ?_, hm, F.kp, F.binds fun _ _ _ _ _ _ us hl => match us, hl with | [_], _ => rfl⟩
  refine fn_by F sc_least_by (by decide) fun cdv A outer s H E hr => ?_
  have hu := hu_of hr
  have hu64 := hr.units
  have hu65 : (A.deeper (PyProof.Rows.envOfC "least_by" (defScope s_least_by) s.heap.objs.size f cdv)).units + 65 < cLine := by
    have := hr.un
    omega
  refine ⟨_, (pss_one (ps_ret (peCal K C_least_of_bits rfl rfl rfl rfl rfl hr (by rfl) (pa_cons (peCal K C_bits_of rfl rfl rfl rfl rfl (hr.mono (by decide)) (by rfl) (pa_cons (pv 0) (pa_cons (pe_op op_add (pe_ix (ixT K rfl) (pv 0) pe_int (fun _ _ => rfl)) (pe_ix (ixT K rfl) (pv 0) pe_int (fun _ _ => rfl))) pa_nil))) (pa_cons (pe_ix (ixT K rfl) (pv 0) pe_int (fun _ _ => rfl)) (pa_cons (pe_ix (ixT K rfl) (pv 0) pe_int (fun _ _ => rfl)) pa_nil)))))), fun ds r hn hg => ?_⟩
  clear hu hu64 hu65 hr hn
  obtain ⟨b, s, t, c, P, h1, h2, st, bs, rfl, rfl⟩ := hg
  have p1 := st.pos
  have p2 := st.le
  exact .inl (yo_ret (ye_call (ya_cons (ye_call (ya_cons (ye_var rfl) (ya_cons (ye_add (i := (b : Int)) (j := (s : Int)) (ye_ixT (ye_var rfl) ye_int rfl) (ye_ixT (ye_var rfl) ye_int rfl)) ya_nil)) rfl (show g_bits_of [encS b s P, .int ((b : Int) + s)] (encBits (b + s) P) from ⟨b, s, P, h1, h2, by omega, rfl, rfl⟩)) (ya_cons (ye_ixT (d := .int b) (ye_var rfl) ye_int rfl) (ya_cons (ye_ixT (d := .int s) (ye_var rfl) ye_int rfl) ya_nil))) rfl ⟨b, s, t, c, P, h1, h2, st, bs, rfl, rfl⟩))

theorem ok_least {P : Program} {w : World} {K : PySem.W.Frag} {mg : Str → Option Value} {base : Heap} {aR : Addr} {des : Array DictEntry} {dn : Nat} (T : Txt K w mg aR des dn) (C_check_stair : Cal P w K mg base 4 "check_stair" ["stair"] g_check_stair) (C_least_by : Cal P w K mg base 3 "least_by" ["stair"] g_least_by) : Cal P w K mg base 5 "least" ["stair"] g_least := by
  obtain ⟨f, fd, F, hm⟩ := T.f_least
  refine ⟨f, fd, ?_, hm, F.kp, F.binds fun _ _ _ _ _ _ us hl => match us, hl with | [_], _ => rfl⟩
  refine fn_by F sc_least (by decide) fun cdv A outer s H E hr => ?_
  have hu := hu_of hr
  have hu64 := hr.units
  have hu65 : (A.deeper (PyProof.Rows.envOfC "least" (defScope s_least) s.heap.objs.size f cdv)).units + 65 < cLine := by
    have := hr.un
    omega
  refine ⟨_, (pss_cons (ps_expr (peCal K C_check_stair rfl rfl rfl rfl rfl hr (by rfl) (pa_cons (pv 0) pa_nil)))
      (pss_one (ps_ret (peCal K C_least_by rfl rfl rfl rfl rfl (hr.mono (by decide)) (by rfl) (pa_cons (pv 0) pa_nil))))), fun ds r hn hg => ?_⟩
  clear hu hu64 hu65 hr hn
  obtain ⟨b, s, t, c, P, h1, h2, st, bs, rfl, rfl⟩ := hg
  have p1 := st.pos
  have p2 := st.le
  exact .inl (yo_seq (yo_drop (ye_call (ya_cons (ye_var rfl) ya_nil) rfl ⟨b, s, P, h1, h2, by omega, rfl, rfl⟩)) (yo_ret (ye_call (ya_cons (ye_var rfl) ya_nil) rfl ⟨b, s, t, c, P, h1, h2, st, bs, rfl, rfl⟩)))


end Sr
set_option Elab.async false
set_option linter.all false
set_option maxRecDepth 100000
set_option maxHeartbeats 4000000
set_option autoImplicit false
namespace Sr
open PySem L2

theorem ok_rooms_behind {P : Program} {w : World} {K : PySem.W.Frag} {mg : Str → Option Value} {base : Heap} {aR : Addr} {des : Array DictEntry} {dn : Nat} (T : Txt K w mg aR des dn)  : Cal P w K mg base 1 "rooms_behind" ["rooms", "table"] g_rooms_behind := by
  obtain ⟨f, fd, F, hm⟩ := T.f_rooms_behind
  refine ⟨f, fd, ?_, hm, F.kp, F.binds fun _ _ _ _ _ _ us hl => match us, hl with | [_, _], _ => rfl⟩
  refine fn_by F sc_rooms_behind (by decide) fun cdv A outer s H E hr => ?_
  have hu := hu_of hr
  have hu64 := hr.units
  have hu65 : (A.deeper (PyProof.Rows.envOfC "rooms_behind" (defScope s_rooms_behind) s.heap.objs.size f cdv)).units + 65 < cLine := by
    have := hr.un
    omega
  refine ⟨_, (pss_one (ps_ret (pe_callTy (T := "tuple") (cTuple K rfl) (by rfl) T.b_tuple (by decide +kernel) (pa_cons (pe_lc (own := [("q", 2)]) (by rfl) sc_rooms_behind.nd (pi_range1 (by rfl) T.b_range (pa_cons (pe_callB (id := "len") (cLen K rfl) (by rfl) T.b_len (by decide +kernel) (pa_cons (pv 1) pa_nil)) pa_nil)) (blkOk_by (N := ["rooms", "table", "q", "p"]) (sc := defScope s_rooms_behind) (by decide +kernel))
      (fun _ _ _ _ _ => (pg_name (i := 2) sc_rooms_behind.nd rfl (Or.inr rfl))) (fun _ _ _ _ _ => (pts_one (pt_val (pe_callB (id := "any") (cAny K rfl rfl) (by rfl) T.b_any (by decide +kernel) (pa_cons (pe_lc (own := [("p", 3)]) (by rfl) sc_rooms_behind.nd (piT K rfl (pv 0)) (blkOk_by (by rfl))
      (fun _ _ _ _ _ => (pg_name (i := 3) sc_rooms_behind.nd rfl (Or.inl rfl))) (fun _ _ _ _ _ => pts_nil) (fun _ _ _ _ _ => (pe_ix (ixL K rfl) (pe_ix (ixL K rfl) (pv 1) (pv 3) (fun _ _ => rfl)) (pv 2) (fun _ _ => rfl)))) pa_nil))))) (fun _ _ _ _ _ => (pv 2))) pa_nil)))), fun ds r hn hg => ?_⟩
  clear hu hu64 hu65 hr hn
  obtain ⟨n, a, t, hn, rfl, rfl⟩ := hg
  refine .inl (yo_ret (Ye.to (ye_tupL (Yf.yl (yf_lcF (v := upN) (n := n) (j := 2) (fun q => rbF n a t q) (fun q => .int q) (yi_range1 (n := (n : Int)) (ya_cons ((ye_lenL (Ye.yl (ye_var rfl))).to (by rw [encF_len])) ya_nil) (by omega) (by omega)) (by omega) (by simp) ltr fun q hq => ⟨?_, fun _ => ye_var rfl⟩))) (encR_row.symm)))
  refine Yt.to (yt_B (ye_any (bs := ((List.range n).filter a).map fun p => t p q) (Yf.yl (Yf.to (yf_lcA (as := (List.range n).filter a) (enc := fun p : Nat => .int p) (fun _ => true) (fun p => .bool (t p q)) (yi_tup ((ye_var rfl).to encR_row)) (Nat.le_trans (List.length_filter_le _ _) (by rw [List.length_range]; omega)) fun i p h => ⟨_, _, (by simp), yg_name ltr, yt_yes, fun _ => ye_bitF (ye_var rfl) (ye_var rfl) (ye_var rfl) (List.mem_range.mp (List.mem_filter.mp (List.mem_of_getElem? h)).1) hq⟩) (by rw [List.filter_eq_self.mpr (fun _ _ => rfl), List.map_map]; rfl))))) any_row

theorem ok_joined_rooms {P : Program} {w : World} {K : PySem.W.Frag} {mg : Str → Option Value} {base : Heap} {aR : Addr} {des : Array DictEntry} {dn : Nat} (T : Txt K w mg aR des dn)  : Cal P w K mg base 1 "joined_rooms" ["one", "other"] g_joined_rooms := by
  obtain ⟨f, fd, F, hm⟩ := T.f_joined_rooms
  refine ⟨f, fd, ?_, hm, F.kp, F.binds fun _ _ _ _ _ _ us hl => match us, hl with | [_, _], _ => rfl⟩
  refine fn_by F sc_joined_rooms (by decide) fun cdv A outer s H E hr => ?_
  have hu := hu_of hr
  have hu64 := hr.units
  have hu65 : (A.deeper (PyProof.Rows.envOfC "joined_rooms" (defScope s_joined_rooms) s.heap.objs.size f cdv)).units + 65 < cLine := by
    have := hr.un
    omega
  refine ⟨_, (pss_one (ps_ret (pe_callTy (T := "tuple") (cTuple K rfl) (by rfl) T.b_tuple (by decide +kernel) (pa_cons (pe_callB (id := "sorted") (cr_sortedSet rfl) (by rfl) T.b_sorted (by decide +kernel) (pa_cons (pe_callTy (T := "set") (cr_setTI rfl) (by rfl) T.b_set (by decide +kernel) (pa_cons (pe_op (opCatA K rfl) (pv 0) (pv 1)) pa_nil)) pa_nil)) pa_nil)))), fun ds r hn hg => ?_⟩
  clear hu hu64 hu65 hr hn
  obtain ⟨n, a, b, hn, rfl, rfl⟩ := hg
  refine .inl (yo_ret (ye_tupL (Yf.yl (yf_sortSet (ns := rowF n a ++ rowF n b) (out := rowF n fun q => a q || b q) ((ye_catT (ye_var rfl) (ye_var rfl) ?_).to ?_) ?_ rowF_rising mem_rowF_or))))
  · rw [List.length_map, List.length_map]
    have z1 := rowF_len (n := n) (f := a)
    have z2 := rowF_len (n := n) (f := b)
    omega
  · rw [List.map_append]
  · rw [List.length_append]
    have z1 := rowF_len (n := n) (f := a)
    have z2 := rowF_len (n := n) (f := b)
    omega

theorem ok_lower_levels {P : Program} {w : World} {K : PySem.W.Frag} {mg : Str → Option Value} {base : Heap} {aR : Addr} {des : Array DictEntry} {dn : Nat} (T : Txt K w mg aR des dn) (C_falls_table : Cal P w K mg base 2 "falls_table" ["house", "keeps"] g_falls_table) (C_ground_table : Cal P w K mg base 3 "ground_table" ["house", "keeps"] g_ground_table) (C_joined_rooms : Cal P w K mg base 1 "joined_rooms" ["one", "other"] g_joined_rooms) (C_rises_table : Cal P w K mg base 2 "rises_table" ["house", "keeps"] g_rises_table) (C_rooms_behind : Cal P w K mg base 1 "rooms_behind" ["rooms", "table"] g_rooms_behind) : CalF P w K mg base 4 "lower_levels" ["house", "place", "keeps"] g_lower_levels := by
  obtain ⟨f, fd, F, hm⟩ := T.f_lower_levels
  refine ⟨f, fd, ?_, hm, F.kp, F.binds fun _ _ _ _ _ _ us hl => match us, hl with | [_, _, _], _ => rfl⟩
  refine fn_byF F sc_lower_levels (by decide) fun cdv A outer s H E hr => ?_
  have hu := hu_of hr
  have hu64 := hr.units
  have hu65 : (A.deeper (PyProof.Rows.envOfC "lower_levels" (defScope s_lower_levels) s.heap.objs.size f cdv)).units + 65 < cLine := by
    have := hr.un
    omega
  refine ⟨_, (pss_cons (ps_set (i := 3) sc_lower_levels.nd rfl (Or.inl rfl) (peCal K C_falls_table rfl rfl rfl rfl rfl (hr.mono (by decide)) (by rfl) (pa_cons (pv 0) (pa_cons (pv 2) pa_nil))))
      (pss_cons (ps_set (i := 4) sc_lower_levels.nd rfl (Or.inl rfl) (peCal K C_rises_table rfl rfl rfl rfl rfl (hr.mono (by decide)) (by rfl) (pa_cons (pv 0) (pa_cons (pv 2) pa_nil))))
      (pss_cons (ps_set (i := 5) sc_lower_levels.nd rfl (Or.inl rfl) (pe_lst (pa_cons (pe_tup (pa_cons (pe_ix (ixT K rfl) (pv 1) pe_int (fun _ _ => rfl)) pa_nil)) pa_nil)))
      (pss_cons (ps_for PassesOwn.never (by rfl) (pi_range1 (by rfl) T.b_range (pa_cons (pe_ix (ixT K rfl) (pv 1) pe_int (fun _ _ => rfl)) pa_nil)) (pg_name (i := 6) sc_lower_levels.nd rfl (Or.inl rfl))
        (pss_one (ps_expr (peApp K rfl (pv 5) (peCal K C_rooms_behind rfl rfl rfl rfl rfl (hr.mono (by decide)) (by rfl) (pa_cons (pe_ix (ixL K rfl) (pv 5) (pe_un un_neg pe_int) (fun _ _ => rfl)) (pa_cons (pv 3) pa_nil)))))))
      (pss_cons (ps_set (i := 5) sc_lower_levels.nd rfl (Or.inl rfl) (peRev K rfl (pv 5)))
      (pss_cons (ps_set (i := 7) sc_lower_levels.nd rfl (Or.inl rfl) (pe_lst (pa_cons (peCal K C_rooms_behind rfl rfl rfl rfl rfl (hr.mono (by decide)) (by rfl) (pa_cons (pe_ix (ixL K rfl) (pv 5) pe_int (fun _ _ => rfl)) (pa_cons (peCal K C_ground_table rfl rfl rfl rfl rfl hr (by rfl) (pa_cons (pv 0) (pa_cons (pv 2) pa_nil))) pa_nil))) pa_nil)))
      (pss_cons (ps_for PassesOwn.never (by rfl) (pi_range2 (by rfl) T.b_range (pa_cons pe_int (pa_cons (pe_op op_add (pe_ix (ixT K rfl) (pv 1) pe_int (fun _ _ => rfl)) pe_int) pa_nil))) (pg_name (i := 6) sc_lower_levels.nd rfl (Or.inl rfl))
        (pss_one (ps_expr (peApp K rfl (pv 7) (peCal K C_joined_rooms rfl rfl rfl rfl rfl (hr.mono (by decide)) (by rfl) (pa_cons (peCal K C_rooms_behind rfl rfl rfl rfl rfl (hr.mono (by decide)) (by rfl) (pa_cons (pe_ix (ixL K rfl) (pv 5) (pv 6) (fun _ _ => rfl)) (pa_cons (pv 2) pa_nil))) (pa_cons (peCal K C_rooms_behind rfl rfl rfl rfl rfl (hr.mono (by decide)) (by rfl) (pa_cons (pe_ix (ixL K rfl) (pv 7) (pe_un un_neg pe_int) (fun _ _ => rfl)) (pa_cons (pv 4) pa_nil))) pa_nil)))))))
      (pss_one (ps_ret (pv 7)))))))))), fun ds r hn hg => ?_⟩
  clear hu hu64 hu65 hr hn
  obtain ⟨h, k, p0, c, gd, hp, hc, rfl, rfl⟩ := hg
  refine yo_seq (yo_asg (ye_call (ya_cons (ye_var rfl) (ya_cons (ye_var rfl) ya_nil)) rfl ⟨h, k, gd, rfl, rfl⟩)) ?_
  refine yo_seq (yo_asg (ye_call (ya_cons (ye_var rfl) (ya_cons (ye_var rfl) ya_nil)) rfl ⟨h, k, gd, rfl, rfl⟩)) ?_
  refine yo_seq (yo_asgM (xs := [encR h.many (firF h k p0 0)]) (yf_lst (ya_cons ((ye_tup (ya_cons (ye_ixT (d := .int p0) (ye_var rfl) ye_int rfl) ya_nil) (show (1 : Nat) ≤ 100000 by decide)).to (encR_one hp).symm) ya_nil) (show (1 : Nat) ≤ 100000 by decide))) ?_
  refine yo_seq (yo_forN (v := upN) (n := c) (yi_range1 (n := (c : Int)) (ya_cons (ye_ixT (d := .int c) (ye_var rfl) ye_int rfl) ya_nil) (by omega) (by omega)) (fun i => [.im h.enc, .im (encP (p0, c)), .im (encF h.many k), .im (encF h.many (fallF h k)), .im (encF h.many (riseF h k)), .ml ((List.range (i + 1)).map fun j => encR h.many (firF h k p0 j)), .no, .no]) rfl (fun _ => by simp) fun i hi => ?_) ?_
  · refine Yo.to (yo_weak (yo_app rfl (ye_call (ya_cons (ye_ixL (yl_var rfl) (ye_neg (ye_int (i := 1))) at_last) (ya_cons (ye_var rfl) ya_nil)) rfl (show g_rooms_behind _ _ from ⟨h.many, firF h k p0 i, fallF h k, gd.few, rfl, rfl⟩)) (by simp; omega)) (.same (.same (.same (.same (.same (.same (.drop (.same .nil))))))))) ?_
    have e : ((List.range (i + 1)).map fun j => encR h.many (firF h k p0 j)) ++ [encR h.many (rbF h.many (firF h k p0 i) (fallF h k))] = (List.range (i + 1 + 1)).map fun j => encR h.many (firF h k p0 j) := by
      rw [List.range_succ (n := i + 1), List.map_append]
      rfl
    rw [← e]
  have rv : ((List.range (c + 1)).map fun j => encR h.many (firF h k p0 j)).reverse = (List.range (c + 1)).map fun j => encR h.many (firF h k p0 (c - j)) := by
    refine List.ext_getElem (by simp) fun i h1 h2 => ?_
    simp
  refine yo_seq (yo_asgM (xs := (List.range (c + 1)).map fun j => encR h.many (firF h k p0 (c - j))) (Yf.to (yf_rev (yl_var rfl)) rv)) ?_
  refine yo_seq (yo_asgM (xs := (List.range (0 + 1)).map fun l => encR h.many (rowsF h k p0 c l)) (yf_lst (ya_cons (ye_call (ya_cons (ye_ixL (yl_var rfl) (ye_int (i := 0)) (at_range (i := 0) (by omega))) (ya_cons (ye_call (ya_cons (ye_var rfl) (ya_cons (ye_var rfl) ya_nil)) rfl ⟨h, k, gd, rfl, rfl⟩) ya_nil)) rfl (show g_rooms_behind _ _ from ⟨h.many, firF h k p0 (c - 0), groundF h k, gd.few, rfl, rfl⟩)) ya_nil) (show (1 : Nat) ≤ 100000 by decide))) ?_
  have e2 : ((c : Int) + 1 - 1).toNat = c := by omega
  refine yo_seq (yo_forN (v := fun i => 1 + (i : Int)) (n := c) (by have z := yi_range2 (m := 1) (n := (c : Int) + 1) (K := K) (es := [Ent.im h.enc, .im (encP (p0, c)), .im (encF h.many k), .im (encF h.many (fallF h k)), .im (encF h.many (riseF h k)), .ml ((List.range (c + 1)).map fun j => encR h.many (firF h k p0 (c - j))), .no, .ml ((List.range (0 + 1)).map fun l => encR h.many (rowsF h k p0 c l))]) (ya_cons ye_int (ya_cons (ye_add (i := (c : Int)) (j := 1) (ye_ixT (i := 1) (ye_var (i := 1) (d := encP (p0, c)) rfl) (ye_int (i := 1)) rfl) (ye_int (i := 1))) ya_nil)) (by omega); rw [e2] at z; exact z) (fun i => [.im h.enc, .im (encP (p0, c)), .im (encF h.many k), .im (encF h.many (fallF h k)), .im (encF h.many (riseF h k)), .ml ((List.range (c + 1)).map fun j => encR h.many (firF h k p0 (c - j))), .no, .ml ((List.range (i + 1)).map fun l => encR h.many (rowsF h k p0 c l))]) rfl (fun _ => by simp) fun i hi => ?_) (yo_retM rfl)
  refine Yo.to (yo_weak (yo_app rfl (ye_call (ya_cons (ye_call (ya_cons (ye_ixL (yl_var rfl) ((ye_var rfl).to (d' := .int ((i + 1 : Nat) : Int)) (congrArg PyData.int (by omega))) (at_range (i := i + 1) (by omega))) (ya_cons (ye_var rfl) ya_nil)) rfl (show g_rooms_behind _ _ from ⟨h.many, firF h k p0 (c - (i + 1)), k, gd.few, rfl, rfl⟩)) (ya_cons (ye_call (ya_cons (ye_ixL (yl_var rfl) (ye_neg (ye_int (i := 1))) at_last) (ya_cons (ye_var rfl) ya_nil)) rfl (show g_rooms_behind _ _ from ⟨h.many, rowsF h k p0 c i, riseF h k, gd.few, rfl, rfl⟩)) ya_nil)) rfl (show g_joined_rooms _ _ from ⟨h.many, _, _, gd.few, rfl, rfl⟩)) (by simp; omega)) (.same (.same (.same (.same (.same (.same (.drop (.same .nil))))))))) ?_
  have e : ((List.range (i + 1)).map fun l => encR h.many (rowsF h k p0 c l)) ++ [encR h.many (fun q => rbF h.many (firF h k p0 (c - (i + 1))) k q || rbF h.many (rowsF h k p0 c i) (riseF h k) q)] = (List.range (i + 1 + 1)).map fun l => encR h.many (rowsF h k p0 c l) := by
    rw [List.range_succ (n := i + 1), List.map_append]
    show _ = _ ++ [encR h.many (if i + 1 ≤ c then _ else _)]
    rw [if_pos (by omega : i + 1 ≤ c)]
  rw [← e]
theorem rows_key {n : Nat} {R : Nat → Nat → Bool} {c b N i j : Nat} (rd : Round n R c b N) (h1 : c ≤ i) (h2 : i < j) (h3 : j < N) : rowF n (R i) ≠ rowF n (R j) := fun e => rd.first i j h1 h2 h3 fun _ hp => rowF_inj e hp

theorem ok_levels_from {P : Program} {w : World} {K : PySem.W.Frag} {mg : Str → Option Value} {base : Heap} {aR : Addr} {des : Array DictEntry} {dn : Nat} (T : Txt K w mg aR des dn) (C_keeps_table : Cal P w K mg base 3 "keeps_table" ["house"] g_keeps_table) (C_lower_levels : CalF P w K mg base 4 "lower_levels" ["house", "place", "keeps"] g_lower_levels) (C_rises_table : Cal P w K mg base 2 "rises_table" ["house", "keeps"] g_rises_table) (C_rooms_behind : Cal P w K mg base 1 "rooms_behind" ["rooms", "table"] g_rooms_behind) : Cal P w K mg base 5 "levels_from" ["house", "place"] g_levels_from := by
  obtain ⟨f, fd, F, hm⟩ := T.f_levels_from
  refine ⟨f, fd, ?_, hm, F.kp, F.binds fun _ _ _ _ _ _ us hl => match us, hl with | [_, _], _ => rfl⟩
  refine fn_by F sc_levels_from (by decide) fun cdv A outer s H E hr => ?_
  have hu := hu_of hr
  have hu64 := hr.units
  have hu65 : (A.deeper (PyProof.Rows.envOfC "levels_from" (defScope s_levels_from) s.heap.objs.size f cdv)).units + 65 < cLine := by
    have := hr.un
    omega
  refine ⟨_, (pss_cons (ps_set (i := 2) sc_levels_from.nd rfl (Or.inl rfl) (peCal K C_keeps_table rfl rfl rfl rfl rfl (hr.mono (by decide)) (by rfl) (pa_cons (pv 0) pa_nil)))
      (pss_cons (ps_set (i := 3) sc_levels_from.nd rfl (Or.inl rfl) (peCal K C_rises_table rfl rfl rfl rfl rfl (hr.mono (by decide)) (by rfl) (pa_cons (pv 0) (pa_cons (pv 2) pa_nil))))
      (pss_cons (ps_set (i := 4) sc_levels_from.nd rfl (Or.inl rfl) (pe_calF C_lower_levels hr (by rfl) (pa_cons (pv 0) (pa_cons (pv 1) (pa_cons (pv 2) pa_nil)))))
      (pss_cons (ps_set (i := 5) sc_levels_from.nd rfl (Or.inl rfl) pe_dnewT)
      (pss_cons (ps_while PassesOwn.never (pt_cmp (pc_dnotin hu (pe_ix (ixL K rfl) (pv 4) (pe_un un_neg pe_int) (fun _ _ => rfl)) (pv 5)))
        (pss_cons (ps_dput hu (pv 5) (pe_ix (ixL K rfl) (pv 4) (pe_un un_neg pe_int) (fun _ _ => rfl)) (pe_op op_sub (pe_callB (id := "len") (cLen K rfl) (by rfl) T.b_len (by decide +kernel) (pa_cons (pv 4) pa_nil)) pe_int) rfl)
        (pss_one (ps_expr (peApp K rfl (pv 4) (peCal K C_rooms_behind rfl rfl rfl rfl rfl (hr.mono (by decide)) (by rfl) (pa_cons (pe_ix (ixL K rfl) (pv 4) (pe_un un_neg pe_int) (fun _ _ => rfl)) (pa_cons (pv 3) pa_nil))))))))
      (pss_one (ps_ret (pe_tup (pa_cons (pe_slice (slL K rfl) (pv 4) po_none (po_some (pe_un un_neg pe_int))) (pa_cons (pe_dget hu (pv 5) (pe_ix (ixL K rfl) (pv 4) (pe_un un_neg pe_int) (fun _ _ => rfl)) (fun _ _ => rfl)) pa_nil)))))))))), fun ds r hn hg => ?_⟩
  clear hu hu64 hu65 hr hn
  obtain ⟨h, m, p0, c, b, N, gd, kp, hp, hc, hN, rd, rfl, rfl⟩ := hg
  refine .inl ?_
  have b1 := rd.lo
  have b2 := rd.lt
  generalize hk : kIt h m = k at rd
  refine yo_seq (yo_asg (ye_call (ya_cons (ye_var rfl) ya_nil) rfl ⟨h, m, gd, kp, rfl, rfl⟩)) ?_
  rw [hk]
  refine yo_seq (yo_asg (ye_call (ya_cons (ye_var rfl) (ya_cons (ye_var rfl) ya_nil)) rfl ⟨h, k, gd, rfl, rfl⟩)) ?_
  refine yo_seq (yo_asgM (yf_call (ya_cons (ye_var rfl) (ya_cons (ye_var rfl) (ya_cons (ye_var rfl) ya_nil))) rfl (show g_lower_levels _ _ from ⟨h, k, p0, c, gd, hp, hc, rfl, rfl⟩))) ?_
  refine yo_seq (yo_asgD ydf_empty) ?_
  have seen_at : lk ((List.range (N - c)).map fun j => (rowF h.many (rowsF h k p0 c (c + j)), PyData.int ((c + j : Nat) : Int))) (rowF h.many (rowsF h k p0 c N)) = some (.int (b : Int)) := by
    have z := lk_row (i := N - c) (j := b - c) (key := fun j => rowF h.many (rowsF h k p0 c (c + j))) (val := fun j => PyData.int ((c + j : Nat) : Int)) (k := rowF h.many (rowsF h k p0 c N)) (by omega) (by show rowF h.many (rowsF h k p0 c (c + (b - c))) = _; rw [show c + (b - c) = b by omega]; exact (rowF_congr rd.eq).symm) fun l hl hne e => by
      rw [rowF_congr rd.eq] at e
      rcases Nat.lt_or_gt_of_ne hne with z | z
      · exact rows_key rd (by omega) (by omega) (by omega) e
      · exact rows_key rd (by omega) (by omega) (by omega) e.symm
    rw [z, show c + (b - c) = b by omega]
  refine yo_seq (yo_while (N - c) (fun i => [.im h.enc, .im (encP (p0, c)), .im (encF h.many k), .im (encF h.many (riseF h k)), .ml ((List.range (c + i + 1)).map fun l => encR h.many (rowsF h k p0 c l)), .md ((List.range i).map fun j => (rowF h.many (rowsF h k p0 c (c + j)), PyData.int ((c + j : Nat) : Int)))]) rfl (fun i hi => ?_) (fun i hi => ?_) ?_) ?_
  · refine Yt.to (yt_B (ye_dNotIn (key := rowF h.many (rowsF h k p0 c (c + i))) (ye_ixL (yl_var rfl) (ye_neg (ye_int (i := 1))) at_last) (yd_var rfl))) ?_
    rw [lk_rows fun j hj => rows_key rd (by omega) (by omega) (by omega)]
    rfl
  · refine yo_seq (yo_dput (key := rowF h.many (rowsF h k p0 c (c + i))) (d := .int ((c + i : Nat) : Int)) rfl ((ye_sub (i := ((c + i + 1 : Nat) : Int)) (j := 1) ((ye_lenL (yl_var rfl)).to (by rw [List.length_map, List.length_range])) ye_int).to (congrArg PyData.int (by omega))) (ye_ixL (yl_var rfl) (ye_neg (ye_int (i := 1))) at_last) (lk_rows fun j hj => rows_key rd (by omega) (by omega) (by omega)) (by simp; omega)) ?_
    refine Yo.to (yo_app rfl (ye_call (ya_cons (ye_ixL (yl_var rfl) (ye_neg (ye_int (i := 1))) at_last) (ya_cons (ye_var rfl) ya_nil)) rfl (show g_rooms_behind _ _ from ⟨h.many, rowsF h k p0 c (c + i), riseF h k, gd.few, rfl, rfl⟩)) (by simp; omega)) ?_
    have e1 : ((List.range (c + i + 1)).map fun l => encR h.many (rowsF h k p0 c l)) ++ [encR h.many (rbF h.many (rowsF h k p0 c (c + i)) (riseF h k))] = (List.range (c + (i + 1) + 1)).map fun l => encR h.many (rowsF h k p0 c l) := by
      show _ = (List.range (c + i + 1 + 1)).map _
      rw [List.range_succ (n := c + i + 1), List.map_append]
      show _ = _ ++ [encR h.many (if c + i + 1 ≤ c then _ else _)]
      rw [if_neg (by omega : ¬ c + i + 1 ≤ c)]
    have e2 : ((List.range i).map fun j => (rowF h.many (rowsF h k p0 c (c + j)), PyData.int ((c + j : Nat) : Int))) ++ [(rowF h.many (rowsF h k p0 c (c + i)), .int ((c + i : Nat) : Int))] = (List.range (i + 1)).map fun j => (rowF h.many (rowsF h k p0 c (c + j)), PyData.int ((c + j : Nat) : Int)) := by
      rw [List.range_succ, List.map_append]
      rfl
    rw [← e1, ← e2]
    rfl
  · refine Yt.to (yt_B (ye_dNotIn (key := rowF h.many (rowsF h k p0 c (c + (N - c)))) (ye_ixL (yl_var rfl) (ye_neg (ye_int (i := 1))) at_last) (yd_var rfl))) ?_
    rw [show c + (N - c) = N by omega, lk_row (i := N - c) (j := b - c) (by omega) (by rw [show c + (b - c) = b by omega]; exact (rowF_congr rd.eq).symm) fun l hl hne e => ?_]
    · rfl
    · rw [rowF_congr rd.eq] at e
      rcases Nat.lt_or_gt_of_ne hne with z | z
      · exact rows_key rd (by omega) (by omega) (by omega) e
      · exact rows_key rd (by omega) (by omega) (by omega) e.symm
  · rw [show c + (N - c) = N by omega]
    refine yo_ret (ye_tup (ya_cons ((yf_cut (lo := none) (hi := some (-1)) (yl_var rfl) yp_none (yp_some (ye_neg (ye_int (i := 1))))).ye.to ?_) (ya_cons (ye_dGet (key := rowF h.many (rowsF h k p0 c N)) (yd_var rfl) (ye_ixL (yl_var rfl) (ye_neg (ye_int (i := 1))) at_last) ?_) ya_nil)) (show (2 : Nat) ≤ 100000 by decide))
    · refine congrArg PyData.list ?_
      unfold cutD
      rw [HT.sIx_none, List.drop_zero, List.length_map, List.length_range]
      have e : HT.sIx (N + 1) (N + 1) (some (-1)) = N := by
        show (if (-1 : Int) < 0 then ((-1 : Int) + ((N + 1 : Nat) : Int)).toNat else min (-1 : Int).toNat (N + 1)) = N
        rw [if_pos (by decide)]
        omega
      rw [e, Nat.sub_zero, ← List.map_take, List.take_range, Nat.min_eq_left (by omega)]
    · exact seen_at

theorem ok_forward {P : Program} {w : World} {K : PySem.W.Frag} {mg : Str → Option Value} {base : Heap} {aR : Addr} {des : Array DictEntry} {dn : Nat} (T : Txt K w mg aR des dn) (C_check_house : Cal P w K mg base 5 "check_house" ["house"] g_check_house) (C_check_place : Cal P w K mg base 2 "check_place" ["house", "place"] g_check_place) (C_least : Cal P w K mg base 5 "least" ["stair"] g_least) (C_levels_from : Cal P w K mg base 5 "levels_from" ["house", "place"] g_levels_from) : Cal P w K mg base 6 "forward" ["house", "place"] g_forward := by
  obtain ⟨f, fd, F, hm⟩ := T.f_forward
  refine ⟨f, fd, ?_, hm, F.kp, F.binds fun _ _ _ _ _ _ us hl => match us, hl with | [_, _], _ => rfl⟩
  refine fn_by F sc_forward (by decide) fun cdv A outer s H E hr => ?_
  have hu := hu_of hr
  have hu64 := hr.units
  have hu65 : (A.deeper (PyProof.Rows.envOfC "forward" (defScope s_forward) s.heap.objs.size f cdv)).units + 65 < cLine := by
    have := hr.un
    omega
  refine ⟨_, (pss_cons (ps_expr (peCal K C_check_house rfl rfl rfl rfl rfl hr (by rfl) (pa_cons (pv 0) pa_nil)))
      (pss_cons (ps_expr (peCal K C_check_place rfl rfl rfl rfl rfl (hr.mono (by decide)) (by rfl) (pa_cons (pv 0) (pa_cons (pv 1) pa_nil))))
      (pss_cons (ps_asg (peCal K C_levels_from rfl rfl rfl rfl rfl hr (by rfl) (pa_cons (pv 0) (pa_cons (pv 1) pa_nil))) (pgT (n := 2) K rfl rfl (pgs_cons (pg_name (i := 2) sc_forward.nd rfl (Or.inr rfl)) (pgs_cons (pg_name (i := 3) sc_forward.nd rfl (Or.inl rfl)) pgs_nil))))
      (pss_cons (ps_set (i := 4) sc_forward.nd rfl (Or.inl rfl) (pe_lst pa_nil))
      (pss_cons (ps_for PassesOwn.never (by rfl) (pi_range1 (by rfl) T.b_range (pa_cons (pe_ix (ixT K rfl) (pv 0) pe_int (fun _ _ => rfl)) pa_nil)) (pg_name (i := 5) sc_forward.nd rfl (Or.inr rfl))
        (pss_cons (ps_set (i := 6) sc_forward.nd rfl (Or.inl rfl) (pe_callTy (T := "tuple") (cTuple K rfl) (by rfl) T.b_tuple (by decide +kernel) (pa_cons (pe_lc (own := [("x", 7)]) (by rfl) sc_forward.nd (pi_range1 (by rfl) T.b_range (pa_cons (pv 3) pa_nil)) (blkOk_by (N := ["house", "place", "rows", "back", "stairs", "room", "once", "x", "again"]) (sc := defScope s_forward) (by decide +kernel))
      (fun _ _ _ _ _ => (pg_name (i := 7) sc_forward.nd rfl (Or.inl rfl))) (fun _ _ _ _ _ => (pts_one (pt_cmpR (opIn K rfl) (pv 5) (pe_ix (ixL K rfl) (pv 2) (pv 7) (fun _ _ => rfl)) (by rfl)))) (fun _ _ _ _ _ => (pv 7))) pa_nil)))
        (pss_cons (ps_set (i := 8) sc_forward.nd rfl (Or.inl rfl) (pe_callTy (T := "tuple") (cTuple K rfl) (by rfl) T.b_tuple (by decide +kernel) (pa_cons (pe_lc (own := [("x", 7)]) (by rfl) sc_forward.nd (pi_range2 (by rfl) T.b_range (pa_cons (pv 3) (pa_cons (pe_callB (id := "len") (cLen K rfl) (by rfl) T.b_len (by decide +kernel) (pa_cons (pv 2) pa_nil)) pa_nil))) (blkOk_by (N := ["house", "place", "rows", "back", "stairs", "room", "once", "x", "again"]) (sc := defScope s_forward) (by decide +kernel))
      (fun _ _ _ _ _ => (pg_name (i := 7) sc_forward.nd rfl (Or.inl rfl))) (fun _ _ _ _ _ => (pts_one (pt_cmpR (opIn K rfl) (pv 5) (pe_ix (ixL K rfl) (pv 2) (pv 7) (fun _ _ => rfl)) (by rfl)))) (fun _ _ _ _ _ => (pv 7))) pa_nil)))
        (pss_one (ps_expr (peApp K rfl (pv 4) (peCal K C_least rfl rfl rfl rfl rfl hr (by rfl) (pa_cons (pe_tup (pa_cons (pv 3) (pa_cons (pe_op op_sub (pe_callB (id := "len") (cLen K rfl) (by rfl) T.b_len (by decide +kernel) (pa_cons (pv 2) pa_nil)) (pv 3)) (pa_cons (pv 6) (pa_cons (pv 8) pa_nil))))) pa_nil))))))))
      (pss_one (ps_ret (pv 4)))))))), fun ds r hn hg => ?_⟩
  clear hu hu64 hu65 hr hn
  obtain ⟨h, m, p0, c, b, N, bs, ts, gd, kp, hp, hc, hN, hb, hs, rd, st, rfl, rfl⟩ := hg
  refine .inl ?_
  have b1 := rd.lo
  have b2 := rd.lt
  have n1 := gd.few
  refine yo_seq (yo_drop (ye_call (ya_cons (ye_var rfl) ya_nil) rfl (show g_check_house _ _ from ⟨h, gd, rfl, rfl⟩))) ?_
  refine yo_seq (yo_drop (ye_call (ya_cons (ye_var rfl) (ya_cons (ye_var rfl) ya_nil)) rfl (show g_check_place _ _ from ⟨h, (p0, c), hp, hc, rfl, rfl⟩))) ?_
  refine yo_seq (yo_asgG (ye_call (ya_cons (ye_var rfl) (ya_cons (ye_var rfl) ya_nil)) rfl (show g_levels_from _ _ from ⟨h, m, p0, c, b, N, gd, kp, hp, hc, hN, rd, rfl, rfl⟩)) (yg_tup rfl (ygs_cons (yg_name ltr) (ygs_cons (yg_name ltr) ygs_nil)))) ?_
  generalize kIt h m = k at rd st ⊢
  refine yo_seq (yo_asgM (yf_lst ya_nil (show (0 : Nat) ≤ 100000 by decide))) ?_
  refine yo_seq (yo_forN (v := upN) (n := h.many) (yi_range1 (n := (h.many : Int)) (ya_cons (ye_ixT (d := .int h.many) (ye_var rfl) ye_int rfl) ya_nil) (by omega) (by omega)) (fun i => [.im h.enc, .im (encP (p0, c)), .im (.list ((List.range N).map fun l => encR h.many (rowsF h k p0 c l))), .im (.int b), .ml ((List.range i).map fun q => encS (bs q) (ts q) fun x => rowsF h k p0 c x q), .no, .no, .no, .no]) rfl (fun _ => by simp) fun q hq => ?_) (yo_freeze (i := 4) rfl (yo_ret (ye_var rfl)))
  refine yo_seq (yo_asg (ye_tupL (Yf.yl (Yf.to (yf_lcF (v := upN) (n := b) (j := 7) (fun x => rowsF h k p0 c x q) (fun x => .int x) (yi_range1 (n := (b : Int)) (ya_cons (ye_var rfl) ya_nil) (by omega) (by omega)) (by omega) (by simp) ltr fun x hx => ⟨?_, fun _ => ye_var rfl⟩) (upTo_enc0 (P := fun x => rowsF h k p0 c x q)))))) ?_
  · exact Yt.to (yt_test (ye_inT (neg := false) (ye_var rfl) (ye_ixL (Ye.yl (ye_var rfl)) (ye_var rfl) (at_range (i := x) (by omega))) rfl flat_row)) (inV_row hq)
  have e : ((N : Int) - b).toNat = N - b := by omega
  refine yo_seq (yo_asg (ye_tupL (Yf.yl (Yf.to (yf_lcF (v := fun i => (b : Int) + i) (n := N - b) (j := 7) (fun i => rowsF h k p0 c (b + i) q) (fun i => .int ((b : Int) + i)) (by rw [← e]; exact (yi_range2 (m := (b : Int)) (n := (N : Int)) (ya_cons (ye_var rfl) (ya_cons ((ye_lenL (Ye.yl (ye_var rfl))).to (by rw [List.length_map, List.length_range])) ya_nil)) (by omega))) (by omega) (by simp) ltr fun x hx => ⟨?_, fun _ => ye_var rfl⟩) (upTo_enc (P := fun x => rowsF h k p0 c x q)))))) ?_
  · exact Yt.to (yt_test (ye_inT (neg := false) (ye_var rfl) (ye_ixL (Ye.yl (ye_var rfl)) (ye_var rfl) (at_range (i := b + x) (by omega))) rfl flat_row)) (inV_row hq)
  obtain ⟨s1, s2⟩ := st q hq
  refine Yo.to (yo_weak (yo_app rfl (ye_call (ya_cons (ye_tup (ya_cons (ye_var rfl) (ya_cons ((ye_sub (i := (N : Int)) (j := (b : Int)) ((ye_lenL (Ye.yl (ye_var rfl))).to (by rw [List.length_map, List.length_range])) (ye_var rfl)).to (d' := .int ((N - b : Nat) : Int)) (congrArg PyData.int (by omega))) (ya_cons (ye_var rfl) (ya_cons (ye_var rfl) ya_nil)))) (show (4 : Nat) ≤ 100000 by decide)) ya_nil) rfl (show g_least _ _ from ⟨b, N - b, ts q, bs q, fun x => rowsF h k p0 c x q, hb, hs, s1, s2, rfl, rfl⟩)) (by simp; omega)) (.same (.same (.same (.same (.same (.drop (.drop (.drop (.drop .nil)))))))))) ?_
  rw [List.range_succ, List.map_append]
  rfl


end Sr
set_option Elab.async false
set_option linter.all false
set_option maxRecDepth 100000
set_option maxHeartbeats 4000000
set_option autoImplicit false
namespace Sr
open PySem L2

theorem ok_ways_of_rooms {P : Program} {w : World} {K : PySem.W.Frag} {mg : Str → Option Value} {base : Heap} {aR : Addr} {des : Array DictEntry} {dn : Nat} (T : Txt K w mg aR des dn)  : Cal P w K mg base 1 "ways_of_rooms" ["house"] g_ways_of_rooms := by
  obtain ⟨f, fd, F, hm⟩ := T.f_ways_of_rooms
  refine ⟨f, fd, ?_, hm, F.kp, F.binds fun _ _ _ _ _ _ us hl => match us, hl with | [_], _ => rfl⟩
  refine fn_by F sc_ways_of_rooms (by decide) fun cdv A outer s H E hr => ?_
  have hu := hu_of hr
  have hu64 := hr.units
  have hu65 : (A.deeper (PyProof.Rows.envOfC "ways_of_rooms" (defScope s_ways_of_rooms) s.heap.objs.size f cdv)).units + 65 < cLine := by
    have := hr.un
    omega
  refine ⟨_, (pss_cons (ps_asg (pv 0) (pgT (n := 2) K rfl rfl (pgs_cons (pg_name (i := 1) sc_ways_of_rooms.nd rfl (Or.inl rfl)) (pgs_cons (pg_name (i := 2) sc_ways_of_rooms.nd rfl (Or.inl rfl)) pgs_nil))))
      (pss_cons (ps_setLc (i := 3) (own := [("room", 4)]) (by rfl) sc_ways_of_rooms.nd rfl rfl (sw_true rfl rfl rfl (by decide +kernel)) (pi_range1 (by rfl) T.b_range (pa_cons (pv 1) pa_nil)) (blkOk_by (N := ["house", "many", "ways", "rows", "room", "k", "way"]) (sc := defScope s_ways_of_rooms) (by decide +kernel))
      (fun _ _ _ _ _ => (pg_name (i := 4) sc_ways_of_rooms.nd rfl (Or.inl rfl))) (fun _ _ _ _ _ => pts_nil) (fun _ _ _ _ _ => (pe_lst pa_nil)))
      (pss_cons (ps_for PassesOwn.never (by rfl) (pi_enumT K rfl (by rfl) T.b_enumerate (pa_cons (pv 2) pa_nil)) (pgT (n := 2) K rfl rfl (pgs_cons (pg_name (i := 5) sc_ways_of_rooms.nd rfl (Or.inl rfl)) (pgs_cons (pg_name (i := 6) sc_ways_of_rooms.nd rfl (Or.inl rfl)) pgs_nil)))
        (pss_one (ps_expr (peApp K rfl (pe_ix (ixL K rfl) (pv 3) (pe_ix (ixT K rfl) (pv 6) pe_int (fun _ _ => rfl)) (fun _ _ => rfl)) (pe_tup (pa_cons (pv 5) (pa_cons (pe_ix (ixT K rfl) (pv 6) pe_int (fun _ _ => rfl)) (pa_cons (pe_ix (ixT K rfl) (pv 6) pe_int (fun _ _ => rfl)) pa_nil))))))))
      (pss_one (ps_ret (pv 3)))))), fun ds r hn hg => ?_⟩
  clear hu hu64 hu65 hr hn
  obtain ⟨h, gd, rfl, rfl⟩ := hg
  obtain ⟨n, ws⟩ := h
  refine .inl ?_
  have hn : n ≤ 12 := gd.few
  have hs : ws.length ≤ 40 := gd.short
  have hm : ∀ v ∈ ws, v.room < n := gd.room
  refine yo_seq (yo_asgG (ye_var rfl) (yg_tup rfl (ygs_cons (yg_name ltr) (ygs_cons (yg_name ltr) ygs_nil)))) ?_
  refine yo_seq (yo_asgT (rows := (List.range n).map fun p => (wOfI ws p 0).map encE) (yft_lc (v := upN) (n := n) (j := 4) (fun p => (wOfI ws p 0).map encE) (yi_range1 (n := (n : Int)) (ya_cons (ye_var rfl) ya_nil) (by omega) (by omega)) (by omega) (by simp) ltr fun p hp => yf_lst ya_nil (show (0 : Nat) ≤ 100000 by decide))) ?_
  refine yo_seq (yo_for (items := enD (ws.map Way.enc)) (yi_enumT (ye_var rfl)) (fun i => [.im (House.enc ⟨n, ws⟩), .im (.int n), .im (encWs ws), .mt ((List.range n).map fun p => (wOfI ws p i).map encE), .no, .no, .no]) rfl fun i d hd => ?_) ?_
  · have hl : i < ws.length := by
      have z := (List.getElem?_eq_some_iff.mp hd).1
      rw [enD_len, List.length_map] at z
      exact z
    have e := List.getElem?_eq_getElem hl
    have hd2 := enD_get (xs := ws.map Way.enc) (i := i) (d := (ws[i]).enc) (by rw [List.getElem?_map, e]; rfl)
    rw [hd2] at hd
    cases hd
    have hr := hm _ (List.mem_of_getElem? e)
    refine ⟨_, _, yg_tup rfl (ygs_cons (yg_name ltr) (ygs_cons (yg_name ltr) ygs_nil)), ?_⟩
    generalize hv : ws[i] = v at e hr
    refine Yo.to (yo_weak (yo_mtApp (j := v.room) (d := encE (v, i)) (r := (wOfI ws v.room i).map encE) rfl (ye_ixT (d := .int v.room) (ye_var rfl) ye_int rfl) (ye_tup (ya_cons (ye_var rfl) (ya_cons (ye_ixT (d := .str v.deed.str) (ye_var rfl) ye_int rfl) (ya_cons (ye_ixT (d := .int v.other) (ye_var rfl) ye_int rfl) ya_nil))) (show (3 : Nat) ≤ 100000 by decide)) (by rw [List.getElem?_map, List.getElem?_range hr]; rfl) ?_) (.same (.same (.same (.same (.same (.drop (.drop .nil)))))))) ?_
    · have z := wOfI_len (ws := ws) (p := v.room) (i := i)
      rw [List.length_map]
      omega
    · have z : ((List.range n).map fun p => (wOfI ws p i).map encE).set v.room ((wOfI ws v.room i).map encE ++ [encE (v, i)]) = (List.range n).map fun p => (wOfI ws p (i + 1)).map encE := by
        refine List.ext_getElem (by simp) fun j h1 h2 => ?_
        rw [List.getElem_set]
        simp only [List.getElem_map, List.getElem_range]
        rw [wOfI_next e]
        by_cases c : v.room = j
        · subst c
          rw [if_pos rfl, if_pos rfl, List.map_append]
          rfl
        · rw [if_neg c, if_neg c]
      rw [← z]
  · rw [enD_len, List.length_map]
    refine yo_freezeT (i := 3) rfl (yo_ret ((ye_var rfl).to ?_))
    unfold rowsW
    rw [List.map_map]
    refine congrArg PyData.list (List.map_congr_left fun p _ => ?_)
    show PyData.list ((wOfI ws p ws.length).map encE) = _
    rw [wOfI_all]

theorem ok_search_from {P : Program} {w : World} {K : PySem.W.Frag} {mg : Str → Option Value} {base : Heap} {aR : Addr} {des : Array DictEntry} {dn : Nat} (T : Txt K w mg aR des dn) (C_deed_number : Cal P w K mg base 1 "deed_number" ["deed", "number"] g_deed_number) (C_deed_open : Cal P w K mg base 1 "deed_open" ["deed", "number"] g_deed_open) (C_ways_of_rooms : Cal P w K mg base 1 "ways_of_rooms" ["house"] g_ways_of_rooms) : Cal P w K mg base 2 "search_from" ["house", "place", "top"] g_search_from := by
  obtain ⟨f, fd, F, hm⟩ := T.f_search_from
  refine ⟨f, fd, ?_, hm, F.kp, F.binds fun _ _ _ _ _ _ us hl => match us, hl with | [_, _, _], _ => rfl⟩
  refine fn_by F sc_search_from (by decide) fun cdv A outer s H E hr => ?_
  have hu := hu_of hr
  have hu64 := hr.units
  have hu65 : (A.deeper (PyProof.Rows.envOfC "search_from" (defScope s_search_from) s.heap.objs.size f cdv)).units + 65 < cLine := by
    have := hr.un
    omega
  refine ⟨_, (pss_cons (ps_set (i := 3) sc_search_from.nd rfl (Or.inl rfl) (peCal K C_ways_of_rooms rfl rfl rfl rfl rfl hr (by rfl) (pa_cons (pv 0) pa_nil)))
      (pss_cons (ps_set (i := 4) sc_search_from.nd rfl (Or.inl rfl) (pe_dispT hu (pv 1) pe_non))
      (pss_cons (ps_set (i := 5) sc_search_from.nd rfl (Or.inl rfl) (pe_lst (pa_cons (pv 1) pa_nil)))
      (pss_cons (ps_set (i := 6) sc_search_from.nd rfl (Or.inl rfl) pe_int)
      (pss_cons (ps_while PassesOwn.never (pt_cmpR op_lt (pv 6) (pe_callB (id := "len") (cLen K rfl) (by rfl) T.b_len (by decide +kernel) (pa_cons (pv 5) pa_nil)) (nomark _))
        (pss_cons (ps_asg (pe_ix (ixL K rfl) (pv 5) (pv 6) (fun _ _ => rfl)) (pgT (n := 2) K rfl rfl (pgs_cons (pg_name (i := 7) sc_search_from.nd rfl (Or.inl rfl)) (pgs_cons (pg_name (i := 8) sc_search_from.nd rfl (Or.inl rfl)) pgs_nil))))
        (pss_cons (ps_for PassesOwn.never (by rfl) (piL K rfl (pe_ix (ixL K rfl) (pv 3) (pv 7) (fun _ _ => rfl))) (pgT (n := 3) K rfl rfl (pgs_cons (pg_name (i := 9) sc_search_from.nd rfl (Or.inl rfl)) (pgs_cons (pg_name (i := 10) sc_search_from.nd rfl (Or.inl rfl)) (pgs_cons (pg_name (i := 11) sc_search_from.nd rfl (Or.inl rfl)) pgs_nil))))
          (pss_one (ps_if (pt_val (peCal K C_deed_open rfl rfl rfl rfl rfl hr (by rfl) (pa_cons (pv 10) (pa_cons (pv 8) pa_nil))))
            (pss_cons (ps_set (i := 12) sc_search_from.nd rfl (Or.inl rfl) (pe_tup (pa_cons (pv 11) (pa_cons (peCal K C_deed_number rfl rfl rfl rfl rfl hr (by rfl) (pa_cons (pv 10) (pa_cons (pv 8) pa_nil))) pa_nil))))
            (pss_one (ps_if (PW.pt (pw_and (pt_cmpR op_le (pe_ix (ixT K rfl) (pv 12) pe_int (fun _ _ => rfl)) (pv 2) (nomark _)) (pw_and1 (pt_cmp (pc_dnotin hu (pv 12) (pv 4))))))
              (pss_cons (ps_dput hu (pv 4) (pv 12) (pe_tup (pa_cons (pe_tup (pa_cons (pv 7) (pa_cons (pv 8) pa_nil))) (pa_cons (pv 9) pa_nil))) rfl)
              (pss_one (ps_expr (peApp K rfl (pv 5) (pv 12)))))
              pss_nil)))
            pss_nil)))
        (pss_one (ps_aug (i := 6) sc_search_from.nd rfl (Or.inl rfl) pe_int ip_add)))))
      (pss_one (ps_ret (pv 4)))))))), fun ds r hn hg => ?_⟩
  clear hu hu64 hu65 hr hn
  obtain ⟨h, p, top, m, gd, hp, ht, dn, rfl, rfl⟩ := hg
  refine .inl ?_
  have low := dn.low
  refine yo_seq (yo_asg (ye_call (ya_cons (ye_var rfl) ya_nil) rfl ⟨h, gd, rfl, rfl⟩)) ?_
  refine yo_seq (yo_asgD (ydf_one (key := keyP p) (d := .none) ((ye_var rfl).to (keyP_enc p)) ye_non)) ?_
  refine yo_seq (yo_asgM (yf_lst (ya_cons (ye_var rfl) ya_nil) (show (1 : Nat) ≤ 100000 by decide))) ?_
  refine yo_seq (yo_asg ye_int) ?_
  refine yo_seq (yo_while m (fun i => [.im h.enc, .im (encP p), .im (.int top), .im (rowsW h), .md (kvsOf (bfs h p top i)), .ml ((bfs h p top i).map fun e => encP e.pl), .im (.int (i : Nat)), .no, .no, .no, .no, .no, .no]) rfl (fun i hi => ?_) (fun i hi => ?_) ?_) (yo_freezeD (i := 4) rfl (yo_ret (ye_var rfl)))
  · exact Yt.to (yt_test (ye_lt (ye_var rfl) (ye_lenL (yl_var rfl)))) (decide_eq_true (by have z := dn.go i hi; rw [List.length_map]; omega))
  · have z := dn.go i hi
    have e1 := List.getElem?_eq_getElem z
    generalize (bfs h p top i)[i] = e at e1
    have I := bfs_inv gd hp ht i
    have he := List.mem_of_getElem? e1
    have hr := I.room e he
    have hd := I.deep e he
    have fin : ∀ j, j ≤ (wOf h.ways e.pl.1).length → (stepB h top e (bfs h p top i) j).length ≤ 10000 := fun j hj => by
      obtain ⟨mo, hm⟩ := stepB_pre (h := h) (top := top) (e := e) (es := stepB h top e (bfs h p top i) j) 0
      have hb : (stepB h top e (bfs h p top i) j).length ≤ (stepB h top e (bfs h p top i) (wOf h.ways e.pl.1).length).length := by
        have g : ∀ l, (stepB h top e (bfs h p top i) j).length ≤ ((((wOf h.ways e.pl.1).drop j).take l).foldl (tryW top e) (stepB h top e (bfs h p top i) j)).length := fun l => by
          generalize ((wOf h.ways e.pl.1).drop j).take l = ws
          generalize stepB h top e (bfs h p top i) j = es
          induction ws generalizing es with
          | nil => exact Nat.le_refl _
          | cons w ws ih =>
            rw [List.foldl_cons]
            refine Nat.le_trans ?_ (ih (tryW top e es w))
            unfold tryW
            split
            · rw [List.length_append]; omega
            · exact Nat.le_refl _
        have q := g (wOf h.ways e.pl.1).length
        have e2 : (((wOf h.ways e.pl.1).drop j).take (wOf h.ways e.pl.1).length).foldl (tryW top e) (stepB h top e (bfs h p top i) j) = stepB h top e (bfs h p top i) (wOf h.ways e.pl.1).length := by
          unfold stepB
          rw [← List.foldl_append, List.take_of_length_le (l := (wOf h.ways e.pl.1).drop j) (by rw [List.length_drop]; omega), List.take_append_drop, List.take_length]
        rw [e2] at q
        exact q
      rw [← bfs_next e1] at hb
      have q := bfs_len (h := h) (p := p) (top := top) (show i + 1 ≤ m by omega)
      rw [dn.stop] at q
      omega
    refine yo_seq (yo_asgG (ye_ixL (d := encP e.pl) (yl_var rfl) (ye_var rfl) (atI_nat (by rw [List.getElem?_map, e1]; rfl))) (yg_tup rfl (ygs_cons (yg_name ltr) (ygs_cons (yg_name ltr) ygs_nil)))) ?_
    refine yo_seq (yo_for (items := (wOf h.ways e.pl.1).map encE) (yi_list (ye_ixL (d := .list ((wOf h.ways e.pl.1).map encE)) (Ye.yl (ye_var (d := rowsW h) rfl)) (ye_var rfl) (at_range hr))) (fun j => [.im h.enc, .im (encP p), .im (.int top), .im (rowsW h), .md (kvsOf (stepB h top e (bfs h p top i) j)), .ml ((stepB h top e (bfs h p top i) j).map fun e => encP e.pl), .im (.int (i : Nat)), .im (.int e.pl.1), .im (.int e.pl.2), .no, .no, .no, .no]) rfl fun j d hd => ?_) ?_
    · rw [List.getElem?_map] at hd
      obtain ⟨v, ev, rfl⟩ := Option.map_eq_some_iff.mp hd
      have hj := (List.getElem?_eq_some_iff.mp ev).1
      have f1 := fin j (by omega)
      have nx := stepB_succ (h := h) (top := top) (es := bfs h p top i) ev
      generalize stepB h top e (bfs h p top i) j = es at f1 nx
      refine ⟨_, _, yg_tup rfl (ygs_cons (yg_name ltr) (ygs_cons (yg_name ltr) (ygs_cons (yg_name ltr) ygs_nil))), ?_⟩
      refine yo_if (b := v.1.deed.opn e.pl.2) (yt_B (ye_call (ya_cons (ye_var rfl) (ya_cons (ye_var rfl) ya_nil)) rfl (show g_deed_open _ _ from ⟨v.1.deed, e.pl.2, rfl, rfl⟩))) (fun hb => ?_) fun hb => ?_
      · refine yo_seq (yo_asg (ye_tup (ya_cons (ye_var rfl) (ya_cons (ye_call (ya_cons (ye_var rfl) (ya_cons (ye_var rfl) ya_nil)) rfl (show g_deed_number _ _ from ⟨v.1.deed, e.pl.2, hb, rfl, rfl⟩)) ya_nil)) (show (2 : Nat) ≤ 100000 by decide))) ?_
        refine yo_if (b := decide (v.1.deed.num e.pl.2 ≤ top) && !metE es (v.1.other, v.1.deed.num e.pl.2)) (Yt.to (yt_and (yt_test (ye_le (i := ((v.1.deed.num e.pl.2 : Nat) : Int)) (j := (top : Int)) (ye_ixT (ye_var rfl) ye_int rfl) (ye_var rfl))) fun _ => yt_B (ye_dNotIn (key := keyP (v.1.other, v.1.deed.num e.pl.2)) (ye_var rfl) (yd_var rfl))) (by rw [lk_met]; congr 1; exact decide_eq_decide.mpr (by omega))) (fun hc => ?_) fun hc => ?_
        · obtain ⟨c1, c2⟩ := Bool.and_eq_true_iff.mp hc
          have c1 := of_decide_eq_true c1
          have c2 : metE es (v.1.other, v.1.deed.num e.pl.2) = false := by
            rw [Bool.not_eq_true'] at c2
            exact c2
          refine yo_seq (yo_dput (key := keyP (v.1.other, v.1.deed.num e.pl.2)) (d := encV ⟨(v.1.other, v.1.deed.num e.pl.2), v.2 :: e.back, e.pl⟩) rfl (ye_tup (ya_cons (ye_tup (ya_cons (ye_var rfl) (ya_cons (ye_var rfl) ya_nil)) (show (2 : Nat) ≤ 100000 by decide)) (ya_cons (ye_var rfl) ya_nil)) (show (2 : Nat) ≤ 100000 by decide)) (ye_var rfl) (lk_none c2) (by unfold kvsOf; rw [List.length_map]; omega)) ?_
          refine Yo.to (yo_weak (yo_app rfl (ye_var rfl) (by rw [List.length_map]; omega)) (.same (.same (.same (.same (.same (.same (.same (.same (.same (.drop (.drop (.drop (.drop .nil)))))))))))))) ?_
          have t1 : tryW top e es v = es ++ [⟨(v.1.other, v.1.deed.num e.pl.2), v.2 :: e.back, e.pl⟩] := by
            unfold tryW
            rw [if_pos ⟨hb, c1, c2⟩]
          rw [nx, t1, kvsOf_app, List.map_append]
          rfl
        · refine Yo.to (yo_weak yo_nx (.same (.same (.same (.same (.same (.same (.same (.same (.same (.drop (.drop (.drop (.drop .nil)))))))))))))) ?_
          have t1 : tryW top e es v = es := by
            unfold tryW
            rw [if_neg fun z => by rw [decide_eq_true z.2.1, z.2.2] at hc; cases hc]
          rw [nx, t1]
      · refine Yo.to (yo_weak yo_nx (.same (.same (.same (.same (.same (.same (.same (.same (.same (.drop (.drop (.drop (.drop .nil)))))))))))))) ?_
        have t1 : tryW top e es v = es := by
          unfold tryW
          rw [if_neg fun z => by rw [z.1] at hb; cases hb]
        rw [nx, t1]
    · rw [List.length_map, ← bfs_next e1]
      refine Yo.to (yo_weak (yo_aug rfl ye_int) (.same (.same (.same (.same (.same (.same (.same (.drop (.drop (.drop (.drop (.drop (.drop .nil)))))))))))))) ?_
      rfl
  · exact Yt.to (yt_test (ye_lt (ye_var rfl) (ye_lenL (yl_var rfl)))) (decide_eq_false (by rw [List.length_map, dn.stop]; omega))

theorem ok_traced {P : Program} {w : World} {K : PySem.W.Frag} {mg : Str → Option Value} {base : Heap} {aR : Addr} {des : Array DictEntry} {dn : Nat} (T : Txt K w mg aR des dn)  : Cal P w K mg base 1 "traced" ["ahead", "goal"] g_traced := by
  obtain ⟨f, fd, F, hm⟩ := T.f_traced
  refine ⟨f, fd, ?_, hm, F.kp, F.binds fun _ _ _ _ _ _ us hl => match us, hl with | [_, _], _ => rfl⟩
  refine fn_by F sc_traced (by decide) fun cdv A outer s H E hr => ?_
  have hu := hu_of hr
  have hu64 := hr.units
  have hu65 : (A.deeper (PyProof.Rows.envOfC "traced" (defScope s_traced) s.heap.objs.size f cdv)).units + 65 < cLine := by
    have := hr.un
    omega
  refine ⟨_, (pss_cons (ps_set (i := 2) sc_traced.nd rfl (Or.inl rfl) (pe_lst pa_nil))
      (pss_cons (ps_set (i := 3) sc_traced.nd rfl (Or.inl rfl) (pe_dget hu (pv 0) (pv 1) (fun _ _ => rfl)))
      (pss_cons (ps_while PassesOwn.never (pt_cmpR op_notN (pv 3) pe_non (nomark _))
        (pss_cons (ps_expr (peApp K rfl (pv 2) (pe_ix (ixT K rfl) (pv 3) pe_int (fun _ _ => rfl))))
        (pss_one (ps_set (i := 3) sc_traced.nd rfl (Or.inl rfl) (pe_dget hu (pv 0) (pe_ix (ixT K rfl) (pv 3) pe_int (fun _ _ => rfl)) (fun _ _ => rfl))))))
      (pss_one (ps_ret (peRev K rfl (pv 2))))))), fun ds r hn hg => ?_⟩
  clear hu hu64 hu65 hr hn
  obtain ⟨h, p, top, i, es, e, I, hi, he, rfl, rfl⟩ := hg
  refine .inl ?_
  have hd := I.deep e he
  have ch := chE_ok I he
  refine yo_seq (yo_asgM (yf_lst ya_nil (show (0 : Nat) ≤ 100000 by decide))) ?_
  refine yo_seq (yo_asg (ye_dGet (key := keyP e.pl) (yd_im (kvs := kvsOf es) (ye_var rfl)) ((ye_var rfl).to (keyP_enc e.pl)) (lk_at I.nd he))) ?_
  refine yo_seq (yo_while e.back.length (fun j => [.im (.dict (toPD (kvsOf es))), .im (encP e.pl), .ml ((e.back.take j).map fun k : Nat => PyData.int k), .im (encV (chE es e j))]) rfl (fun j hj => ?_) (fun j hj => ?_) ?_) ?_
  · have z := (ch j (by omega)).2
    rw [List.drop_eq_getElem_cons (by omega)] at z
    exact Yt.to (yt_test (ye_notN (ye_var rfl))) (by rw [encV_cons z]; rfl)
  · obtain ⟨c1, z⟩ := ch j (by omega)
    rw [List.drop_eq_getElem_cons (by omega)] at z
    have ez := encV_cons z
    obtain ⟨n1, n2, n3⟩ := nxt_ok I c1 z
    rw [ez]
    refine yo_seq (yo_app rfl (ye_ixT (d := .int (e.back[j] : Nat)) (ye_var rfl) ye_int rfl) (by simp; omega)) ?_
    refine Yo.to (yo_asg (ye_dGet (key := keyP (chE es e (j + 1)).pl) (yd_im (kvs := kvsOf es) (ye_var rfl)) (ye_ixT (ye_var rfl) ye_int (by show some (encP (chE es e j).pre) = _; rw [← n2]; rfl)) (lk_at I.nd n1))) ?_
    have tk : (e.back.take (j + 1)).map (fun k : Nat => PyData.int k) = (e.back.take j).map (fun k : Nat => PyData.int k) ++ [.int (e.back[j] : Nat)] := by
      rw [List.take_add_one, List.getElem?_eq_getElem (by omega), List.map_append]
      rfl
    rw [tk]
    rfl
  · have z := (ch e.back.length (Nat.le_refl _)).2
    rw [List.drop_length] at z
    exact Yt.to (yt_test (ye_notN (ye_var rfl))) (by rw [encV_nil z]; rfl)
  · rw [List.take_length]
    refine yo_ret ((yf_rev (yl_var rfl)).ye.to ?_)
    unfold encNs
    rw [List.map_reverse]

theorem ok_shortest_below {P : Program} {w : World} {K : PySem.W.Frag} {mg : Str → Option Value} {base : Heap} {aR : Addr} {des : Array DictEntry} {dn : Nat} (T : Txt K w mg aR des dn) (C_search_from : Cal P w K mg base 2 "search_from" ["house", "place", "top"] g_search_from) (C_traced : Cal P w K mg base 1 "traced" ["ahead", "goal"] g_traced) : Cal P w K mg base 3 "shortest_below" ["house", "place", "goal", "top"] g_shortest_below := by
  obtain ⟨f, fd, F, hm⟩ := T.f_shortest_below
  refine ⟨f, fd, ?_, hm, F.kp, F.binds fun _ _ _ _ _ _ us hl => match us, hl with | [_, _, _, _], _ => rfl⟩
  refine fn_by F sc_shortest_below (by decide) fun cdv A outer s H E hr => ?_
  have hu := hu_of hr
  have hu64 := hr.units
  have hu65 : (A.deeper (PyProof.Rows.envOfC "shortest_below" (defScope s_shortest_below) s.heap.objs.size f cdv)).units + 65 < cLine := by
    have := hr.un
    omega
  refine ⟨_, (pss_cons (ps_set (i := 4) sc_shortest_below.nd rfl (Or.inl rfl) (peCal K C_search_from rfl rfl rfl rfl rfl hr (by rfl) (pa_cons (pv 0) (pa_cons (pv 1) (pa_cons (pv 3) pa_nil)))))
      (pss_cons (ps_if (pt_cmp (pc_dnotin hu (pv 2) (pv 4)))
        (pss_one (ps_ret pe_non))
        pss_nil)
      (pss_one (ps_ret (peCal K C_traced rfl rfl rfl rfl rfl (hr.mono (by decide)) (by rfl) (pa_cons (pv 4) (pa_cons (pv 2) pa_nil))))))), fun ds r hn hg => ?_⟩
  clear hu hu64 hu65 hr hn
  obtain ⟨h, p, q, top, m, gd, hp, ht, dn, rfl, rfl⟩ := hg
  refine .inl ?_
  have I := bfs_inv gd hp ht m
  refine yo_seq (yo_asg (ye_call (ya_cons (ye_var rfl) (ya_cons (ye_var rfl) (ya_cons (ye_var rfl) ya_nil))) rfl ⟨h, p, top, m, gd, hp, ht, dn, rfl, rfl⟩)) ?_
  have tst : Yt K _ [Ent.im h.enc, .im (encP p), .im (encP q), .im (.int top), .im (.dict (toPD (kvsOf (bfs h p top m))))] (!metE (bfs h p top m) q) := Yt.to (yt_B (ye_dNotIn (key := keyP q) ((ye_var (i := 2) rfl).to (keyP_enc q)) (yd_im (kvs := kvsOf (bfs h p top m)) (ye_var (i := 4) rfl)))) (by rw [lk_met])
  unfold resB
  cases c : (bfs h p top m).find? fun e => decide (e.pl = q) with
  | none =>
    have z : metE (bfs h p top m) q = false := by
      rw [Bool.eq_false_iff]
      intro z
      obtain ⟨e, e1, e2⟩ := metE_iff.mp z
      have w := List.find?_eq_none.mp c e e1
      rw [decide_eq_true e2] at w
      exact absurd rfl w
    exact yo_seqR (yo_if (b := true) (Yt.to tst (by rw [z]; rfl)) (fun _ => yo_ret ye_non) fun hb => by cases hb)
  | some e =>
    have c1 := List.mem_of_find?_eq_some c
    have c2 : e.pl = q := by
      have z := List.find?_some c
      exact of_decide_eq_true z
    have z : metE (bfs h p top m) q = true := metE_iff.mpr ⟨e, c1, c2⟩
    subst c2
    exact yo_seq (yo_if (b := false) (Yt.to tst (by rw [z]; rfl)) (fun hb => by cases hb) fun _ => yo_nx) (yo_ret (ye_call (ya_cons (ye_var rfl) (ya_cons (ye_var rfl) ya_nil)) rfl (show g_traced _ _ from ⟨h, p, top, m, _, e, I, dn.low, c1, rfl, rfl⟩)))

theorem ok_shortest {P : Program} {w : World} {K : PySem.W.Frag} {mg : Str → Option Value} {base : Heap} {aR : Addr} {des : Array DictEntry} {dn : Nat} (T : Txt K w mg aR des dn) (C_check_house : Cal P w K mg base 5 "check_house" ["house"] g_check_house) (C_check_places : Cal P w K mg base 1 "check_places" ["house", "places"] g_check_places) (C_shortest_below : Cal P w K mg base 3 "shortest_below" ["house", "place", "goal", "top"] g_shortest_below) : Cal P w K mg base 6 "shortest" ["house", "place", "goal"] g_shortest := by
  obtain ⟨f, fd, F, hm⟩ := T.f_shortest
  refine ⟨f, fd, ?_, hm, F.kp, F.binds fun _ _ _ _ _ _ us hl => match us, hl with | [_, _, _], _ => rfl⟩
  refine fn_by F sc_shortest (by decide) fun cdv A outer s H E hr => ?_
  have hu := hu_of hr
  have hu64 := hr.units
  have hu65 : (A.deeper (PyProof.Rows.envOfC "shortest" (defScope s_shortest) s.heap.objs.size f cdv)).units + 65 < cLine := by
    have := hr.un
    omega
  refine ⟨_, (pss_cons (ps_expr (peCal K C_check_house rfl rfl rfl rfl rfl hr (by rfl) (pa_cons (pv 0) pa_nil)))
      (pss_cons (ps_expr (peCal K C_check_places rfl rfl rfl rfl rfl (hr.mono (by decide)) (by rfl) (pa_cons (pv 0) (pa_cons (pe_lst (pa_cons (pv 1) (pa_cons (pv 2) pa_nil))) pa_nil))))
      (pss_one (ps_ret (peCal K C_shortest_below rfl rfl rfl rfl rfl (hr.mono (by decide)) (by rfl) (pa_cons (pv 0) (pa_cons (pv 1) (pa_cons (pv 2) (pa_cons (pe_op op_add (pe_callB (id := "max") (call_max2 rfl) (by rfl) T.b_max (by decide +kernel) (pa_cons (pe_ix (ixT K rfl) (pv 1) pe_int (fun _ _ => rfl)) (pa_cons (pe_ix (ixT K rfl) (pv 2) pe_int (fun _ _ => rfl)) pa_nil))) (pe_op op_mul (pe_ix (ixT K rfl) (pv 0) pe_int (fun _ _ => rfl)) (pe_ix (ixT K rfl) (pv 0) pe_int (fun _ _ => rfl)))) pa_nil))))))))), fun ds r hn hg => ?_⟩
  clear hu hu64 hu65 hr hn
  obtain ⟨h, p, q, m, gd, hp, hq, p5, q5, dn, rfl, rfl⟩ := hg
  have h12 := gd.few
  have hnn : h.many * h.many ≤ 12 * 12 := Nat.mul_le_mul h12 h12
  refine .inl (yo_seq (yo_drop (ye_call (ya_cons (ye_var rfl) ya_nil) rfl (show g_check_house _ _ from ⟨h, gd, rfl, rfl⟩))) (yo_seq (yo_drop (ye_call (ya_cons (ye_var rfl) (ya_cons (yf_lst (ya_cons (ye_var rfl) (ya_cons (ye_var rfl) ya_nil)) (show (2 : Nat) ≤ 100000 by decide)).ye ya_nil)) rfl (show g_check_places _ _ from ⟨h, [p, q], fun x hx => ?_, (by simp), rfl, rfl⟩))) ?_))
  · simp at hx
    rcases hx with rfl | rfl
    · exact ⟨hp, by omega⟩
    · exact ⟨hq, by omega⟩
  · refine yo_ret (ye_call (ya_cons (ye_var rfl) (ya_cons (ye_var rfl) (ya_cons (ye_var rfl) (ya_cons ((ye_add (i := max (p.2 : Int) q.2) (j := (h.many : Int) * h.many) (ye_max2 (ye_ixT (ye_var rfl) ye_int rfl) (ye_ixT (ye_var rfl) ye_int rfl)) (ye_mul (ye_ixT (ye_var rfl) ye_int rfl) (ye_ixT (ye_var rfl) ye_int rfl) (.inl ⟨by omega, by omega⟩))).to (d' := .int ((max p.2 q.2 + h.many * h.many : Nat) : Int)) (congrArg PyData.int ?_)) ya_nil)))) rfl (show g_shortest_below _ _ from ⟨h, p, q, _, m, gd, hp, by omega, dn, rfl, rfl⟩))
    rw [Int.natCast_add, Int.natCast_mul]
    omega


end Sr
set_option Elab.async false
set_option linter.all false
set_option maxRecDepth 100000
set_option maxHeartbeats 4000000
set_option autoImplicit false
namespace Sr
open PySem L2
theorem mod_lt31 {x : Int} : 0 ≤ x % 2147483647 ∧ x % 2147483647 < 2147483647 := by omega
theorem mod_lt29 {x : Int} : 0 ≤ x % 2147483629 ∧ x % 2147483629 < 2147483629 := by omega
theorem ok__law_mixed {P : Program} {w : World} {K : PySem.W.Frag} {mg : Str → Option Value} {base : Heap} {aR : Addr} {des : Array DictEntry} {dn : Nat} (T : Txt K w mg aR des dn)  : Cal P w K mg base 1 "_law_mixed" ["_law_cell_here", "_law_k", "_law_prime"] g__law_mixed := by
  obtain ⟨f, fd, F, hm⟩ := T.f__law_mixed
  refine ⟨f, fd, ?_, hm, F.kp, F.binds fun _ _ _ _ _ _ us hl => match us, hl with | [_, _, _], _ => rfl⟩
  refine fn_by F sc__law_mixed (by decide) fun cdv A outer s H E hr => ?_
  have hu := hu_of hr
  have hu64 := hr.units
  have hu65 : (A.deeper (PyProof.Rows.envOfC "_law_mixed" (defScope s__law_mixed) s.heap.objs.size f cdv)).units + 65 < cLine := by
    have := hr.un
    omega
  refine ⟨_, (pss_cons (ps_set (i := 3) sc__law_mixed.nd rfl (Or.inl rfl) (pe_op op_mod (pe_op op_mul (pe_op op_add (pe_op op_add (pe_op op_add (pv 0) (pe_op op_mul (pe_op op_mul pe_int (pv 1)) (pv 1))) (pe_op op_mul pe_int (pv 1))) pe_int) pe_int) pe_int))
      (pss_cons (ps_set (i := 3) sc__law_mixed.nd rfl (Or.inl rfl) (pe_op op_mod (pe_op op_mul (pv 3) (pv 3)) pe_int))
      (pss_one (ps_ret (pe_op op_mod (pe_op op_mul (pv 3) pe_int) (pv 2)))))), fun ds r hn hg => ?_⟩
  clear hu hu64 hu65 hr hn
  obtain ⟨cell, prime, k, h1, hk, rfl, rfl⟩ := hg
  refine .inl ?_
  refine yo_seq (yo_asg (ye_mod (ye_mul (ye_add (ye_add (ye_add (ye_var rfl) (ye_mul (ye_mul (ye_int (i := 7)) (ye_var rfl) (.inl ⟨by omega, by omega⟩)) (ye_var rfl) (.inr ⟨by omega, by omega⟩))) (ye_mul (ye_int (i := 13)) (ye_var rfl) (.inl ⟨by omega, by omega⟩))) (ye_int (i := 5))) (ye_int (i := 48271)) (.inr ⟨by omega, by omega⟩)) (ye_int (i := 2147483647)) (by omega))) ?_
  refine yo_seq (yo_asg (ye_mod (ye_mul (ye_var rfl) (ye_var rfl) (.inl ?_)) (ye_int (i := 2147483629)) (by omega))) ?_
  · have z := @mod_lt31 ((cell + 7 * (k : Int) * k + 13 * (k : Int) + 5) * 48271)
    exact ⟨by omega, by omega⟩
  · exact yo_ret (ye_mod (ye_mul (ye_var rfl) (ye_int (i := 39373)) (.inr ⟨by omega, by omega⟩)) (ye_var rfl) (by omega))
theorem pow18 : ((10 : Int) ^ (18 : Int).toNat) = bigC := rfl
section
variable {K : PySem.W.Frag} {es : List Ent}
theorem ye_big : Ye K (tOp (rI CPow fun i j => .int (i ^ j.toNat)) (tC (.int 10)) (tC (.int 18))) es (.int bigC) := ye_pow ye_int ye_int ⟨by omega, by omega, by decide⟩
end

theorem ok__law_draws {P : Program} {w : World} {K : PySem.W.Frag} {mg : Str → Option Value} {base : Heap} {aR : Addr} {des : Array DictEntry} {dn : Nat} (T : Txt K w mg aR des dn) (C__law_mixed : Cal P w K mg base 1 "_law_mixed" ["_law_cell_here", "_law_k", "_law_prime"] g__law_mixed) : Cal P w K mg base 2 "_law_draws" ["_law_cell_here", "_law_widths", "_law_prime"] g__law_draws := by
  obtain ⟨f, fd, F, hm⟩ := T.f__law_draws
  refine ⟨f, fd, ?_, hm, F.kp, F.binds fun _ _ _ _ _ _ us hl => match us, hl with | [_, _, _], _ => rfl⟩
  refine fn_by F sc__law_draws (by decide) fun cdv A outer s H E hr => ?_
  have hu := hu_of hr
  have hu64 := hr.units
  have hu65 : (A.deeper (PyProof.Rows.envOfC "_law_draws" (defScope s__law_draws) s.heap.objs.size f cdv)).units + 65 < cLine := by
    have := hr.un
    omega
  refine ⟨_, (pss_cons (ps_set (i := 3) sc__law_draws.nd rfl (Or.inl rfl) pe_int)
      (pss_cons (ps_if (pt_cmpR op_ge (pv 0) (pe_op op_pow pe_int pe_int) (nomark _))
        (pss_one (ps_set (i := 3) sc__law_draws.nd rfl (Or.inl rfl) (pe_op op_sub (pv 0) (pe_op op_pow pe_int pe_int))))
        pss_nil)
      (pss_cons (ps_set (i := 4) sc__law_draws.nd rfl (Or.inl rfl) (pe_lst pa_nil))
      (pss_cons (ps_for PassesOwn.never (by rfl) (pi_range1 (by rfl) T.b_range (pa_cons (pe_callB (id := "len") (cLen K rfl) (by rfl) T.b_len (by decide +kernel) (pa_cons (pv 1) pa_nil)) pa_nil)) (pg_name (i := 5) sc__law_draws.nd rfl (Or.inl rfl))
        (pss_one (ps_if (pt_cmpR op_gt (pv 3) pe_int (nomark _))
          (pss_cons (ps_expr (peApp K rfl (pv 4) (pe_op op_mod (pv 3) (pe_ix (ixL K rfl) (pv 1) (pv 5) (fun _ _ => rfl)))))
          (pss_one (ps_set (i := 3) sc__law_draws.nd rfl (Or.inl rfl) (pe_op op_fdiv (pv 3) (pe_ix (ixL K rfl) (pv 1) (pv 5) (fun _ _ => rfl))))))
          (pss_one (ps_expr (peApp K rfl (pv 4) (pe_op op_mod (peCal K C__law_mixed rfl rfl rfl rfl rfl hr (by rfl) (pa_cons (pv 0) (pa_cons (pv 5) (pa_cons (pv 2) pa_nil)))) (pe_ix (ixL K rfl) (pv 1) (pv 5) (fun _ _ => rfl)))))))))
      (pss_one (ps_ret (pv 4))))))), fun ds r hn hg => ?_⟩
  clear hu hu64 hu65 hr hn
  obtain ⟨cell, prime, ws, h1, h2, h3, rfl, rfl⟩ := hg
  refine .inl ?_
  refine yo_seq (yo_asg (ye_int (i := 0))) ?_
  refine yo_seq (e1 := [.im (.int cell), .im (encNs ws), .im (.int prime), .im (.int (leftN cell ws 0)), .no, .no]) (yo_if (yt_test (ye_ge (ye_var rfl) ye_big)) (fun hb => Yo.to (yo_asg (ye_sub (ye_var rfl) ye_big)) ?_) fun hb => Yo.to yo_nx ?_) ?_
  · show _ = [Ent.im (.int cell), .im (encNs ws), .im (.int prime), .im (.int (if bigC ≤ cell then cell - bigC else 0)), .no, .no]
    rw [if_pos (of_decide_eq_true hb)]
    rfl
  · show _ = [Ent.im (.int cell), .im (encNs ws), .im (.int prime), .im (.int (if bigC ≤ cell then cell - bigC else 0)), .no, .no]
    rw [if_neg (of_decide_eq_false hb)]
    rfl
  refine yo_seq (yo_asgM (yf_lst ya_nil (show (0 : Nat) ≤ 100000 by decide))) ?_
  refine yo_seq (yo_forN (v := upN) (n := ws.length) (yi_range1 (n := (ws.length : Int)) (ya_cons ((ye_lenL (Ye.yl (ye_var rfl))).to (by rw [List.length_map])) ya_nil) (by omega) (by omega)) (fun i => [.im (.int cell), .im (encNs ws), .im (.int prime), .im (.int (leftN cell ws i)), .ml ((List.range i).map fun j => .int (drw cell ws prime j : Nat)), .no]) rfl (fun _ => by simp) fun i hi => ?_) (yo_freeze (i := 4) rfl (yo_ret ((ye_var rfl).to (by unfold encNs; rw [List.map_map]; rfl))))
  have e := List.getElem?_eq_getElem hi
  have ew : ws.getD i 1 = ws[i] := by
    rw [List.getD_eq_getElem?_getD, e]
    rfl
  have hw := h3 _ (List.mem_of_getElem? e)
  have dr := drw_int (cell := cell) (ws := ws) (prime := prime) (i := i) (by rw [ew]; omega)
  have nx : ((List.range i).map fun j => PyData.int (drw cell ws prime j : Nat)) ++ [.int (dInt cell ws prime i)] = (List.range (i + 1)).map fun j => PyData.int (drw cell ws prime j : Nat) := by
    rw [List.range_succ, List.map_append, ← dr.1]
    rfl
  have wd : ∀ {es : List Ent}, es[1]? = some (.im (encNs ws)) → es[5]? = some (.im (.int (i : Int))) → Ye K (tOp (rIxL K) (tVar 1) (tVar 5)) es (.int (ws.getD i 1 : Nat)) := fun q1 q2 => ye_ixL (Ye.yl (ye_var q1)) (ye_var q2) (atI_nat (by rw [List.getElem?_map, e, ew]; rfl))
  refine yo_if (yt_test (ye_gt (ye_var rfl) (ye_int (i := 1)))) (fun hb => ?_) fun hb => ?_
  · have hb := of_decide_eq_true hb
    refine yo_seq (yo_app (d := .int (dInt cell ws prime i)) rfl (Ye.to (ye_mod (ye_var rfl) (wd rfl rfl) (by omega)) (by unfold dInt; rw [if_pos hb])) (by simp; omega)) ?_
    refine Yo.to (yo_weak (yo_asg (ye_fdiv (ye_var rfl) (wd rfl rfl) ⟨by omega, by omega⟩)) (.same (.same (.same (.same (.same (.drop .nil))))))) ?_
    rw [← nx]
    show [_, _, _, _, _, _] = [Ent.im (.int cell), .im (encNs ws), .im (.int prime), .im (.int (if 1 < leftN cell ws i then leftN cell ws i / (ws.getD i 1 : Nat) else leftN cell ws i)), _, .no]
    rw [if_pos hb]
  · have hb := of_decide_eq_false hb
    refine Yo.to (yo_weak (yo_app (d := .int (dInt cell ws prime i)) rfl (Ye.to (ye_mod (ye_call (ya_cons (ye_var rfl) (ya_cons (ye_var rfl) (ya_cons (ye_var rfl) ya_nil))) rfl (show g__law_mixed _ _ from ⟨cell, prime, i, h1, by omega, rfl, rfl⟩)) (wd rfl rfl) (by omega)) (by unfold dInt; rw [if_neg hb])) (by simp; omega)) (.same (.same (.same (.same (.same (.drop .nil))))))) ?_
    rw [← nx]
    show [_, _, _, _, _, _] = [Ent.im (.int cell), .im (encNs ws), .im (.int prime), .im (.int (if 1 < leftN cell ws i then leftN cell ws i / (ws.getD i 1 : Nat) else leftN cell ws i)), _, .no]
    rw [if_neg hb]

theorem ok__law_spare {P : Program} {w : World} {K : PySem.W.Frag} {mg : Str → Option Value} {base : Heap} {aR : Addr} {des : Array DictEntry} {dn : Nat} (T : Txt K w mg aR des dn)  : Cal P w K mg base 1 "_law_spare" ["_law_cell_here", "_law_width"] g__law_spare := by
  obtain ⟨f, fd, F, hm⟩ := T.f__law_spare
  refine ⟨f, fd, ?_, hm, F.kp, F.binds fun _ _ _ _ _ _ us hl => match us, hl with | [_, _], _ => rfl⟩
  refine fn_by F sc__law_spare (by decide) fun cdv A outer s H E hr => ?_
  have hu := hu_of hr
  have hu64 := hr.units
  have hu65 : (A.deeper (PyProof.Rows.envOfC "_law_spare" (defScope s__law_spare) s.heap.objs.size f cdv)).units + 65 < cLine := by
    have := hr.un
    omega
  refine ⟨_, (pss_cons (ps_if (pt_cmpR op_ge (pv 0) (pe_op op_pow pe_int pe_int) (nomark _))
        (pss_one (ps_ret (pe_op op_add (pe_op op_fdiv (pe_op op_sub (pv 0) (pe_op op_pow pe_int pe_int)) (pv 1)) (pe_op op_pow pe_int pe_int))))
        pss_nil)
      (pss_one (ps_ret (pe_op op_add (pv 0) pe_int)))), fun ds r hn hg => ?_⟩
  clear hu hu64 hu65 hr hn
  obtain ⟨cell, width, h1, h2, rfl, rfl⟩ := hg
  refine .inl ?_
  unfold sprN
  by_cases c : bigC ≤ cell
  · rw [if_pos c]
    exact yo_seqR (yo_if (b := true) (Yt.to (yt_test (ye_ge (ye_var rfl) ye_big)) (decide_eq_true c)) (fun _ => yo_ret (ye_add (ye_fdiv (ye_sub (ye_var rfl) ye_big) (ye_var rfl) ⟨by omega, by omega⟩) ye_big)) fun hb => by cases hb)
  · rw [if_neg c]
    exact yo_seq (yo_if (b := false) (Yt.to (yt_test (ye_ge (ye_var rfl) ye_big)) (decide_eq_false c)) (fun hb => by cases hb) fun _ => yo_nx) (yo_ret (ye_add (ye_var rfl) ye_int))
theorem getD_ints {ns : List Int} {k : Nat} (h : k < ns.length) : atI (ns.map PyData.int) (k : Int) = some (.int (ns.getD k 0)) := atI_nat (by
  rw [List.getElem?_map, List.getElem?_eq_getElem h, List.getD_eq_getElem?_getD, List.getElem?_eq_getElem h]
  rfl)

theorem ok__law_cell {P : Program} {w : World} {K : PySem.W.Frag} {mg : Str → Option Value} {base : Heap} {aR : Addr} {des : Array DictEntry} {dn : Nat} (T : Txt K w mg aR des dn)  : Cal P w K mg base 1 "_law_cell" ["_law_script", "_law_k"] g__law_cell := by
  obtain ⟨f, fd, F, hm⟩ := T.f__law_cell
  refine ⟨f, fd, ?_, hm, F.kp, F.binds fun _ _ _ _ _ _ us hl => match us, hl with | [_, _], _ => rfl⟩
  refine fn_by F sc__law_cell (by decide) fun cdv A outer s H E hr => ?_
  have hu := hu_of hr
  have hu64 := hr.units
  have hu65 : (A.deeper (PyProof.Rows.envOfC "_law_cell" (defScope s__law_cell) s.heap.objs.size f cdv)).units + 65 < cLine := by
    have := hr.un
    omega
  refine ⟨_, (pss_cons (ps_if (pt_cmpR op_eq (pe_callB (id := "len") (cLen K rfl) (by rfl) T.b_len (by decide +kernel) (pa_cons (pv 0) pa_nil)) pe_int (nomark _))
        (pss_one (ps_ret (pe_op op_mul pe_int (pe_op op_add (pv 1) pe_int))))
        pss_nil)
      (pss_cons (ps_if (pt_cmpR op_lt (pv 1) (pe_callB (id := "len") (cLen K rfl) (by rfl) T.b_len (by decide +kernel) (pa_cons (pv 0) pa_nil)) (nomark _))
        (pss_one (ps_ret (pe_ix (ixL K rfl) (pv 0) (pv 1) (fun _ _ => rfl))))
        pss_nil)
      (pss_one (ps_ret (pe_op op_add (pe_ix (ixL K rfl) (pv 0) (pe_op op_mod (pv 1) (pe_callB (id := "len") (cLen K rfl) (by rfl) T.b_len (by decide +kernel) (pa_cons (pv 0) pa_nil))) (fun _ _ => rfl)) (pe_op op_mul pe_int (pv 1))))))), fun ds r hn hg => ?_⟩
  clear hu hu64 hu65 hr hn
  obtain ⟨ns, k, hk, rfl, rfl⟩ := hg
  refine .inl ?_
  unfold celN
  have t1 : Yt K _ (ents ["_law_script", "_law_k"] [.list (ns.map .int), .int k]) (decide (ns.length = 0)) := Yt.to (yt_test (ye_eqI (i := (ns.length : Int)) (j := 0) ((ye_lenL (Ye.yl (ye_var (i := 0) rfl))).to (by rw [List.length_map])) ye_int)) (decide_eq_decide.mpr (by omega))
  by_cases c : ns.length = 0
  · rw [if_pos c]
    exact yo_seqR (yo_if (b := true) (Yt.to t1 (decide_eq_true c)) (fun _ => yo_ret (ye_mul ye_int (ye_add (ye_var rfl) ye_int) (.inl ⟨by omega, by omega⟩))) fun hb => by cases hb)
  · rw [if_neg c]
    refine yo_seq (yo_if (b := false) (Yt.to t1 (decide_eq_false c)) (fun hb => by cases hb) fun _ => yo_nx) ?_
    have t2 : Yt K _ (ents ["_law_script", "_law_k"] [.list (ns.map .int), .int k]) (decide (k < ns.length)) := Yt.to (yt_test (ye_lt (i := (k : Int)) (j := (ns.length : Int)) (ye_var (i := 1) rfl) ((ye_lenL (Ye.yl (ye_var (i := 0) rfl))).to (by rw [List.length_map])))) (decide_eq_decide.mpr (by omega))
    by_cases d : k < ns.length
    · rw [if_pos d]
      exact yo_seqR (yo_if (b := true) (Yt.to t2 (decide_eq_true d)) (fun _ => yo_ret (ye_ixL (Ye.yl (ye_var rfl)) (ye_var rfl) (getD_ints d))) fun hb => by cases hb)
    · rw [if_neg d]
      refine yo_seq (yo_if (b := false) (Yt.to t2 (decide_eq_false d)) (fun hb => by cases hb) fun _ => yo_nx) ?_
      exact yo_ret (ye_add (ye_ixL (Ye.yl (ye_var rfl)) ((ye_mod (i := (k : Int)) (j := (ns.length : Int)) (ye_var rfl) ((ye_lenL (Ye.yl (ye_var rfl))).to (by rw [List.length_map])) (by omega)).to (d' := .int ((k % ns.length : Nat) : Int)) rfl) (getD_ints (Nat.mod_lt _ (by omega)))) (ye_mul ye_int (ye_var rfl) (.inl ⟨by omega, by omega⟩)))

theorem ok__law_place {P : Program} {w : World} {K : PySem.W.Frag} {mg : Str → Option Value} {base : Heap} {aR : Addr} {des : Array DictEntry} {dn : Nat} (T : Txt K w mg aR des dn) (C__law_draws : Cal P w K mg base 2 "_law_draws" ["_law_cell_here", "_law_widths", "_law_prime"] g__law_draws) : Cal P w K mg base 3 "_law_place" ["_law_house_here", "_law_cell_here", "_law_prime"] g__law_place := by
  obtain ⟨f, fd, F, hm⟩ := T.f__law_place
  refine ⟨f, fd, ?_, hm, F.kp, F.binds fun _ _ _ _ _ _ us hl => match us, hl with | [_, _, _], _ => rfl⟩
  refine fn_by F sc__law_place (by decide) fun cdv A outer s H E hr => ?_
  have hu := hu_of hr
  have hu64 := hr.units
  have hu65 : (A.deeper (PyProof.Rows.envOfC "_law_place" (defScope s__law_place) s.heap.objs.size f cdv)).units + 65 < cLine := by
    have := hr.un
    omega
  refine ⟨_, (pss_cons (ps_set (i := 3) sc__law_place.nd rfl (Or.inl rfl) (peCal K C__law_draws rfl rfl rfl rfl rfl hr (by rfl) (pa_cons (pv 1) (pa_cons (pe_lst (pa_cons pe_int (pa_cons pe_int pa_nil))) (pa_cons (pv 2) pa_nil)))))
      (pss_one (ps_ret (pe_tup (pa_cons (pe_op op_mod (pe_ix (ixL K rfl) (pv 3) pe_int (fun _ _ => rfl)) (pe_ix (ixT K rfl) (pv 0) pe_int (fun _ _ => rfl))) (pa_cons (pe_ix (ixL K rfl) (pv 3) pe_int (fun _ _ => rfl)) pa_nil)))))), fun ds r hn hg => ?_⟩
  clear hu hu64 hu65 hr hn
  obtain ⟨h, cell, prime, gd, h1, rfl, rfl⟩ := hg
  refine .inl ?_
  have hp := gd.pos
  refine yo_seq (yo_asg (ye_call (ya_cons (ye_var rfl) (ya_cons (yf_lst (ya_cons ye_int (ya_cons ye_int ya_nil)) (show (2 : Nat) ≤ 100000 by decide)).ye (ya_cons (ye_var rfl) ya_nil))) rfl (show g__law_draws _ _ from ⟨cell, prime, [12, 13], h1, by decide, by decide, rfl, rfl⟩))) ?_
  exact yo_ret (ye_tup (ya_cons (ye_mod (i := ((drw cell [12, 13] prime 0 : Nat) : Int)) (j := (h.many : Int)) (ye_ixL (Ye.yl (ye_var rfl)) (ye_int (i := 0)) rfl) (ye_ixT (d := .int h.many) (ye_var rfl) (ye_int (i := 0)) rfl) (by omega)) (ya_cons (ye_ixL (d := .int (drw cell [12, 13] prime 1 : Nat)) (Ye.yl (ye_var rfl)) (ye_int (i := 1)) rfl) ya_nil)) (show (2 : Nat) ≤ 100000 by decide))

theorem ok__law_whole {P : Program} {w : World} {K : PySem.W.Frag} {mg : Str → Option Value} {base : Heap} {aR : Addr} {des : Array DictEntry} {dn : Nat} (T : Txt K w mg aR des dn)  : Cal P w K mg base 1 "_law_whole" ["_law_found"] g__law_whole := by
  obtain ⟨f, fd, F, hm⟩ := T.f__law_whole
  refine ⟨f, fd, ?_, hm, F.kp, F.binds fun _ _ _ _ _ _ us hl => match us, hl with | [_], _ => rfl⟩
  refine fn_by F sc__law_whole (by decide) fun cdv A outer s H E hr => ?_
  have hu := hu_of hr
  have hu64 := hr.units
  have hu65 : (A.deeper (PyProof.Rows.envOfC "_law_whole" (defScope s__law_whole) s.heap.objs.size f cdv)).units + 65 < cLine := by
    have := hr.un
    omega
  refine ⟨_, (pss_one (ps_ret (pe_and (pe_callB (id := "isinstance") (cIsi K rfl) (by rfl) T.b_isinstance (by decide +kernel) (pa_cons (pv 0) (pa_cons (pe_bltn (v := .ty "int") (by rfl) T.b_int (by decide +kernel) rfl) pa_nil))) (pe_one (pe_not (pe_callB (id := "isinstance") (cIsi K rfl) (by rfl) T.b_isinstance (by decide +kernel) (pa_cons (pv 0) (pa_cons (pe_bltn (v := .ty "bool") (by rfl) T.b_bool (by decide +kernel) rfl) pa_nil)))))))), fun ds r hn hg => ?_⟩
  clear hu hu64 hu65 hr hn
  obtain ⟨i, rfl, rfl⟩ := hg
  exact .inl (yo_ret (ye_and (ye_isI (ye_var rfl)) fun _ => ye_not (ye_isB (ye_var rfl))))


end Sr
set_option Elab.async false
set_option linter.all false
set_option maxRecDepth 100000
set_option maxHeartbeats 4000000
set_option autoImplicit false
namespace Sr
open PySem L2
theorem inV_nats {x : Nat} {ns : List Nat} : inV (vD (.int x)) ((ns.map fun n : Nat => PyData.int n).map vD) = decide (x ∈ ns) := by
  unfold inV
  rw [List.map_map, Bool.eq_iff_iff, List.any_eq_true, decide_eq_true_eq]
  constructor
  · rintro ⟨v, hv, e⟩
    obtain ⟨k, hk, rfl⟩ := List.mem_map.mp hv
    have z : (k : Int) = (x : Int) := beq_iff_eq.mp (show ((k : Int) == (x : Int)) = true from e)
    have z2 : k = x := by omega
    rw [← z2]
    exact hk
  · intro h
    exact ⟨.int x, List.mem_map.mpr ⟨x, h, rfl⟩, (show ((x : Int) == (x : Int)) = true from beq_iff_eq.mpr rfl)⟩
theorem flat_nats {ns : List Nat} : (ns.map fun n : Nat => PyData.int n).all flatD = true := by
  rw [List.all_eq_true]
  intro d hd
  obtain ⟨k, _, rfl⟩ := List.mem_map.mp hd
  rfl
theorem ok__law_holds {P : Program} {w : World} {K : PySem.W.Frag} {mg : Str → Option Value} {base : Heap} {aR : Addr} {des : Array DictEntry} {dn : Nat} (T : Txt K w mg aR des dn)  : Cal P w K mg base 1 "_law_holds" ["_law_stair", "_law_x"] g__law_holds := by
  obtain ⟨f, fd, F, hm⟩ := T.f__law_holds
  refine ⟨f, fd, ?_, hm, F.kp, F.binds fun _ _ _ _ _ _ us hl => match us, hl with | [_, _], _ => rfl⟩
  refine fn_by F sc__law_holds (by decide) fun cdv A outer s H E hr => ?_
  have hu := hu_of hr
  have hu64 := hr.units
  have hu65 : (A.deeper (PyProof.Rows.envOfC "_law_holds" (defScope s__law_holds) s.heap.objs.size f cdv)).units + 65 < cLine := by
    have := hr.un
    omega
  refine ⟨_, (pss_cons (ps_asg (pv 0) (pgT (n := 4) K rfl rfl (pgs_cons (pg_name (i := 2) sc__law_holds.nd rfl (Or.inl rfl)) (pgs_cons (pg_name (i := 3) sc__law_holds.nd rfl (Or.inl rfl)) (pgs_cons (pg_name (i := 4) sc__law_holds.nd rfl (Or.inl rfl)) (pgs_cons (pg_name (i := 5) sc__law_holds.nd rfl (Or.inl rfl)) pgs_nil))))))
      (pss_cons (ps_if (pt_cmpR op_lt (pv 1) (pv 2) (nomark _))
        (pss_one (ps_ret (pe_cmpR (opIn K rfl) (pv 1) (pv 4) (by rfl))))
        pss_nil)
      (pss_one (ps_ret (pe_cmpR (opIn K rfl) (pe_op op_add (pv 2) (pe_op op_mod (pe_op op_sub (pv 1) (pv 2)) (pv 3))) (pv 5) (by rfl)))))), fun ds r hn hg => ?_⟩
  clear hu hu64 hu65 hr hn
  obtain ⟨b, s, x, P, h1, h2, rfl, rfl⟩ := hg
  refine .inl ?_
  refine yo_seq (yo_asgG (ye_var rfl) (yg_tup rfl (ygs_cons (yg_name ltr) (ygs_cons (yg_name ltr) (ygs_cons (yg_name ltr) (ygs_cons (yg_name ltr) ygs_nil)))))) ?_
  by_cases c : x < b
  · refine yo_seqR (yo_if (b := true) (Yt.to (yt_test (ye_lt (ye_var rfl) (ye_var rfl))) (decide_eq_true (by omega))) (fun _ => yo_ret (Ye.to (ye_inT (neg := false) (ye_var rfl) (ye_var rfl) rfl flat_nats) (congrArg PyData.bool ?_))) fun hb => by cases hb)
    refine (inV_nats (x := x)).trans ?_
    rw [Bool.eq_iff_iff, decide_eq_true_eq, mem_upTo]
    exact ⟨fun z => z.2.2, fun z => ⟨by omega, by omega, z⟩⟩
  · refine yo_seq (yo_if (b := false) (Yt.to (yt_test (ye_lt (ye_var rfl) (ye_var rfl))) (decide_eq_false (by omega))) (fun hb => by cases hb) fun _ => yo_nx) (yo_ret (Ye.to (ye_inT (neg := false) (d := .int ((b + (x - b) % s : Nat) : Int)) (Ye.to (ye_add (i := (b : Int)) (j := ((x - b : Nat) : Int) % (s : Int)) (ye_var rfl) (ye_mod ((ye_sub (i := (x : Int)) (j := (b : Int)) (ye_var rfl) (ye_var rfl)).to (congrArg PyData.int (by omega))) (ye_var rfl) (by omega))) (congrArg PyData.int (by rw [Int.natCast_add, Int.natCast_emod]))) (ye_var rfl) rfl flat_nats) (congrArg PyData.bool ?_)))
    refine (inV_nats (x := b + (x - b) % s)).trans ?_
    have hm : (x - b) % s < s := Nat.mod_lt _ (by omega)
    rw [Bool.eq_iff_iff, decide_eq_true_eq, mem_upTo, h2.fold (by omega : b ≤ x)]
    exact ⟨fun z => z.2.2, fun z => ⟨by omega, by omega, z⟩⟩
theorem all_true {α : Type} {ns : List α} : (ns.map fun _ => true).all id = true := by simp

theorem ok__law_walk {P : Program} {w : World} {K : PySem.W.Frag} {mg : Str → Option Value} {base : Heap} {aR : Addr} {des : Array DictEntry} {dn : Nat} (T : Txt K w mg aR des dn) (C__law_whole : Cal P w K mg base 1 "_law_whole" ["_law_found"] g__law_whole) : Cal P w K mg base 2 "_law_walk" ["_law_found", "_law_most"] g__law_walk := by
  obtain ⟨f, fd, F, hm⟩ := T.f__law_walk
  refine ⟨f, fd, ?_, hm, F.kp, F.binds fun _ _ _ _ _ _ us hl => match us, hl with | [_, _], _ => rfl⟩
  refine fn_by F sc__law_walk (by decide) fun cdv A outer s H E hr => ?_
  have hu := hu_of hr
  have hu64 := hr.units
  have hu65 : (A.deeper (PyProof.Rows.envOfC "_law_walk" (defScope s__law_walk) s.heap.objs.size f cdv)).units + 65 < cLine := by
    have := hr.un
    omega
  refine ⟨_, (pss_cons (ps_if (PW.pt (pw_or (pt_not (pt_val (pe_callB (id := "isinstance") (cIsi K rfl) (by rfl) T.b_isinstance (by decide +kernel) (pa_cons (pv 0) (pa_cons (pe_bltn (v := .ty "list") (by rfl) T.b_list (by decide +kernel) rfl) pa_nil))))) (pw_or1 (pt_cmpR op_gt (pe_callB (id := "len") (cLen K rfl) (by rfl) T.b_len (by decide +kernel) (pa_cons (pv 0) pa_nil)) (pv 1) (nomark _)))))
        (pss_one (ps_ret pe_bl))
        pss_nil)
      (pss_one (ps_ret (pe_callB (id := "all") (cAll K rfl rfl) (by rfl) T.b_all (by decide +kernel) (pa_cons (pe_lc (own := [("_law_part", 2)]) (by rfl) sc__law_walk.nd (piL K rfl (pv 0)) (blkOk_by (N := ["_law_found", "_law_most", "_law_part"]) (sc := defScope s__law_walk) (by decide +kernel))
      (fun _ _ _ _ _ => (pg_name (i := 2) sc__law_walk.nd rfl (Or.inl rfl))) (fun _ _ _ _ _ => pts_nil) (fun _ _ _ _ _ => (peCal K C__law_whole rfl rfl rfl rfl rfl hr (by rfl) (pa_cons (pv 2) pa_nil)))) pa_nil))))), fun ds r hn hg => ?_⟩
  clear hu hu64 hu65 hr hn
  obtain ⟨ns, h1, rfl, rfl⟩ := hg
  refine .inl (yo_seq (yo_if (b := false) (Yt.to (yt_or (yt_not (yt_B (ye_isL (ye_var rfl)))) fun _ => yt_test (ye_gt (ye_lenL (Ye.yl (ye_var rfl))) (ye_var rfl))) ?_) (fun hb => by cases hb) fun _ => yo_nx) ?_)
  · rw [List.length_map]
    simp
    omega
  · exact yo_ret (Ye.to (ye_all (bs := ns.map fun _ => true) (Yf.yl (Yf.to (yf_lcA (as := ns) (enc := fun n : Nat => .int n) (fun _ => true) (fun _ => .bool true) (yi_list (ye_var rfl)) (by omega) fun i a h => ⟨_, _, (by simp), yg_name ltr, yt_yes, fun _ => ye_call (ya_cons (ye_var rfl) ya_nil) rfl (show g__law_whole _ _ from ⟨_, rfl, rfl⟩)⟩) (by rw [List.filter_eq_self.mpr (fun _ _ => rfl), List.map_map]; rfl)))) (congrArg PyData.bool all_true))

theorem ok__law_rises {P : Program} {w : World} {K : PySem.W.Frag} {mg : Str → Option Value} {base : Heap} {aR : Addr} {des : Array DictEntry} {dn : Nat} (T : Txt K w mg aR des dn) (C__law_whole : Cal P w K mg base 1 "_law_whole" ["_law_found"] g__law_whole) : Cal P w K mg base 2 "_law_rises" ["_law_row", "_law_low", "_law_high"] g__law_rises := by
  obtain ⟨f, fd, F, hm⟩ := T.f__law_rises
  refine ⟨f, fd, ?_, hm, F.kp, F.binds fun _ _ _ _ _ _ us hl => match us, hl with | [_, _, _], _ => rfl⟩
  refine fn_by F sc__law_rises (by decide) fun cdv A outer s H E hr => ?_
  have hu := hu_of hr
  have hu64 := hr.units
  have hu65 : (A.deeper (PyProof.Rows.envOfC "_law_rises" (defScope s__law_rises) s.heap.objs.size f cdv)).units + 65 < cLine := by
    have := hr.un
    omega
  refine ⟨_, (pss_cons (ps_if (PW.pt (pw_or (pt_not (pt_val (pe_callB (id := "isinstance") (cIsi K rfl) (by rfl) T.b_isinstance (by decide +kernel) (pa_cons (pv 0) (pa_cons (pe_bltn (v := .ty "tuple") (by rfl) T.b_tuple (by decide +kernel) rfl) pa_nil))))) (pw_or1 (pt_not (pt_val (pe_callB (id := "all") (cAll K rfl rfl) (by rfl) T.b_all (by decide +kernel) (pa_cons (pe_lc (own := [("_law_part", 3)]) (by rfl) sc__law_rises.nd (piT K rfl (pv 0)) (blkOk_by (N := ["_law_row", "_law_low", "_law_high", "_law_part", "_law_one", "_law_two"]) (sc := defScope s__law_rises) (by decide +kernel))
      (fun _ _ _ _ _ => (pg_name (i := 3) sc__law_rises.nd rfl (Or.inl rfl))) (fun _ _ _ _ _ => pts_nil) (fun _ _ _ _ _ => (peCal K C__law_whole rfl rfl rfl rfl rfl hr (by rfl) (pa_cons (pv 3) pa_nil)))) pa_nil)))))))
        (pss_one (ps_ret pe_bl))
        pss_nil)
      (pss_one (ps_ret (pe_and (pe_callB (id := "all") (cAll K rfl rfl) (by rfl) T.b_all (by decide +kernel) (pa_cons (pe_lc (own := [("_law_part", 3)]) (by rfl) sc__law_rises.nd (piT K rfl (pv 0)) (blkOk_by (N := ["_law_row", "_law_low", "_law_high", "_law_part", "_law_one", "_law_two"]) (sc := defScope s__law_rises) (by decide +kernel))
      (fun _ _ _ _ _ => (pg_name (i := 3) sc__law_rises.nd rfl (Or.inl rfl))) (fun _ _ _ _ _ => pts_nil) (fun _ _ _ _ _ => (pe_chain op_le op_lt (pv 1) (pv 3) (pv 2)))) pa_nil)) (pe_one (pe_callB (id := "all") (cAll K rfl rfl) (by rfl) T.b_all (by decide +kernel) (pa_cons (pe_lc (own := [("_law_one", 4), ("_law_two", 5)]) (by rfl) sc__law_rises.nd (RZ.pi_zipA (by rfl) T.b_zip (pa_cons (pv 0) (pa_cons (pe_slice (slA K rfl) (pv 0) (po_some pe_int) po_none) pa_nil))) (blkOk_by (N := ["_law_row", "_law_low", "_law_high", "_law_part", "_law_one", "_law_two"]) (sc := defScope s__law_rises) (by decide +kernel))
      (fun _ _ _ _ _ => (pgT (n := 2) K rfl rfl (pgs_cons (pg_name (i := 4) sc__law_rises.nd rfl (Or.inl rfl)) (pgs_cons (pg_name (i := 5) sc__law_rises.nd rfl (Or.inl rfl)) pgs_nil)))) (fun _ _ _ _ _ => pts_nil) (fun _ _ _ _ _ => (pe_cmpR op_lt (pv 4) (pv 5) (nomark _)))) pa_nil))))))), fun ds r hn hg => ?_⟩
  clear hu hu64 hu65 hr hn
  obtain ⟨ns, lo, hi, h1, h2, h3, rfl, rfl⟩ := hg
  refine .inl (yo_seq (yo_if (b := false) (Yt.to (yt_or (yt_not (yt_B (ye_isT (ye_var rfl)))) fun _ => yt_not (yt_B (Ye.to (ye_all (bs := ns.map fun _ => true) (Yf.yl (Yf.to (yf_lcA (as := ns) (enc := fun n : Nat => .int n) (fun _ => true) (fun _ => .bool true) (yi_tup (ye_var rfl)) (by omega) fun i a h => ⟨_, _, (by simp), yg_name ltr, yt_yes, fun _ => ye_call (ya_cons (ye_var rfl) ya_nil) rfl (show g__law_whole _ _ from ⟨_, rfl, rfl⟩)⟩) (by rw [List.filter_eq_self.mpr (fun _ _ => rfl), List.map_map]; rfl)))) (congrArg PyData.bool all_true)))) rfl) (fun hb => by cases hb) fun _ => yo_nx) ?_)
  refine yo_ret (ye_and (a := true) (b := true) (Ye.to (ye_all (bs := ns.map fun _ => true) (Yf.yl (Yf.to (yf_lcA (as := ns) (enc := fun n : Nat => .int n) (fun _ => true) (fun _ => .bool true) (yi_tup (ye_var rfl)) (by omega) fun i a h => ⟨_, _, (by simp), yg_name ltr, yt_yes, fun _ => Ye.to (ye_chain (a := decide ((lo : Int) ≤ (a : Int))) (b := decide ((a : Int) < (hi : Int))) (ye_var rfl) (ye_var rfl) (ye_var rfl) (fun v w H F Q q1 q2 q => ?_) (fun _ v w H F Q q1 q2 q => ?_)) ?_⟩) (by rw [List.filter_eq_self.mpr (fun _ _ => rfl), List.map_map]; rfl)))) (congrArg PyData.bool all_true)) fun _ => Ye.to (ye_all (bs := (ns.zip (ns.drop 1)).map fun _ => true) (Yf.yl (Yf.to (yf_lcA (as := ns.zip (ns.drop 1)) (enc := fun p : Nat × Nat => .tuple [.int p.1, .int p.2]) (fun _ => true) (fun _ => .bool true) ?_ ?_ fun i a h => ⟨_, _, (by simp), yg_tup rfl (ygs_cons (yg_name ltr) (ygs_cons (yg_name ltr) ygs_nil)), yt_yes, fun _ => Ye.to (ye_lt (ye_var rfl) (ye_var rfl)) ?_⟩) (by rw [List.filter_eq_self.mpr (fun _ _ => rfl), List.map_map]; rfl)))) (congrArg PyData.bool all_true))
  · cases (show v = .int lo from q1)
    cases (show w = .int a from q2)
    exact ⟨_, _, rfl, rfl, q⟩
  · cases (show v = .int a from q1)
    cases (show w = .int hi from q2)
    exact ⟨_, _, rfl, rfl, q⟩
  · have z := h2 a (List.mem_of_getElem? h)
    rw [decide_eq_true (by omega : (lo : Int) ≤ (a : Int)), decide_eq_true (by omega : (a : Int) < (hi : Int))]
    rfl
  · have e : zipD (ns.map fun n : Nat => PyData.int n) (cutD (ns.map fun n : Nat => PyData.int n) (some 1) none) = (ns.zip (ns.drop 1)).map fun p : Nat × Nat => PyData.tuple [.int p.1, .int p.2] := by
      have c : cutD (ns.map fun n : Nat => PyData.int n) (some 1) none = (ns.drop 1).map fun n : Nat => PyData.int n := by
        have s : ∀ n : Nat, HT.sIx n 0 (some 1) = min 1 n := fun n => HT.sIx_nat n 0 1
        unfold cutD
        rw [HT.sIx_none, s]
        rw [List.take_of_length_le (by rw [List.length_drop]; exact Nat.le_refl _), ← List.map_drop]
        rcases ns with _ | ⟨a, r⟩
        · rfl
        · rw [List.length_map, List.length_cons, Nat.min_eq_left (by omega)]
      unfold zipD
      rw [c, List.zip_map, List.map_map]
      rfl
    rw [← e]
    exact yi_zipT (ye_var rfl) (ye_cutT (ye_var rfl) (yp_some (ye_int (i := 1))) yp_none)
  · rw [List.length_zip]
    omega
  · refine congrArg PyData.bool (decide_eq_true ?_)
    obtain ⟨hl, hv⟩ := List.getElem?_eq_some_iff.mp h
    rw [List.length_zip, List.length_drop] at hl
    rw [List.getElem_zip] at hv
    have z := List.pairwise_iff_getElem.mp h1 i (1 + i) (by omega) (by omega) (by omega)
    rw [List.getElem_drop] at hv
    have z1 : a.1 = ns[i] := by rw [← hv]
    have z2 : a.2 = ns[1 + i] := by rw [← hv]
    omega

theorem ok__law_is_stair {P : Program} {w : World} {K : PySem.W.Frag} {mg : Str → Option Value} {base : Heap} {aR : Addr} {des : Array DictEntry} {dn : Nat} (T : Txt K w mg aR des dn) (C__law_rises : Cal P w K mg base 2 "_law_rises" ["_law_row", "_law_low", "_law_high"] g__law_rises) (C__law_whole : Cal P w K mg base 1 "_law_whole" ["_law_found"] g__law_whole) : Cal P w K mg base 3 "_law_is_stair" ["_law_found"] g__law_is_stair := by
  obtain ⟨f, fd, F, hm⟩ := T.f__law_is_stair
  refine ⟨f, fd, ?_, hm, F.kp, F.binds fun _ _ _ _ _ _ us hl => match us, hl with | [_], _ => rfl⟩
  refine fn_by F sc__law_is_stair (by decide) fun cdv A outer s H E hr => ?_
  have hu := hu_of hr
  have hu64 := hr.units
  have hu65 : (A.deeper (PyProof.Rows.envOfC "_law_is_stair" (defScope s__law_is_stair) s.heap.objs.size f cdv)).units + 65 < cLine := by
    have := hr.un
    omega
  refine ⟨_, (pss_cons (ps_if (PW.pt (pw_or (pt_not (pt_val (pe_callB (id := "isinstance") (cIsi K rfl) (by rfl) T.b_isinstance (by decide +kernel) (pa_cons (pv 0) (pa_cons (pe_bltn (v := .ty "tuple") (by rfl) T.b_tuple (by decide +kernel) rfl) pa_nil))))) (pw_or1 (pt_cmpR op_ne (pe_callB (id := "len") (cLen K rfl) (by rfl) T.b_len (by decide +kernel) (pa_cons (pv 0) pa_nil)) pe_int (nomark _)))))
        (pss_one (ps_ret pe_bl))
        pss_nil)
      (pss_cons (ps_if (PW.pt (pw_or (pt_not (pt_val (peCal K C__law_whole rfl rfl rfl rfl rfl (hr.mono (by decide)) (by rfl) (pa_cons (pe_ix (ixT K rfl) (pv 0) pe_int (fun _ _ => rfl)) pa_nil)))) (pw_or1 (pt_not (pt_val (peCal K C__law_whole rfl rfl rfl rfl rfl (hr.mono (by decide)) (by rfl) (pa_cons (pe_ix (ixT K rfl) (pv 0) pe_int (fun _ _ => rfl)) pa_nil)))))))
        (pss_one (ps_ret pe_bl))
        pss_nil)
      (pss_cons (ps_if (PW.pt (pw_or (pt_cmpR op_lt (pe_ix (ixT K rfl) (pv 0) pe_int (fun _ _ => rfl)) pe_int (nomark _)) (pw_or (pt_cmpR op_lt (pe_ix (ixT K rfl) (pv 0) pe_int (fun _ _ => rfl)) pe_int (nomark _)) (pw_or1 (pt_not (pt_val (peCal K C__law_rises rfl rfl rfl rfl rfl hr (by rfl) (pa_cons (pe_ix (ixT K rfl) (pv 0) pe_int (fun _ _ => rfl)) (pa_cons pe_int (pa_cons (pe_ix (ixT K rfl) (pv 0) pe_int (fun _ _ => rfl)) pa_nil))))))))))
        (pss_one (ps_ret pe_bl))
        pss_nil)
      (pss_one (ps_ret (peCal K C__law_rises rfl rfl rfl rfl rfl hr (by rfl) (pa_cons (pe_ix (ixT K rfl) (pv 0) pe_int (fun _ _ => rfl)) (pa_cons (pe_ix (ixT K rfl) (pv 0) pe_int (fun _ _ => rfl)) (pa_cons (pe_op op_add (pe_ix (ixT K rfl) (pv 0) pe_int (fun _ _ => rfl)) (pe_ix (ixT K rfl) (pv 0) pe_int (fun _ _ => rfl))) pa_nil))))))))), fun ds r hn hg => ?_⟩
  clear hu hu64 hu65 hr hn
  obtain ⟨b, s, P, h1, h2, h3, rfl, rfl⟩ := hg
  refine .inl (yo_seq (yo_if (b := false) (yt_or (yt_not (yt_B (ye_isT (ye_var rfl)))) fun _ => yt_test ((ye_neI (ye_lenT (ye_var rfl)) ye_int).to (d' := .bool false) rfl)) (fun hb => by cases hb) fun _ => yo_nx) ?_)
  refine yo_seq (yo_if (b := false) (Yt.to (yt_or (yt_not (yt_B (ye_call (ya_cons (ye_ixT (d := .int b) (ye_var rfl) (ye_int (i := 0)) rfl) ya_nil) rfl (show g__law_whole _ _ from ⟨_, rfl, rfl⟩)))) fun _ => yt_not (yt_B (ye_call (ya_cons (ye_ixT (d := .int s) (ye_var rfl) (ye_int (i := 1)) rfl) ya_nil) rfl (show g__law_whole _ _ from ⟨_, rfl, rfl⟩)))) rfl) (fun hb => by cases hb) fun _ => yo_nx) ?_
  refine yo_seq (yo_if (b := false) (Yt.to (yt_or (yt_test (ye_lt (ye_ixT (d := .int b) (ye_var rfl) (ye_int (i := 0)) rfl) (ye_int (i := 0)))) fun _ => yt_or (yt_test (ye_lt (ye_ixT (d := .int s) (ye_var rfl) (ye_int (i := 1)) rfl) (ye_int (i := 1)))) fun _ => yt_not (yt_B (ye_call (ya_cons (ye_ixT (d := encN (upTo 0 b P)) (ye_var rfl) (ye_int (i := 2)) rfl) (ya_cons (ye_int (i := 0)) (ya_cons (ye_ixT (d := .int b) (ye_var rfl) (ye_int (i := 0)) rfl) ya_nil))) rfl (show g__law_rises [encN (upTo 0 b P), .int 0, .int b] (.bool true) from ⟨upTo 0 b P, 0, b, upTo_rising, fun x hx => ?_, Nat.le_trans upTo_len (by omega), rfl, rfl⟩)))) ?_) (fun hb => by cases hb) fun _ => yo_nx) ?_
  · have z := mem_upTo.mp hx
    omega
  · simp
    omega
  · refine yo_ret (ye_call (ya_cons (ye_ixT (d := encN (upTo b s P)) (ye_var rfl) (ye_int (i := 3)) rfl) (ya_cons (ye_ixT (d := .int b) (ye_var rfl) (ye_int (i := 0)) rfl) (ya_cons (ye_add (ye_ixT (d := .int b) (ye_var rfl) (ye_int (i := 0)) rfl) (ye_ixT (d := .int s) (ye_var rfl) (ye_int (i := 1)) rfl)) ya_nil))) rfl (show g__law_rises [encN (upTo b s P), .int b, .int ((b : Int) + s)] (.bool true) from ⟨upTo b s P, b, b + s, upTo_rising, fun x hx => ?_, Nat.le_trans upTo_len (by omega), rfl, rfl⟩))
    have z := mem_upTo.mp hx
    omega
theorem eqv_way (v u : Way) (hv : Sgn v.sign) (hu : Sgn u.sign) : PyData.eqv v.enc u.enc = decide (v = u) := by
  have e : ∀ i j : Nat, PyData.eqv (.int i) (.int j) = decide (i = j) := eqf_nat.eq
  have d : PyData.eqv (.str v.deed.str) (.str u.deed.str) = decide (v.deed = u.deed) := by
    rw [PyData.eqv]
    cases v.deed <;> cases u.deed <;> decide +kernel
  have s : PyData.eqv (.str (chr v.sign)) (.str (chr u.sign)) = decide (v.sign = u.sign) := by
    rw [PyData.eqv]
    rcases hv with z | z | z <;> rcases hu with y | y | y <;> rw [z, y] <;> decide +kernel
  unfold Way.enc
  rw [PyData.eqv, PyData.eqvAll, PyData.eqvAll, PyData.eqvAll, PyData.eqvAll, PyData.eqvAll, e, e, d, s, Bool.and_true, ← Bool.decide_and, ← Bool.decide_and, ← Bool.decide_and]
  refine decide_eq_decide.mpr ?_
  obtain ⟨a1, a2, a3, a4⟩ := v
  obtain ⟨b1, b2, b3, b4⟩ := u
  constructor
  · rintro ⟨h1, h2, h3, h4⟩
    have h1 : a1 = b1 := h1
    have h2 : a2 = b2 := h2
    have h3 : a3 = b3 := h3
    have h4 : a4 = b4 := h4
    rw [h1, h2, h3, h4]
  · rintro h
    injection h with h1 h2 h3 h4
    exact ⟨h1, h2, h3, h4⟩
theorem lay_way (v : Way) (hv : Sgn v.sign) : v.enc.canLay0 = true := by
  have d : (PyData.str v.deed.str).canLay0 = true := by
    rw [PyData.canLay0]
    cases v.deed <;> decide +kernel
  have s : (PyData.str (chr v.sign)).canLay0 = true := by
    rw [PyData.canLay0]
    rcases hv with z | z | z <;> rw [z] <;> decide +kernel
  unfold Way.enc
  simp only [PyData.canLay0, PyData.canLayAll0] at d s ⊢
  rw [d, s]
  rfl
theorem deep_way (v : Way) : v.enc.depth = 1 := by
  unfold Way.enc
  simp [PyData.depth, PyData.depthAll]
theorem shaped_way (v : Way) (hv : Sgn v.sign) : SeqAt.shaped v.enc = true := by
  unfold SeqAt.shaped
  rw [lay_way v hv, deep_way]
  rfl
theorem lay_ways : ∀ ws : List Way, (∀ v ∈ ws, Sgn v.sign) → PyData.canLayAll0 (ws.map Way.enc) = true
  | [], _ => by rw [List.map_nil, PyData.canLayAll0]
  | w :: ws, h => by rw [List.map_cons, PyData.canLayAll0, lay_way w (h w List.mem_cons_self), lay_ways ws fun v hv => h v (List.mem_cons_of_mem _ hv)]; rfl
theorem deep_ways : ∀ ws : List Way, PyData.depthAll (ws.map Way.enc) ≤ 1
  | [] => by rw [List.map_nil, PyData.depthAll]; exact Nat.zero_le _
  | w :: ws => by rw [List.map_cons, PyData.depthAll, deep_way]; exact Nat.max_le.mpr ⟨Nat.le_refl _, deep_ways ws⟩
theorem shaped_ways (ws : List Way) (h : ∀ v ∈ ws, Sgn v.sign) : SeqAt.shaped (.list (ws.map Way.enc)) = true := by
  unfold SeqAt.shaped
  have z := deep_ways ws
  rw [PyData.canLay0, lay_ways ws h, PyData.depth, decide_eq_true (by omega)]
  rfl
theorem any_way (ws : List Way) (v : Way) (hv : Sgn v.sign) (h : ∀ u ∈ ws, Sgn u.sign) : ((ws.map Way.enc).any fun z => PyData.eqv z v.enc) = decide (v ∈ ws) := by
  rw [List.any_map, Bool.eq_iff_iff, List.any_eq_true, decide_eq_true_eq]
  constructor
  · rintro ⟨u, h1, h2⟩
    have z : PyData.eqv u.enc v.enc = true := h2
    rw [eqv_way u v (h u h1) hv] at z
    rw [← of_decide_eq_true z]
    exact h1
  · intro z
    exact ⟨v, z, (eqv_way v v hv hv).trans (decide_eq_true rfl)⟩

theorem ok__law_unlike {P : Program} {w : World} {K : PySem.W.Frag} {mg : Str → Option Value} {base : Heap} {aR : Addr} {des : Array DictEntry} {dn : Nat} (T : Txt K w mg aR des dn)  : Cal P w K mg base 1 "_law_unlike" ["_law_ways"] g__law_unlike := by
  obtain ⟨f, fd, F, hm⟩ := T.f__law_unlike
  refine ⟨f, fd, ?_, hm, F.kp, F.binds fun _ _ _ _ _ _ us hl => match us, hl with | [_], _ => rfl⟩
  refine fn_by F sc__law_unlike (by decide) fun cdv A outer s H E hr => ?_
  have hu := hu_of hr
  have hu64 := hr.units
  have hu65 : (A.deeper (PyProof.Rows.envOfC "_law_unlike" (defScope s__law_unlike) s.heap.objs.size f cdv)).units + 65 < cLine := by
    have := hr.un
    omega
  refine ⟨_, (pss_cons (ps_set (i := 1) sc__law_unlike.nd rfl (Or.inl rfl) (pe_lst pa_nil))
      (pss_cons (ps_for PassesOwn.never (by rfl) (piL K rfl (pv 0)) (pg_name (i := 2) sc__law_unlike.nd rfl (Or.inl rfl))
        (pss_one (ps_if (pt_cmpR (opNotInD K rfl hu65) (pv 2) (pv 1) (by rfl))
          (pss_one (ps_expr (peApp K rfl (pv 1) (pv 2))))
          pss_nil)))
      (pss_one (ps_ret (pe_callTy (T := "tuple") (cTuple K rfl) (by rfl) T.b_tuple (by decide +kernel) (pa_cons (pv 1) pa_nil)))))), fun ds r hn hg => ?_⟩
  clear hu hu64 hu65 hr hn
  obtain ⟨ws, h1, h2, rfl, rfl⟩ := hg
  refine .inl (yo_seq (yo_asgM (yf_lst ya_nil (show (0 : Nat) ≤ 100000 by decide))) ?_)
  refine yo_seq (yo_for (items := ws.map Way.enc) (yi_list (ye_var rfl)) (fun i => [.im (.list (ws.map Way.enc)), .ml ((dedup (ws.take i)).map Way.enc), .no]) rfl fun i d hd => ?_) ?_
  · rw [List.getElem?_map] at hd
    obtain ⟨v, e, rfl⟩ := Option.map_eq_some_iff.mp hd
    have hv := h2 v (List.mem_of_getElem? e)
    have dd := dedup_nd (ws.take i)
    have sg : ∀ u ∈ dedup (ws.take i), Sgn u.sign := fun u hu => h2 u (List.mem_of_mem_take (dd.2.1 u hu))
    have nx : dedup (ws.take (i + 1)) = if v ∈ dedup (ws.take i) then dedup (ws.take i) else dedup (ws.take i) ++ [v] := by
      unfold dedup
      rw [List.take_add_one, e, List.foldl_append]
      rfl
    refine ⟨_, _, yg_name ltr, ?_⟩
    refine yo_if (b := !decide (v ∈ dedup (ws.take i))) (Yt.to (yt_test (ye_notInD (ye_var rfl) (yl_var rfl) (shaped_way v hv) (shaped_ways _ sg))) (by rw [any_way _ v hv sg])) (fun hb => ?_) fun hb => ?_
    · rw [Bool.not_eq_true', decide_eq_false_iff_not] at hb
      refine Yo.to (yo_weak (yo_app rfl (ye_var rfl) (by rw [List.length_map]; have z := dd.2.2; rw [List.length_take] at z; omega)) (.same (.same (.drop .nil)))) ?_
      rw [nx, if_neg hb, List.map_append]
      rfl
    · rw [Bool.not_eq_false', decide_eq_true_eq] at hb
      refine Yo.to (yo_weak yo_nx (.same (.same (.drop .nil)))) ?_
      rw [nx, if_pos hb]
  · rw [List.length_map, List.take_length]
    exact yo_ret (ye_tupL (yl_var rfl))
theorem dstr (d e : Dd) : decide (d.str = e.str) = decide (d = e) := by cases d <;> cases e <;> decide +kernel

theorem ok__law_behind {P : Program} {w : World} {K : PySem.W.Frag} {mg : Str → Option Value} {base : Heap} {aR : Addr} {des : Array DictEntry} {dn : Nat} (T : Txt K w mg aR des dn)  : Cal P w K mg base 1 "_law_behind" ["_law_house_here", "_law_place_here"] g__law_behind := by
  obtain ⟨f, fd, F, hm⟩ := T.f__law_behind
  refine ⟨f, fd, ?_, hm, F.kp, F.binds fun _ _ _ _ _ _ us hl => match us, hl with | [_, _], _ => rfl⟩
  refine fn_by F sc__law_behind (by decide) fun cdv A outer s H E hr => ?_
  have hu := hu_of hr
  have hu64 := hr.units
  have hu65 : (A.deeper (PyProof.Rows.envOfC "_law_behind" (defScope s__law_behind) s.heap.objs.size f cdv)).units + 65 < cLine := by
    have := hr.un
    omega
  refine ⟨_, (pss_cons (ps_set (i := 2) sc__law_behind.nd rfl (Or.inl rfl) (pe_lst pa_nil))
      (pss_cons (ps_for PassesOwn.never (by rfl) (pi_enumT K rfl (by rfl) T.b_enumerate (pa_cons (pe_ix (ixT K rfl) (pv 0) pe_int (fun _ _ => rfl)) pa_nil)) (pgT (n := 2) K rfl rfl (pgs_cons (pg_name (i := 3) sc__law_behind.nd rfl (Or.inl rfl)) (pgs_cons (pgT (n := 4) K rfl rfl (pgs_cons (pg_name (i := 4) sc__law_behind.nd rfl (Or.inl rfl)) (pgs_cons (pg_name (i := 5) sc__law_behind.nd rfl (Or.inl rfl)) (pgs_cons (pg_name (i := 6) sc__law_behind.nd rfl (Or.inl rfl)) (pgs_cons (pg_name (i := 7) sc__law_behind.nd rfl (Or.inl rfl)) pgs_nil))))) pgs_nil)))
        (pss_one (ps_if (pt_cmpR op_eq (pv 4) (pe_ix (ixT K rfl) (pv 1) pe_int (fun _ _ => rfl)) (nomark _))
          (pss_cons (ps_if (pt_cmpR op_eq (pv 5) pe_str (nomark _))
            (pss_one (ps_expr (peApp K rfl (pv 2) (pe_tup (pa_cons (pv 3) (pa_cons (pe_tup (pa_cons (pv 6) (pa_cons (pe_op op_add (pe_ix (ixT K rfl) (pv 1) pe_int (fun _ _ => rfl)) pe_int) pa_nil))) pa_nil))))))
            pss_nil)
          (pss_cons (ps_if (PW.pt (pw_and (pt_cmpR op_eq (pv 5) pe_str (nomark _)) (pw_and1 (pt_cmpR op_gt (pe_ix (ixT K rfl) (pv 1) pe_int (fun _ _ => rfl)) pe_int (nomark _)))))
            (pss_one (ps_expr (peApp K rfl (pv 2) (pe_tup (pa_cons (pv 3) (pa_cons (pe_tup (pa_cons (pv 6) (pa_cons (pe_op op_sub (pe_ix (ixT K rfl) (pv 1) pe_int (fun _ _ => rfl)) pe_int) pa_nil))) pa_nil))))))
            pss_nil)
          (pss_one (ps_if (PW.pt (pw_or (pt_cmpR op_eq (pv 5) pe_str (nomark _)) (pw_or1 (PW.pt (pw_and (pt_cmpR op_eq (pv 5) pe_str (nomark _)) (pw_and1 (pt_cmpR op_eq (pe_ix (ixT K rfl) (pv 1) pe_int (fun _ _ => rfl)) pe_int (nomark _))))))))
            (pss_one (ps_expr (peApp K rfl (pv 2) (pe_tup (pa_cons (pv 3) (pa_cons (pe_tup (pa_cons (pv 6) (pa_cons (pe_ix (ixT K rfl) (pv 1) pe_int (fun _ _ => rfl)) pa_nil))) pa_nil))))))
            pss_nil))))
          pss_nil)))
      (pss_one (ps_ret (pv 2))))), fun ds r hn hg => ?_⟩
  clear hu hu64 hu65 hr hn
  obtain ⟨h, p, gd, rfl, rfl⟩ := hg
  refine .inl (yo_seq (yo_asgM (yf_lst ya_nil (show (0 : Nat) ≤ 100000 by decide))) ?_)
  have hs := gd.short
  refine yo_seq (yo_for (items := enD (h.ways.map Way.enc)) (yi_enumT (ye_ixT (d := encWs h.ways) (ye_var rfl) (ye_int (i := 1)) rfl)) (fun i => [.im h.enc, .im (encP p), .ml ((bhL h p i).map encB2), .no, .no, .no, .no, .no]) rfl fun i d hd => ?_) ?_
  · have hl : i < h.ways.length := by
      have z := (List.getElem?_eq_some_iff.mp hd).1
      rw [enD_len, List.length_map] at z
      exact z
    have e := List.getElem?_eq_getElem hl
    have hd2 := enD_get (xs := h.ways.map Way.enc) (i := i) (d := (h.ways[i]).enc) (by rw [List.getElem?_map, e]; rfl)
    rw [hd2] at hd
    cases hd
    generalize h.ways[i] = v at e
    have nx := bhL_next (p := p) e
    have ln := bhL_len (h := h) (p := p) (i := i)
    generalize bhL h p i = base at nx ln
    obtain ⟨v1, v2, v3, v4⟩ := v
    have nx : bhL h p (i + 1) = if v1 = p.1 ∧ v2.opn p.2 = true then base ++ [(i, (v3, v2.num p.2))] else base := nx
    refine ⟨_, _, yg_tup rfl (ygs_cons (yg_name ltr) (ygs_cons (yg_tup rfl (ygs_cons (yg_name ltr) (ygs_cons (yg_name ltr) (ygs_cons (yg_name ltr) (ygs_cons (yg_name ltr) ygs_nil))))) ygs_nil)), ?_⟩
    refine yo_if (b := decide (v1 = p.1)) (Yt.to (yt_test (ye_eqI (i := (v1 : Int)) (j := (p.1 : Int)) (ye_var rfl) (ye_ixT (d := .int p.1) (ye_var rfl) (ye_int (i := 0)) rfl))) (decide_eq_decide.mpr (by omega))) (fun hb => ?_) fun hb => ?_
    · have hb := of_decide_eq_true hb
      have px : ∀ {es : List Ent}, es[1]? = some (.im (encP p)) → Ye K (tOp (rIxT K) (tVar 1) (tC (.int 1))) es (.int p.2) := fun q => ye_ixT (d := .int p.2) (ye_var q) (ye_int (i := 1)) rfl
      let W : List (Nat × Pl) → List Ent := fun l => [.im h.enc, .im (encP p), .ml (l.map encB2), .im (.int i), .im (.int v1), .im (.str v2.str), .im (.int v3), .im (.str (chr v4))]
      refine yo_seq (e1 := W (if v2 = .up then base ++ [(i, (v3, v2.num p.2))] else base)) (yo_if (b := decide (v2 = .up)) (Yt.to (yt_test (ye_eqS (i := v2.str) (j := Dd.up.str) (ye_var rfl) ye_str)) (dstr _ _)) (fun hc => ?_) fun hc => ?_) ?_
      · have hc := of_decide_eq_true hc
        subst hc
        refine Yo.to (yo_app rfl (ye_tup (ya_cons (ye_var rfl) (ya_cons (ye_tup (ya_cons (ye_var rfl) (ya_cons (ye_add (px rfl) (ye_int (i := 1))) ya_nil)) (show (2 : Nat) ≤ 100000 by decide)) ya_nil)) (show (2 : Nat) ≤ 100000 by decide)) (by rw [List.length_map]; omega)) ?_
        rw [if_pos rfl]
        show _ = [_, _, Ent.ml ((base ++ [(i, (v3, p.2 + 1))]).map encB2), _, _, _, _, _]
        rw [List.map_append]
        rfl
      · rw [if_neg (of_decide_eq_false hc)]
        exact yo_nx
      refine yo_seq (e1 := W (if v2 = .up ∨ v2 = .down ∧ 0 < p.2 then base ++ [(i, (v3, v2.num p.2))] else base)) (yo_if (b := decide (v2 = .down ∧ 0 < p.2)) (Yt.to (yt_and (b := decide (0 < p.2)) (yt_test (ye_eqS (i := v2.str) (j := Dd.down.str) (ye_var rfl) ye_str)) fun _ => Yt.to (yt_test (ye_gt (i := (p.2 : Int)) (px rfl) (ye_int (i := 0)))) (decide_eq_decide.mpr (by omega))) (by rw [dstr, ← Bool.decide_and])) (fun hc => ?_) fun hc => ?_) ?_
      · obtain ⟨c1, c2⟩ := of_decide_eq_true hc
        subst c1
        refine Yo.to (yo_app rfl (ye_tup (ya_cons (ye_var rfl) (ya_cons (ye_tup (ya_cons (ye_var rfl) (ya_cons ((ye_sub (i := (p.2 : Int)) (px rfl) (ye_int (i := 1))).to (d' := .int ((p.2 - 1 : Nat) : Int)) (congrArg PyData.int (by omega))) ya_nil)) (show (2 : Nat) ≤ 100000 by decide)) ya_nil)) (show (2 : Nat) ≤ 100000 by decide)) (by rw [if_neg (by decide), List.length_map]; omega)) ?_
        rw [if_neg (by decide), if_pos (.inr ⟨rfl, c2⟩)]
        show _ = [_, _, Ent.ml ((base ++ [(i, (v3, p.2 - 1))]).map encB2), _, _, _, _, _]
        rw [List.map_append]
        rfl
      · have hc := of_decide_eq_false hc
        refine Yo.to yo_nx ?_
        by_cases u : v2 = .up
        · rw [if_pos u, if_pos (.inl u)]
        · rw [if_neg u, if_neg fun z => z.elim u hc]
      refine yo_if (b := decide (v2 = .stay ∨ v2 = .zero ∧ p.2 = 0)) (Yt.to (yt_or (b := decide (v2 = .zero ∧ p.2 = 0)) (yt_test (ye_eqS (i := v2.str) (j := Dd.stay.str) (ye_var rfl) ye_str)) fun _ => Yt.to (yt_and (b := decide (p.2 = 0)) (yt_test (ye_eqS (i := v2.str) (j := Dd.zero.str) (ye_var rfl) ye_str)) fun _ => Yt.to (yt_test (ye_eqI (i := (p.2 : Int)) (px rfl) (ye_int (i := 0)))) (decide_eq_decide.mpr (by omega))) (by rw [dstr, ← Bool.decide_and])) (by rw [dstr, ← Bool.decide_or])) (fun hc => ?_) fun hc => ?_
      · have hc := of_decide_eq_true hc
        have o1 : ¬ (v2 = .up ∨ v2 = .down ∧ 0 < p.2) := by
          rcases hc with z | ⟨z, _⟩ <;> rw [z] <;> simp
        have o2 : v2.opn p.2 = true ∧ v2.num p.2 = p.2 := by
          rcases hc with z | ⟨z, y⟩
          · rw [z]; exact ⟨rfl, rfl⟩
          · rw [z]; exact ⟨decide_eq_true y, rfl⟩
        refine Yo.to (yo_weak (yo_app rfl (ye_tup (ya_cons (ye_var rfl) (ya_cons (ye_tup (ya_cons (ye_var rfl) (ya_cons (px rfl) ya_nil)) (show (2 : Nat) ≤ 100000 by decide)) ya_nil)) (show (2 : Nat) ≤ 100000 by decide)) (by rw [if_neg o1, List.length_map]; omega)) (.same (.same (.same (.drop (.drop (.drop (.drop (.drop .nil))))))))) ?_
        rw [if_neg o1, nx, if_pos ⟨hb, o2.1⟩, List.map_append, o2.2]
        rfl
      · have hc := of_decide_eq_false hc
        refine Yo.to (yo_weak yo_nx (.same (.same (.same (.drop (.drop (.drop (.drop (.drop .nil))))))))) ?_
        have o : (v2 = .up ∨ v2 = .down ∧ 0 < p.2) ↔ (v1 = p.1 ∧ v2.opn p.2 = true) := by
          cases v2 with
          | up => exact ⟨fun _ => ⟨hb, rfl⟩, fun _ => .inl rfl⟩
          | down => exact ⟨fun z => ⟨hb, decide_eq_true (by rcases z with z | z; cases z; exact z.2)⟩, fun z => .inr ⟨rfl, of_decide_eq_true z.2⟩⟩
          | stay => exact absurd (.inl rfl) hc
          | zero => exact ⟨fun z => (by rcases z with z | z; cases z; cases z.1), fun z => absurd (.inr ⟨rfl, of_decide_eq_true z.2⟩) hc⟩
        by_cases u : v1 = p.1 ∧ v2.opn p.2 = true
        · rw [nx, if_pos u, if_pos (o.mpr u)]
        · rw [nx, if_neg u, if_neg fun z => u (o.mp z)]
    · refine Yo.to (yo_weak yo_nx (.same (.same (.same (.drop (.drop (.drop (.drop (.drop .nil))))))))) ?_
      rw [nx, if_neg fun z => of_decide_eq_false hb z.1]
  · rw [enD_len, List.length_map]
    exact yo_freeze (i := 2) rfl (yo_ret (ye_var rfl))

theorem ok__law_gone {P : Program} {w : World} {K : PySem.W.Frag} {mg : Str → Option Value} {base : Heap} {aR : Addr} {des : Array DictEntry} {dn : Nat} (T : Txt K w mg aR des dn) (C__law_behind : Cal P w K mg base 1 "_law_behind" ["_law_house_here", "_law_place_here"] g__law_behind) : Cal P w K mg base 2 "_law_gone" ["_law_house_here", "_law_place_here", "_law_walk_here"] g__law_gone := by
  obtain ⟨f, fd, F, hm⟩ := T.f__law_gone
  refine ⟨f, fd, ?_, hm, F.kp, F.binds fun _ _ _ _ _ _ us hl => match us, hl with | [_, _, _], _ => rfl⟩
  refine fn_by F sc__law_gone (by decide) fun cdv A outer s H E hr => ?_
  have hu := hu_of hr
  have hu64 := hr.units
  have hu65 : (A.deeper (PyProof.Rows.envOfC "_law_gone" (defScope s__law_gone) s.heap.objs.size f cdv)).units + 65 < cLine := by
    have := hr.un
    omega
  refine ⟨_, (pss_cons (ps_set (i := 3) sc__law_gone.nd rfl (Or.inl rfl) (pe_lst (pa_cons (pv 1) pa_nil)))
      (pss_cons (ps_for PassesOwn.never (by rfl) (piL K rfl (pv 2)) (pg_name (i := 4) sc__law_gone.nd rfl (Or.inr rfl))
        (pss_cons (ps_setLc (i := 5) (own := [("_law_way", 6), ("_law_far", 7)]) (by rfl) sc__law_gone.nd rfl rfl (sw_true rfl rfl rfl (by decide +kernel)) (piL K rfl (peCal K C__law_behind rfl rfl rfl rfl rfl hr (by rfl) (pa_cons (pv 0) (pa_cons (pe_ix (ixL K rfl) (pv 3) (pe_un un_neg pe_int) (fun _ _ => rfl)) pa_nil)))) (blkOk_by (N := ["_law_house_here", "_law_place_here", "_law_walk_here", "_law_found", "_law_k", "_law_there", "_law_way", "_law_far"]) (sc := defScope s__law_gone) (by decide +kernel))
      (fun _ _ _ _ _ => (pgT (n := 2) K rfl rfl (pgs_cons (pg_name (i := 6) sc__law_gone.nd rfl (Or.inl rfl)) (pgs_cons (pg_name (i := 7) sc__law_gone.nd rfl (Or.inl rfl)) pgs_nil)))) (fun _ _ _ _ _ => (pts_one (pt_cmpR op_eq (pv 6) (pv 4) (nomark _)))) (fun _ _ _ _ _ => (pv 7)))
        (pss_cons (ps_if (pt_cmpR op_eq (pe_callB (id := "len") (cLen K rfl) (by rfl) T.b_len (by decide +kernel) (pa_cons (pv 5) pa_nil)) pe_int (nomark _))
          (pss_one (ps_ret pe_non))
          pss_nil)
        (pss_one (ps_expr (peApp K rfl (pv 3) (pe_ix (ixL K rfl) (pv 5) pe_int (fun _ _ => rfl))))))))
      (pss_one (ps_ret (pv 3))))), fun ds r hn hg => ?_⟩
  clear hu hu64 hu65 hr hn
  obtain ⟨h, ks, ps, gd, h1, h2, rfl, rfl⟩ := hg
  refine .inl (yo_seq (yo_asgM (yf_lst (ya_cons (ye_var rfl) ya_nil) (show (1 : Nat) ≤ 100000 by decide))) ?_)
  refine yo_seq (yo_for (items := ks.map fun k : Nat => .int k) (yi_list (ye_var rfl)) (fun i => [.im h.enc, .im (encP (ps 0)), .im (encNs ks), .ml ((List.range (i + 1)).map fun j => encP (ps j)), .no, .no, .no, .no]) rfl fun i d hd => ?_) ?_
  · rw [List.getElem?_map] at hd
    obtain ⟨k, e, rfl⟩ := Option.map_eq_some_iff.mp hd
    have hk := h2 i k e
    have hl := (List.getElem?_eq_some_iff.mp e).1
    have kl : k < h.ways.length := by
      unfold bh at hk
      cases c : h.ways[k]? with
      | none => rw [c] at hk; cases hk
      | some v => exact (List.getElem?_eq_some_iff.mp c).1
    have fd := bhL_find hk h.ways.length (Nat.le_refl _)
    rw [if_pos kl] at fd
    refine ⟨_, _, yg_name ltr, ?_⟩
    have ln := bhL_len (h := h) (p := ps i) (i := h.ways.length)
    have sh := gd.short
    refine yo_seq (yo_asgM (xs := [encP (ps (i + 1))]) (Yf.to (yf_lcA (as := bhL h (ps i) h.ways.length) (enc := encB2) (fun a => decide ((a.1 : Int) = (k : Int))) (fun a => encP a.2) (yi_list (ye_call (ya_cons (ye_var rfl) (ya_cons (ye_ixL (yl_var rfl) (ye_neg (ye_int (i := 1))) at_last) ya_nil)) rfl (show g__law_behind _ _ from ⟨h, ps i, gd, rfl, rfl⟩))) (by omega) fun j a ha => ⟨_, _, (by simp), yg_tup rfl (ygs_cons (yg_name ltr) (ygs_cons (yg_name ltr) ygs_nil)), yt_test (ye_eqI (ye_var rfl) (ye_var rfl)), fun _ => ye_var rfl⟩) fd)) ?_
    refine yo_seq (yo_if (b := false) (Yt.to (yt_test (ye_eqI (ye_lenL (yl_var rfl)) (ye_int (i := 0)))) rfl) (fun hb => by cases hb) fun _ => yo_nx) ?_
    refine Yo.to (yo_weak (yo_app (d := encP (ps (i + 1))) rfl (ye_ixL (yl_var rfl) (ye_int (i := 0)) rfl) (by simp; omega)) (.same (.same (.same (.same (.drop (.drop (.drop (.drop .nil))))))))) ?_
    rw [List.range_succ (n := i + 1), List.map_append]
    rfl
  · rw [List.length_map]
    exact yo_freeze (i := 3) rfl (yo_ret (ye_var rfl))
theorem max_some : ∀ {ns : List Nat}, 0 < ns.length → ∃ m, m ∈ ns ∧ ∀ y ∈ ns, y ≤ m
  | [a], _ => ⟨a, List.mem_singleton.mpr rfl, fun y hy => by rw [List.mem_singleton.mp hy]; exact Nat.le_refl _⟩
  | a :: b :: r, _ => by
    obtain ⟨m, h1, h2⟩ := max_some (ns := b :: r) (by simp)
    by_cases c : a ≤ m
    · exact ⟨m, List.mem_cons_of_mem _ h1, fun y hy => (List.mem_cons.mp hy).elim (fun z => by rw [z]; exact c) (h2 y)⟩
    · exact ⟨a, List.mem_cons_self, fun y hy => (List.mem_cons.mp hy).elim (fun z => by omega) fun z => by have q := h2 y z; omega⟩

theorem ok__law_shut {P : Program} {w : World} {K : PySem.W.Frag} {mg : Str → Option Value} {base : Heap} {aR : Addr} {des : Array DictEntry} {dn : Nat} (T : Txt K w mg aR des dn) (C__law_holds : Cal P w K mg base 1 "_law_holds" ["_law_stair", "_law_x"] g__law_holds) : Cal P w K mg base 2 "_law_shut" ["_law_house_here", "_law_stairs"] g__law_shut := by
  obtain ⟨f, fd, F, hm⟩ := T.f__law_shut
  refine ⟨f, fd, ?_, hm, F.kp, F.binds fun _ _ _ _ _ _ us hl => match us, hl with | [_, _], _ => rfl⟩
  refine fn_by F sc__law_shut (by decide) fun cdv A outer s H E hr => ?_
  have hu := hu_of hr
  have hu64 := hr.units
  have hu65 : (A.deeper (PyProof.Rows.envOfC "_law_shut" (defScope s__law_shut) s.heap.objs.size f cdv)).units + 65 < cLine := by
    have := hr.un
    omega
  refine ⟨_, (pss_cons (ps_set (i := 2) sc__law_shut.nd rfl (Or.inl rfl) (pe_op op_add (pe_callB (id := "max") (cMax K rfl rfl) (by rfl) T.b_max (by decide +kernel) (pa_cons (pe_lc (own := [("_law_stair", 3)]) (by rfl) sc__law_shut.nd (piL K rfl (pv 1)) (blkOk_by (N := ["_law_house_here", "_law_stairs", "_law_top", "_law_stair", "_law_room", "_law_deed", "_law_other", "_law_sign", "_law_low", "_law_high", "_law_more", "_law_x"]) (sc := defScope s__law_shut) (by decide +kernel))
      (fun _ _ _ _ _ => (pg_name (i := 3) sc__law_shut.nd rfl (Or.inl rfl))) (fun _ _ _ _ _ => pts_nil) (fun _ _ _ _ _ => (pe_ix (ixT K rfl) (pv 3) pe_int (fun _ _ => rfl)))) pa_nil)) pe_int))
      (pss_cons (ps_for PassesOwn.never (by rfl) (piT K rfl (pe_ix (ixT K rfl) (pv 0) pe_int (fun _ _ => rfl))) (pgT (n := 4) K rfl rfl (pgs_cons (pg_name (i := 4) sc__law_shut.nd rfl (Or.inl rfl)) (pgs_cons (pg_name (i := 5) sc__law_shut.nd rfl (Or.inl rfl)) (pgs_cons (pg_name (i := 6) sc__law_shut.nd rfl (Or.inl rfl)) (pgs_cons (pg_name (i := 7) sc__law_shut.nd rfl (Or.inl rfl)) pgs_nil)))))
        (pss_cons (ps_set (i := 8) sc__law_shut.nd rfl (Or.inl rfl) (pe_callTy (T := "int") call_int1 (by rfl) T.b_int (by decide +kernel) (pa_cons (pe_cmpR op_eq (pv 5) pe_str (nomark _)) pa_nil)))
        (pss_cons (ps_set (i := 9) sc__law_shut.nd rfl (Or.inl rfl) (pe_op op_add (pe_op op_mul (pv 2) (pe_callTy (T := "int") call_int1 (by rfl) T.b_int (by decide +kernel) (pa_cons (pe_cmpR op_ne (pv 5) pe_str (nomark _)) pa_nil))) pe_int))
        (pss_cons (ps_set (i := 10) sc__law_shut.nd rfl (Or.inl rfl) (pe_op op_sub (pe_callTy (T := "int") call_int1 (by rfl) T.b_int (by decide +kernel) (pa_cons (pe_cmpR op_eq (pv 5) pe_str (nomark _)) pa_nil)) (pe_callTy (T := "int") call_int1 (by rfl) T.b_int (by decide +kernel) (pa_cons (pe_cmpR op_eq (pv 5) pe_str (nomark _)) pa_nil))))
        (pss_one (ps_for PassesOwn.never (by rfl) (pi_range2 (by rfl) T.b_range (pa_cons (pv 8) (pa_cons (pv 9) pa_nil))) (pg_name (i := 11) sc__law_shut.nd rfl (Or.inl rfl))
          (pss_one (ps_if (PW.pt (pw_and (pt_val (peCal K C__law_holds rfl rfl rfl rfl rfl hr (by rfl) (pa_cons (pe_ix (ixL K rfl) (pv 1) (pv 4) (fun _ _ => rfl)) (pa_cons (pv 11) pa_nil)))) (pw_and1 (pt_not (pt_val (peCal K C__law_holds rfl rfl rfl rfl rfl hr (by rfl) (pa_cons (pe_ix (ixL K rfl) (pv 1) (pv 6) (fun _ _ => rfl)) (pa_cons (pe_op op_add (pv 11) (pv 10)) pa_nil))))))))
            (pss_one (ps_ret pe_bl))
            pss_nil))))))))
      (pss_one (ps_ret pe_bl)))), fun ds r hn hg => ?_⟩
  clear hu hu64 hu65 hr hn
  obtain ⟨h, B, S, P, gd, h1, h2, rfl, rfl⟩ := hg
  refine .inl ?_
  have hn := gd.few
  have hn1 := gd.pos
  obtain ⟨M, m1, m2⟩ := max_some (ns := (List.range h.many).map B) (by simp; omega)
  have mB : M ≤ 3000 := by
    obtain ⟨q, hq, rfl⟩ := List.mem_map.mp m1
    exact (h1 q (List.mem_range.mp hq)).1
  refine yo_seq (yo_asg (d := .int ((M : Int) + 120)) (ye_add (ye_max (ns := ((List.range h.many).map B).map fun n : Nat => (n : Int)) (m := (M : Int)) (Yf.yl (Yf.to (yf_lcA (as := List.range h.many) (enc := fun q => encS (B q) (S q) (P q)) (fun _ => true) (fun q => .int (B q : Nat)) (yi_list (ye_var rfl)) (by rw [List.length_range]; omega) fun i a ha => ⟨_, _, (by simp), yg_name ltr, yt_yes, fun _ => ye_ixT (d := .int (B a : Nat)) (ye_var rfl) (ye_int (i := 0)) rfl⟩) (by rw [List.filter_eq_self.mpr (fun _ _ => rfl), List.map_map, List.map_map]; rfl))) (by simp; omega) fun k hk1 hk2 => ?_) ye_int)) ?_
  · obtain ⟨n, hn1, rfl⟩ := List.mem_map.mp hk1
    have z1 := m2 n hn1
    have z2 := hk2 (M : Int) (List.mem_map.mpr ⟨M, m1, rfl⟩)
    omega
  refine yo_seq (yo_for (items := h.ways.map Way.enc) (yi_tup (ye_ixT (d := encWs h.ways) (ye_var rfl) (ye_int (i := 1)) rfl)) (fun i => [.im h.enc, .im (.list ((List.range h.many).map fun q => encS (B q) (S q) (P q))), .im (.int ((M : Int) + 120)), .no, .no, .no, .no, .no, .no, .no, .no, .no]) rfl fun i d hd => ?_) (yo_ret ye_bl)
  rw [List.getElem?_map] at hd
  obtain ⟨v, e, rfl⟩ := Option.map_eq_some_iff.mp hd
  have hv := List.mem_of_getElem? e
  have vr := gd.room v hv
  have vo := gd.other v hv
  have cl := h2 v hv
  refine ⟨_, _, yg_tup rfl (ygs_cons (yg_name ltr) (ygs_cons (yg_name ltr) (ygs_cons (yg_name ltr) (ygs_cons (yg_name ltr) ygs_nil)))), ?_⟩
  obtain ⟨v1, v2, v3, v4⟩ := v
  have vr : v1 < h.many := vr
  have vo : v3 < h.many := vo
  have cl : ∀ x, v2.opn x = true → P v1 x = true → P v3 (v2.num x) = true := cl
  refine yo_seq (yo_asg (d := .int (if v2 = .down then 1 else 0)) (Ye.to (ye_intB (ye_eqS (i := v2.str) (j := Dd.down.str) (ye_var rfl) ye_str)) (by rw [dstr]; congr 1; by_cases c : v2 = .down <;> simp [c]))) ?_
  refine yo_seq (yo_asg (d := .int (((M : Int) + 120) * (if v2 = .zero then 0 else 1) + 1)) (ye_add (ye_mul (ye_var rfl) (Ye.to (d' := .int (if v2 = .zero then 0 else 1)) (ye_intB (ye_neS (i := v2.str) (j := Dd.zero.str) (ye_var rfl) ye_str)) (by rw [dstr]; congr 1; by_cases c : v2 = .zero <;> simp [c])) (.inl ⟨by omega, by omega⟩)) ye_int)) ?_
  refine yo_seq (yo_asg (d := .int v2.rise) (Ye.to (ye_sub (ye_intB (ye_eqS (i := v2.str) (j := Dd.up.str) (ye_var rfl) ye_str)) (ye_intB (ye_eqS (i := v2.str) (j := Dd.down.str) (ye_var rfl) ye_str))) (by rw [dstr, dstr]; cases v2 <;> rfl))) ?_
  generalize hlo : (if v2 = Dd.down then (1 : Int) else 0) = lo
  generalize hhi : ((M : Int) + 120) * (if v2 = Dd.zero then (0 : Int) else 1) + 1 = hi
  have blo : 0 ≤ lo ∧ lo ≤ 1 := by
    rw [← hlo]
    split <;> omega
  have bhi : 1 ≤ hi ∧ hi ≤ 4000 := by
    rw [← hhi]
    split <;> omega
  refine yo_weak (yo_forN (v := fun i => lo + (i : Int)) (n := (hi - lo).toNat) (yi_range2 (ya_cons (ye_var rfl) (ya_cons (ye_var rfl) ya_nil)) (by omega)) (fun _ => [.im h.enc, .im (.list ((List.range h.many).map fun q => encS (B q) (S q) (P q))), .im (.int ((M : Int) + 120)), .no, .im (.int v1), .im (.str v2.str), .im (.int v3), .im (.str (chr v4)), .im (.int lo), .im (.int hi), .im (.int v2.rise), .no]) rfl (fun _ => by simp) fun j hj => ?_) (.same (.same (.same (.same (.drop (.drop (.drop (.drop (.drop (.drop (.drop (.drop .nil))))))))))))
  have op : v2.opn (lo.toNat + j) = true := by
    cases v2 with
    | up => rfl
    | stay => rfl
    | down =>
      have z : lo = 1 := by rw [← hlo]; rfl
      refine decide_eq_true ?_
      omega
    | zero =>
      have z : lo = 0 := by rw [← hlo]; rfl
      have y : hi = 1 := by rw [← hhi, if_pos rfl, Int.mul_zero]; rfl
      refine decide_eq_true ?_
      omega
  have nm := Dd.num_rise op
  obtain ⟨a1, a2, a3⟩ := h1 v1 vr
  obtain ⟨b1, b2, b3⟩ := h1 v3 vo
  have ex : lo + (j : Int) = ((lo.toNat + j : Nat) : Int) := by omega
  refine yo_weak (yo_if (b := false) (Yt.to (yt_and (b := !P v3 (v2.num (lo.toNat + j))) (yt_B (ye_call (ya_cons (ye_ixL (d := encS (B v1) (S v1) (P v1)) (Ye.yl (ye_var rfl)) (ye_var rfl) (at_range vr)) (ya_cons ((ye_var rfl).to (d' := .int ((lo.toNat + j : Nat) : Int)) (congrArg PyData.int ex)) ya_nil)) rfl (show g__law_holds _ _ from ⟨B v1, S v1, lo.toNat + j, P v1, a2, a3, rfl, rfl⟩))) fun _ => yt_not (yt_B (ye_call (ya_cons (ye_ixL (d := encS (B v3) (S v3) (P v3)) (Ye.yl (ye_var rfl)) (ye_var rfl) (at_range vo)) (ya_cons ((ye_add (i := lo + (j : Int)) (j := v2.rise) (ye_var rfl) (ye_var rfl)).to (d' := .int ((v2.num (lo.toNat + j) : Nat) : Int)) (congrArg PyData.int (by omega))) ya_nil)) rfl (show g__law_holds _ _ from ⟨B v3, S v3, v2.num (lo.toNat + j), P v3, b2, b3, rfl, rfl⟩)))) ?_) (fun hb => by cases hb) fun _ => yo_nx) (.same (.same (.same (.same (.same (.same (.same (.same (.same (.same (.same (.drop .nil))))))))))))
  cases c : P v1 (lo.toNat + j) with
  | true => rw [cl _ op c]; rfl
  | false => rfl


end Sr
set_option Elab.async false
set_option linter.all false
set_option maxRecDepth 100000
set_option maxHeartbeats 4000000
set_option autoImplicit false
namespace Sr
open PySem L2
def g_law : Gr := fun ds r => ∃ ns : List Int, ns.length ≤ 63 ∧ ds = [.list (ns.map .int)] ∧ r = .bool true
theorem encN_len {ns : List Nat} : (ns.map fun n : Nat => PyData.int n).length = ns.length := List.length_map ..
/-- a walk told backwards, forwards -/
theorem run_pls {h : House} {p : Pl} {b : List Nat} {q : Pl} (r : runR h p b = some q) : ∃ ps : Nat → Pl, ps 0 = p ∧ ps b.length = q ∧ ∀ i k, b.reverse[i]? = some k → bh h (ps i) k = some (ps (i + 1)) := by
  induction b generalizing q with
  | nil =>
    have e : p = q := Option.some.inj r
    exact ⟨fun _ => p, rfl, e, fun i k hk => by simp at hk⟩
  | cons x b ih =>
    have r' : (runR h p b).bind (fun q => bh h q x) = some q := r
    cases c : runR h p b with
    | none => rw [c] at r'; cases r'
    | some s =>
      rw [c] at r'
      obtain ⟨ps, h0, h1, h2⟩ := ih c
      refine ⟨fun i => if i = b.length + 1 then q else ps i, ?_, if_pos rfl, fun i k hk => ?_⟩
      · show (if 0 = b.length + 1 then q else ps 0) = p
        rw [if_neg (by omega)]
        exact h0
      · show bh h (if i = b.length + 1 then q else ps i) k = some (if i + 1 = b.length + 1 then q else ps (i + 1))
        rw [List.reverse_cons] at hk
        by_cases e : i < b.length
        · rw [List.getElem?_append_left (by rw [List.length_reverse]; exact e)] at hk
          rw [if_neg (by omega), if_neg (by omega)]
          exact h2 i k hk
        · have hi := (List.getElem?_eq_some_iff.mp hk).1
          rw [List.length_append, List.length_reverse] at hi
          have e2 : i = b.length := by
            simp at hi
            omega
          subst e2
          rw [List.getElem?_append_right (by rw [List.length_reverse]; exact Nat.le_refl _), List.length_reverse, Nat.sub_self] at hk
          have hk' : x = k := Option.some.inj hk
          subst hk'
          rw [if_neg (by omega), if_pos rfl, h1]
          exact r'
theorem ok_law {P : Program} {w : World} {K : PySem.W.Frag} {mg : Str → Option Value} {base : Heap} {aR : Addr} {des : Array DictEntry} {dn : Nat} (T : Txt K w mg aR des dn) (C__law_cell : Cal P w K mg base 1 "_law_cell" ["_law_script", "_law_k"] g__law_cell) (C__law_draws : Cal P w K mg base 2 "_law_draws" ["_law_cell_here", "_law_widths", "_law_prime"] g__law_draws) (C__law_gone : Cal P w K mg base 2 "_law_gone" ["_law_house_here", "_law_place_here", "_law_walk_here"] g__law_gone) (C__law_holds : Cal P w K mg base 1 "_law_holds" ["_law_stair", "_law_x"] g__law_holds) (C__law_house : Cal P w K mg base 4 "_law_house" ["_law_cell_here", "_law_prime"] g__law_house) (C__law_is_stair : Cal P w K mg base 3 "_law_is_stair" ["_law_found"] g__law_is_stair) (C__law_place : Cal P w K mg base 3 "_law_place" ["_law_house_here", "_law_cell_here", "_law_prime"] g__law_place) (C__law_shut : Cal P w K mg base 2 "_law_shut" ["_law_house_here", "_law_stairs"] g__law_shut) (C__law_walk : Cal P w K mg base 2 "_law_walk" ["_law_found", "_law_most"] g__law_walk) (C_forward : Cal P w K mg base 6 "forward" ["house", "place"] g_forward) (C_shortest : Cal P w K mg base 6 "shortest" ["house", "place", "goal"] g_shortest) {f : Addr} {fd : FuncData} (F : Fun K "law" "law" s_law f fd) : FnOk P w K mg base CX0 7 f fd ["_law_script"] (spD K 1 g_law) := by
  refine fn_by F sc_law (by decide) fun cdv A outer s H E hr => ?_
  have hu := hu_of hr
  have hu64 := hr.units
  have hu65 : (A.deeper (PyProof.Rows.envOfC "law" (defScope s_law) s.heap.objs.size f cdv)).units + 65 < cLine := by
    have := hr.un
    omega
  refine ⟨_, (pss_cons (ps_set (i := 1) sc_law.nd rfl (Or.inl rfl) (peCal K C__law_house rfl rfl rfl rfl rfl (hr.mono (by decide)) (by rfl) (pa_cons (peCal K C__law_cell rfl rfl rfl rfl rfl (hr.mono (by decide)) (by rfl) (pa_cons (pv 0) (pa_cons pe_int pa_nil))) (pa_cons pe_int pa_nil))))
      (pss_cons (ps_set (i := 2) sc_law.nd rfl (Or.inl rfl) (peCal K C__law_place rfl rfl rfl rfl rfl (hr.mono (by decide)) (by rfl) (pa_cons (pv 1) (pa_cons (peCal K C__law_cell rfl rfl rfl rfl rfl (hr.mono (by decide)) (by rfl) (pa_cons (pv 0) (pa_cons pe_int pa_nil))) (pa_cons pe_int pa_nil)))))
      (pss_cons (ps_set (i := 3) sc_law.nd rfl (Or.inl rfl) (peCal K C_forward rfl rfl rfl rfl rfl hr (by rfl) (pa_cons (pv 1) (pa_cons (pv 2) pa_nil))))
      (pss_cons (ps_if (PW.pt (pw_or (pt_not (pt_val (pe_callB (id := "isinstance") (cIsi K rfl) (by rfl) T.b_isinstance (by decide +kernel) (pa_cons (pv 3) (pa_cons (pe_bltn (v := .ty "list") (by rfl) T.b_list (by decide +kernel) rfl) pa_nil))))) (pw_or (pt_cmpR op_ne (pe_callB (id := "len") (cLen K rfl) (by rfl) T.b_len (by decide +kernel) (pa_cons (pv 3) pa_nil)) (pe_ix (ixT K rfl) (pv 1) pe_int (fun _ _ => rfl)) (nomark _)) (pw_or1 (pt_not (pt_val (pe_callB (id := "all") (cAll K rfl rfl) (by rfl) T.b_all (by decide +kernel) (pa_cons (pe_lc (own := [("_law_one", 4)]) (by rfl) sc_law.nd (piL K rfl (pv 3)) (blkOk_by (N := ["_law_script", "_law_house_here", "_law_place_here", "_law_stairs", "_law_one", "_law_k", "_law_draws_here", "_law_goal", "_law_walk_here", "_law_places"]) (sc := defScope s_law) (by decide +kernel))
      (fun _ _ _ _ _ => (pg_name (i := 4) sc_law.nd rfl (Or.inl rfl))) (fun _ _ _ _ _ => pts_nil) (fun _ _ _ _ _ => (peCal K C__law_is_stair rfl rfl rfl rfl rfl (hr.mono (by decide)) (by rfl) (pa_cons (pv 4) pa_nil)))) pa_nil))))))))
        (pss_one (ps_ret pe_bl))
        pss_nil)
      (pss_cons (ps_if (PW.pt (pw_or (pt_not (pt_val (peCal K C__law_holds rfl rfl rfl rfl rfl (hr.mono (by decide)) (by rfl) (pa_cons (pe_ix (ixL K rfl) (pv 3) (pe_ix (ixT K rfl) (pv 2) pe_int (fun _ _ => rfl)) (fun _ _ => rfl)) (pa_cons (pe_ix (ixT K rfl) (pv 2) pe_int (fun _ _ => rfl)) pa_nil))))) (pw_or1 (pt_not (pt_val (peCal K C__law_shut rfl rfl rfl rfl rfl (hr.mono (by decide)) (by rfl) (pa_cons (pv 1) (pa_cons (pv 3) pa_nil))))))))
        (pss_one (ps_ret pe_bl))
        pss_nil)
      (pss_cons (ps_for PassesOwn.never (by rfl) (pi_range2 (by rfl) T.b_range (pa_cons pe_int (pa_cons (pe_callB (id := "max") (call_max2 rfl) (by rfl) T.b_max (by decide +kernel) (pa_cons pe_int (pa_cons (pe_callB (id := "min") (call_min2 rfl) (by rfl) T.b_min (by decide +kernel) (pa_cons (pe_callB (id := "len") (cLen K rfl) (by rfl) T.b_len (by decide +kernel) (pa_cons (pv 0) pa_nil)) (pa_cons pe_int pa_nil))) pa_nil))) pa_nil))) (pg_name (i := 5) sc_law.nd rfl (Or.inl rfl))
        (pss_cons (ps_set (i := 6) sc_law.nd rfl (Or.inl rfl) (peCal K C__law_draws rfl rfl rfl rfl rfl (hr.mono (by decide)) (by rfl) (pa_cons (peCal K C__law_cell rfl rfl rfl rfl rfl (hr.mono (by decide)) (by rfl) (pa_cons (pv 0) (pa_cons (pv 5) pa_nil))) (pa_cons (pe_lst (pa_cons pe_int (pa_cons pe_int pa_nil))) (pa_cons pe_int pa_nil)))))
        (pss_cons (ps_set (i := 7) sc_law.nd rfl (Or.inl rfl) (pe_tup (pa_cons (pe_op op_mod (pe_ix (ixL K rfl) (pv 6) pe_int (fun _ _ => rfl)) (pe_ix (ixT K rfl) (pv 1) pe_int (fun _ _ => rfl))) (pa_cons (pe_ix (ixL K rfl) (pv 6) pe_int (fun _ _ => rfl)) pa_nil))))
        (pss_cons (ps_set (i := 8) sc_law.nd rfl (Or.inl rfl) (peCal K C_shortest rfl rfl rfl rfl rfl hr (by rfl) (pa_cons (pv 1) (pa_cons (pv 2) (pa_cons (pv 7) pa_nil)))))
        (pss_one (ps_if (pt_not (pt_val (peCal K C__law_holds rfl rfl rfl rfl rfl (hr.mono (by decide)) (by rfl) (pa_cons (pe_ix (ixL K rfl) (pv 3) (pe_ix (ixT K rfl) (pv 7) pe_int (fun _ _ => rfl)) (fun _ _ => rfl)) (pa_cons (pe_ix (ixT K rfl) (pv 7) pe_int (fun _ _ => rfl)) pa_nil)))))
          (pss_one (ps_if (pt_cmpR op_notN (pv 8) pe_non (nomark _))
            (pss_one (ps_ret pe_bl))
            pss_nil))
          (pss_cons (ps_if (pt_not (pt_val (peCal K C__law_walk rfl rfl rfl rfl rfl (hr.mono (by decide)) (by rfl) (pa_cons (pv 8) (pa_cons pe_int pa_nil)))))
            (pss_one (ps_ret pe_bl))
            pss_nil)
          (pss_cons (ps_set (i := 9) sc_law.nd rfl (Or.inl rfl) (peCal K C__law_gone rfl rfl rfl rfl rfl (hr.mono (by decide)) (by rfl) (pa_cons (pv 1) (pa_cons (pv 2) (pa_cons (pv 8) pa_nil)))))
          (pss_one (ps_if (PW.pt (pw_or (pt_cmpR op_isN (pv 9) pe_non (nomark _)) (pw_or1 (pt_cmpR (opNeD K rfl hu64) (pe_ix (ixL K rfl) (pv 9) (pe_un un_neg pe_int) (fun _ _ => rfl)) (pv 7) (nomark _)))))
            (pss_one (ps_ret pe_bl))
            pss_nil))))))))))
      (pss_one (ps_ret pe_bl)))))))), fun ds r hn hg => ?_⟩
  clear hu hu64 hu65 hr hn
  obtain ⟨ns, hl, rfl, rfl⟩ := hg
  refine .inl ?_
  have gd := hous_good (celN ns 0) 999999937
  refine yo_seq (yo_asg (ye_call (ya_cons (ye_call (ya_cons (ye_var rfl) (ya_cons ye_int ya_nil)) rfl (show g__law_cell [.list (ns.map .int), .int 0] _ from ⟨ns, 0, by omega, rfl, rfl⟩)) (ya_cons ye_int ya_nil)) rfl (show g__law_house [.int (celN ns 0), .int 999999937] _ from ⟨celN ns 0, 999999937, by omega, rfl, rfl⟩))) ?_
  generalize housN (celN ns 0) 999999937 = h at gd
  refine yo_seq (yo_asg (ye_call (ya_cons (ye_var rfl) (ya_cons (ye_call (ya_cons (ye_var rfl) (ya_cons ye_int ya_nil)) rfl (show g__law_cell [.list (ns.map .int), .int 1] _ from ⟨ns, 1, by omega, rfl, rfl⟩)) (ya_cons ye_int ya_nil))) rfl (show g__law_place [h.enc, .int (celN ns 1), .int 999999929] _ from ⟨h, celN ns 1, 999999929, gd, by omega, rfl, rfl⟩))) ?_
  have hp : (plcN h (celN ns 1) 999999929).1 < h.many := Nat.mod_lt _ gd.pos
  have hc : (plcN h (celN ns 1) 999999929).2 < 13 := drw_lt (ws := [12, 13]) rfl (by omega)
  generalize plcN h (celN ns 1) 999999929 = pl at hp hc
  obtain ⟨p0, c⟩ := pl
  have hp : p0 < h.many := hp
  have hc : c < 13 := hc
  obtain ⟨m, b, N, bs, ts, FA⟩ := facts_some gd hp (by omega : c ≤ 1000)
  have n1 := gd.few
  have n0 := gd.pos
  refine yo_seq (yo_asg (ye_call (ya_cons (ye_var rfl) (ya_cons (ye_var rfl) ya_nil)) rfl (show g_forward _ _ from ⟨h, m, p0, c, b, N, bs, ts, gd, FA.kept, hp, by omega, FA.last, FA.base, FA.step, FA.round, FA.stair, rfl, rfl⟩))) ?_
  have R0 := FA.start
  have RS := FA.shut
  have RM := FA.met
  have RP := FA.per
  clear FA
  generalize rowsF h (kIt h m) p0 c = R at R0 RS RM RP
  generalize hS : (List.range h.many).map (fun q => encS (bs q) (ts q) fun x => R x q) = SS
  have lS : SS.length = h.many := by
    rw [← hS]
    simp
  have aS : ∀ q, q < h.many → atI SS (q : Int) = some (encS (bs q) (ts q) fun x => R x q) := fun q hq => by
    rw [← hS]
    exact at_range hq
  refine yo_seq (yo_if (b := false) (Yt.to (yt_or (yt_not (yt_B (ye_isL (ye_var rfl)))) fun _ => yt_or (yt_test (ye_neI (i := (h.many : Int)) (j := (h.many : Int)) ((ye_lenL (Ye.yl (ye_var rfl))).to (by rw [lS])) (ye_ixT (d := .int h.many) (ye_var rfl) (ye_int (i := 0)) rfl))) fun _ => yt_not (yt_B (Ye.to (ye_all (bs := (List.range h.many).map fun _ => true) (Yf.yl (Yf.to (yf_lcA (as := List.range h.many) (enc := fun q => encS (bs q) (ts q) fun x => R x q) (fun _ => true) (fun _ => .bool true) (yi_list ((ye_var rfl).to (by rw [hS]))) (by rw [List.length_range]; omega) fun i q hq => ⟨_, _, (by simp), yg_name ltr, yt_yes, fun _ => ye_call (ya_cons (ye_var rfl) ya_nil) rfl (show g__law_is_stair _ _ from ⟨bs q, ts q, fun x => R x q, (RP q (List.mem_range.mp (List.mem_of_getElem? hq))).1, (RP q (List.mem_range.mp (List.mem_of_getElem? hq))).2.1, (RP q (List.mem_range.mp (List.mem_of_getElem? hq))).2.2.1, rfl, rfl⟩)⟩) (by rw [List.filter_eq_self.mpr (fun _ _ => rfl), List.map_map]; rfl)))) (congrArg PyData.bool all_true)))) (by rw [decide_eq_true rfl]; rfl)) (fun hb => by cases hb) fun _ => yo_nx) ?_
  refine yo_seq (yo_if (b := false) (Yt.to (yt_or (yt_not (yt_B (ye_call (ya_cons (ye_ixL (d := encS (bs p0) (ts p0) fun x => R x p0) (Ye.yl (ye_var rfl)) (ye_ixT (d := .int p0) (ye_var rfl) (ye_int (i := 0)) rfl) (aS p0 hp)) (ya_cons (ye_ixT (d := .int c) (ye_var rfl) (ye_int (i := 1)) rfl) ya_nil)) rfl (show g__law_holds _ _ from ⟨bs p0, ts p0, c, fun x => R x p0, (RP p0 hp).2.2.1, (RP p0 hp).2.2.2, rfl, rfl⟩)))) fun _ => yt_not (yt_B (ye_call (ya_cons (ye_var rfl) (ya_cons (ye_var rfl) ya_nil)) rfl (show g__law_shut [h.enc, .list SS] (.bool true) from ⟨h, bs, ts, fun q x => R x q, gd, fun q hq => ⟨(RP q hq).1, (RP q hq).2.2.1, (RP q hq).2.2.2⟩, RS, by rw [hS], rfl⟩)))) (by show (!R c p0 || !true) = false; rw [R0]; rfl)) (fun hb => by cases hb) fun _ => yo_nx) ?_
  have hrg : (2 : Int) ≤ max 8 (min (ns.length : Int) 16) ∧ max 8 (min (ns.length : Int) 16) ≤ 16 := by omega
  refine yo_seq (yo_forN (v := fun i => 2 + (i : Int)) (n := (max 8 (min (ns.length : Int) 16) - 2).toNat) (yi_range2 (m := 2) (n := max 8 (min (ns.length : Int) 16)) (ya_cons ye_int (ya_cons (ye_max2 ye_int (ye_min2 ((ye_lenL (Ye.yl (ye_var rfl))).to (by rw [List.length_map])) ye_int)) ya_nil)) (by omega)) (fun _ => [.im (.list (ns.map .int)), .im h.enc, .im (encP (p0, c)), .im (.list SS), .no, .no, .no, .no, .no, .no]) rfl (fun _ => by simp) fun i hi => ?_) (yo_ret ye_bl)
  have ek : (2 : Int) + (i : Int) = ((2 + i : Nat) : Int) := by omega
  refine yo_seq (yo_asg (ye_call (ya_cons (ye_call (ya_cons (ye_var rfl) (ya_cons ((ye_var rfl).to (congrArg PyData.int ek)) ya_nil)) rfl (show g__law_cell _ _ from ⟨ns, 2 + i, by omega, rfl, rfl⟩)) (ya_cons (yf_lst (ya_cons ye_int (ya_cons ye_int ya_nil)) (show (2 : Nat) ≤ 100000 by decide)).ye (ya_cons ye_int ya_nil))) rfl (show g__law_draws [.int (celN ns (2 + i)), encNs [12, 41], .int 999999893] _ from ⟨celN ns (2 + i), 999999893, [12, 41], by omega, by decide, by decide, rfl, rfl⟩))) ?_
  have g1 : drw (celN ns (2 + i)) [12, 41] 999999893 1 < 41 := drw_lt (ws := [12, 41]) rfl (by omega)
  show Yo K _ (List.set _ 6 (.im (encNs ((List.range 2).map (drw (celN ns (2 + i)) [12, 41] 999999893))))) _
  generalize drw (celN ns (2 + i)) [12, 41] 999999893 = d at g1
  refine yo_seq (yo_asg (d := encP (d 0 % h.many, d 1)) (ye_tup (ya_cons (Ye.to (ye_mod (i := (d 0 : Nat)) (j := (h.many : Int)) (ye_dr (n := 2) (k := 0) (ye_var rfl) (ye_int (i := 0)) (by omega)) (ye_ixT (d := .int h.many) (ye_var rfl) (ye_int (i := 0)) rfl) (by omega)) (congrArg PyData.int (show ((d 0 : Nat) : Int) % (h.many : Int) = ((d 0 % h.many : Nat) : Int) by rw [Int.natCast_emod]))) (ya_cons (ye_dr (n := 2) (k := 1) (ye_var rfl) (ye_int (i := 1)) (by omega)) ya_nil)) (show (2 : Nat) ≤ 100000 by decide))) ?_
  have hq : d 0 % h.many < h.many := Nat.mod_lt _ n0
  generalize d 0 % h.many = q0 at hq
  generalize hx : d 1 = x0 at g1
  have nn : h.many * h.many ≤ 12 * 12 := Nat.mul_le_mul n1 n1
  obtain ⟨e, D⟩ := done_some (p := (p0, c)) (top := max c x0 + h.many * h.many) gd hp (by show c ≤ _; omega) (by omega)
  have MT := RM (q0, x0) e hq D
  refine yo_seq (yo_asg (ye_call (ya_cons (ye_var rfl) (ya_cons (ye_var rfl) (ya_cons (ye_var rfl) ya_nil))) rfl (show g_shortest _ _ from ⟨h, (p0, c), (q0, x0), e, gd, hp, hq, by show c ≤ 500; omega, by show x0 ≤ 500; omega, D, rfl, rfl⟩))) ?_
  have I := bfs_inv (p := (p0, c)) (top := max c x0 + h.many * h.many) gd hp (by show c ≤ max c x0 + h.many * h.many; omega) e
  have MT : metE (bfs h (p0, c) (max c x0 + h.many * h.many) e) (q0, x0) = R x0 q0 := MT
  show Yo K _ (List.set _ 8 (.im (resB (bfs h (p0, c) (max c x0 + h.many * h.many) e) (q0, x0)))) _
  have low := D.low
  generalize bfs h (p0, c) (max c x0 + h.many * h.many) e = es at I MT
  have wk : ∀ r : Ent, Wk [Ent.im (.list (ns.map .int)), .im h.enc, .im (encP (p0, c)), .im (.list SS), .no, .im (.int (2 + (i : Int))), .im (encNs ((List.range 2).map d)), .im (encP (q0, x0)), .im (resB es (q0, x0)), r] [.im (.list (ns.map .int)), .im h.enc, .im (encP (p0, c)), .im (.list SS), .no, .no, .no, .no, .no, .no] := fun r => .same (.same (.same (.same (.same (.drop (.drop (.drop (.drop (.drop .nil)))))))))
  subst hx
  refine yo_if (b := !R (d 1) q0) (yt_not (yt_B (ye_call (ya_cons (ye_ixL (d := encS (bs q0) (ts q0) fun x => R x q0) (Ye.yl (ye_var rfl)) (ye_ixT (d := .int q0) (ye_var rfl) (ye_int (i := 0)) rfl) (aS q0 hq)) (ya_cons (ye_ixT (d := .int (d 1)) (ye_var rfl) (ye_int (i := 1)) rfl) ya_nil)) rfl (show g__law_holds _ _ from ⟨bs q0, ts q0, (d 1), fun x => R x q0, (RP q0 hq).2.2.1, (RP q0 hq).2.2.2, rfl, rfl⟩)))) (fun hb => ?_) fun hb => ?_
  · rw [Bool.not_eq_true'] at hb
    rw [hb] at MT
    have z : resB es (q0, d 1) = .none := by
      unfold resB
      cases f : es.find? fun e => decide (e.pl = (q0, d 1)) with
      | none => rfl
      | some a =>
        have f1 := List.mem_of_find?_eq_some f
        have f2 := List.find?_some f
        rw [metE_iff.mpr ⟨a, f1, of_decide_eq_true f2⟩] at MT
        cases MT
    exact yo_weak (yo_if (b := false) (Yt.to (yt_test (ye_notN (ye_var rfl))) (by rw [z]; rfl)) (fun hb => by cases hb) fun _ => yo_nx) (wk .no)
  · rw [Bool.not_eq_false'] at hb
    rw [hb] at MT
    obtain ⟨a, ha, ap⟩ : ∃ a ∈ es, a.pl = (q0, d 1) ∧ resB es (q0, d 1) = encNs a.back.reverse := by
      unfold resB
      cases f : es.find? fun e => decide (e.pl = (q0, d 1)) with
      | none =>
        obtain ⟨a, a1, a2⟩ := metE_iff.mp MT
        have f1 := List.find?_eq_none.mp f a a1
        rw [decide_eq_true a2] at f1
        exact absurd rfl f1
      | some a =>
        have f2 := List.find?_some f
        exact ⟨a, List.mem_of_find?_eq_some f, of_decide_eq_true f2, rfl⟩
    obtain ⟨ap, ar⟩ := ap
    have dp := I.deep a ha
    obtain ⟨ps, s0, s1, s2⟩ := run_pls (I.run a ha)
    rw [ap] at s1
    have sh : SeqAt.shaped (encP (ps a.back.length)) = true := eqf_encP.shaped (by decide) _
    have sh2 : SeqAt.shaped (encP (q0, d 1)) = true := eqf_encP.shaped (by decide) _
    refine yo_seq (yo_if (b := false) (yt_not (yt_B (ye_call (ya_cons ((ye_var rfl).to ar) (ya_cons ye_int ya_nil)) rfl (show g__law_walk [encNs a.back.reverse, .int 20000] (.bool true) from ⟨a.back.reverse, by rw [List.length_reverse]; omega, rfl, rfl⟩)))) (fun hb => by cases hb) fun _ => yo_nx) ?_
    refine yo_seq (yo_asg (ye_call (ya_cons (ye_var rfl) (ya_cons ((ye_var rfl).to (by rw [← s0])) (ya_cons ((ye_var rfl).to ar) ya_nil))) rfl (show g__law_gone _ _ from ⟨h, a.back.reverse, ps, gd, by rw [List.length_reverse]; omega, s2, rfl, rfl⟩))) ?_
    rw [List.length_reverse]
    refine yo_weak (yo_if (b := false) (Yt.to (yt_or (yt_test (ye_isN (ye_var rfl))) fun _ => yt_test (ye_neD (ye_ixL (Ye.yl (ye_var rfl)) (ye_neg (ye_int (i := 1))) at_last) (ye_var rfl) sh sh2)) ?_) (fun hb => by cases hb) fun _ => yo_nx) (wk _)
    rw [eqf_encP.eq, decide_eq_true s1]
    rfl


end Sr
set_option Elab.async false
set_option linter.all false
set_option maxRecDepth 100000
set_option maxHeartbeats 4000000
set_option autoImplicit false
namespace Sr
open PySem L2

theorem ok__law_ring_house {P : Program} {w : World} {K : PySem.W.Frag} {mg : Str → Option Value} {base : Heap} {aR : Addr} {des : Array DictEntry} {dn : Nat} (T : Txt K w mg aR des dn) (C__law_draws : Cal P w K mg base 2 "_law_draws" ["_law_cell_here", "_law_widths", "_law_prime"] g__law_draws) : Cal P w K mg base 3 "_law_ring_house" ["_law_cell_here", "_law_prime"] g__law_ring_house := by
  obtain ⟨f, fd, F, hm⟩ := T.f__law_ring_house
  refine ⟨f, fd, ?_, hm, F.kp, F.binds fun _ _ _ _ _ _ us hl => match us, hl with | [_, _], _ => rfl⟩
  refine fn_by F sc__law_ring_house (by decide) fun cdv A outer s H E hr => ?_
  have hu := hu_of hr
  have hu64 := hr.units
  have hu65 : (A.deeper (PyProof.Rows.envOfC "_law_ring_house" (defScope s__law_ring_house) s.heap.objs.size f cdv)).units + 65 < cLine := by
    have := hr.un
    omega
  refine ⟨_, (pss_cons (ps_set (i := 2) sc__law_ring_house.nd rfl (Or.inl rfl) (peCal K C__law_draws rfl rfl rfl rfl rfl hr (by rfl) (pa_cons (pv 0) (pa_cons (pe_lst (pa_cons pe_int (pa_cons pe_int (pa_cons pe_int (pa_cons pe_int (pa_cons pe_int (pa_cons pe_int (pa_cons pe_int pa_nil)))))))) (pa_cons (pv 1) pa_nil)))))
      (pss_cons (ps_par (i := 3) (j := 4) (by rfl) sc__law_ring_house.nd rfl rfl (by decide) rfl rfl (pa_cons (pe_op op_add pe_int (pe_ix (ixL K rfl) (pv 2) pe_int (fun _ _ => rfl))) (pa_cons (pe_op op_add pe_int (pe_ix (ixL K rfl) (pv 2) pe_int (fun _ _ => rfl))) pa_nil)) (by rfl))
      (pss_cons (ps_set (i := 5) sc__law_ring_house.nd rfl (Or.inl rfl) (pe_op op_add (pe_op op_add (pv 3) (pv 4)) pe_int))
      (pss_cons (ps_set (i := 6) sc__law_ring_house.nd rfl (Or.inl rfl) (pe_lst (pa_cons (pe_tup (pa_cons pe_int (pa_cons pe_str (pa_cons pe_int (pa_cons pe_str pa_nil))))) (pa_cons (pe_tup (pa_cons pe_int (pa_cons (pe_ix (ixL K rfl) (pe_lst (pa_cons pe_str (pa_cons pe_str pa_nil))) (pe_ix (ixL K rfl) (pv 2) pe_int (fun _ _ => rfl)) (fun _ _ => rfl)) (pa_cons (pe_op op_add pe_int (pv 3)) (pa_cons pe_str pa_nil))))) pa_nil))))
      (pss_cons (ps_for PassesOwn.never (by rfl) (pi_range1 (by rfl) T.b_range (pa_cons (pv 3) pa_nil)) (pg_name (i := 7) sc__law_ring_house.nd rfl (Or.inl rfl))
        (pss_one (ps_expr (peApp K rfl (pv 6) (pe_tup (pa_cons (pe_op op_add pe_int (pv 7)) (pa_cons pe_str (pa_cons (pe_op op_add pe_int (pe_op op_mod (pe_op op_add (pv 7) pe_int) (pv 3))) (pa_cons pe_str pa_nil)))))))))
      (pss_cons (ps_for PassesOwn.never (by rfl) (pi_range1 (by rfl) T.b_range (pa_cons (pv 4) pa_nil)) (pg_name (i := 7) sc__law_ring_house.nd rfl (Or.inl rfl))
        (pss_one (ps_expr (peApp K rfl (pv 6) (pe_tup (pa_cons (pe_op op_add (pe_op op_add pe_int (pv 3)) (pv 7)) (pa_cons (pe_ix (ixL K rfl) (pe_lst (pa_cons pe_str (pa_cons pe_str pa_nil))) (pe_ix (ixL K rfl) (pv 2) pe_int (fun _ _ => rfl)) (fun _ _ => rfl)) (pa_cons (pe_op op_add (pe_op op_add pe_int (pv 3)) (pe_op op_mod (pe_op op_add (pv 7) pe_int) (pv 4))) (pa_cons pe_str pa_nil)))))))))
      (pss_cons (ps_expr (peApp K rfl (pv 6) (pe_tup (pa_cons pe_int (pa_cons pe_str (pa_cons (pe_op op_sub (pv 5) pe_int) (pa_cons pe_str pa_nil)))))))
      (pss_cons (ps_expr (peApp K rfl (pv 6) (pe_tup (pa_cons (pe_op op_add pe_int (pv 3)) (pa_cons pe_str (pa_cons (pe_op op_sub (pv 5) pe_int) (pa_cons pe_str pa_nil)))))))
      (pss_cons (ps_if (pt_cmpR op_eq (pe_ix (ixL K rfl) (pv 2) pe_int (fun _ _ => rfl)) pe_int (nomark _))
        (pss_one (ps_expr (peApp K rfl (pv 6) (pe_tup (pa_cons (pe_op op_sub (pv 5) pe_int) (pa_cons pe_str (pa_cons (pe_op op_sub (pv 5) pe_int) (pa_cons pe_str pa_nil))))))))
        pss_nil)
      (pss_cons (ps_if (pt_cmpR op_eq (pe_ix (ixL K rfl) (pv 2) pe_int (fun _ _ => rfl)) pe_int (nomark _))
        (pss_one (ps_expr (peApp K rfl (pv 6) (pe_tup (pa_cons (pe_op op_sub (pv 5) pe_int) (pa_cons pe_str (pa_cons pe_int (pa_cons pe_str pa_nil))))))))
        pss_nil)
      (pss_cons (ps_if (pt_cmpR op_eq (pe_ix (ixL K rfl) (pv 2) pe_int (fun _ _ => rfl)) pe_int (nomark _))
        (pss_one (ps_set (i := 6) sc__law_ring_house.nd rfl (Or.inl rfl) (peRev K rfl (pv 6))))
        pss_nil)
      (pss_one (ps_ret (pe_tup (pa_cons (pv 5) (pa_cons (pe_callTy (T := "tuple") (cTuple K rfl) (by rfl) T.b_tuple (by decide +kernel) (pa_cons (pv 6) pa_nil)) pa_nil)))))))))))))))), fun ds r hn hg => ?_⟩
  clear hu hu64 hu65 hr hn
  obtain ⟨cell, prime, h1, rfl, rfl⟩ := hg
  refine .inl ?_
  refine yo_seq (yo_asg (d := encNs ((List.range 7).map (drw cell ringD prime))) (ye_call (ya_cons (ye_var rfl) (ya_cons (yf_lst (ya_cons ye_int (ya_cons ye_int (ya_cons ye_int (ya_cons ye_int (ya_cons ye_int (ya_cons ye_int (ya_cons ye_int ya_nil))))))) (show (7 : Nat) ≤ 100000 by decide)).ye (ya_cons (ye_var rfl) ya_nil))) rfl (show g__law_draws _ _ from ⟨cell, prime, ringD, h1, by decide, by decide, rfl, rfl⟩))) ?_
  have d0 : drw cell ringD prime 0 < 5 := drw_lt (ws := ringD) rfl (by omega)
  have d1 : drw cell ringD prime 1 < 5 := drw_lt (ws := ringD) rfl (by omega)
  have d2 : drw cell ringD prime 2 < 2 := drw_lt (ws := ringD) rfl (by omega)
  have d3 : drw cell ringD prime 3 < 2 := drw_lt (ws := ringD) rfl (by omega)
  have d6 : drw cell ringD prime 6 < 2 := drw_lt (ws := ringD) rfl (by omega)
  generalize drw cell ringD prime = d at d0 d1 d2 d3 d6
  have hA : ∃ A B, A = 1 + d 0 ∧ B = 1 + d 1 := ⟨_, _, rfl, rfl⟩
  obtain ⟨A, B, eA, eB⟩ := hA
  refine yo_seq (yo_par (x := .int (A : Nat)) (y := .int (B : Nat)) (ya_cons (Ye.to (ye_add ye_int (ye_dr (n := 7) (k := 0) (ye_var rfl) (ye_int (i := 0)) (by omega))) (congrArg PyData.int (by omega))) (ya_cons (Ye.to (ye_add ye_int (ye_dr (n := 7) (k := 1) (ye_var rfl) (ye_int (i := 1)) (by omega))) (congrArg PyData.int (by omega))) ya_nil))) ?_
  refine yo_seq (yo_asg (d := .int ((A + B + 2 : Nat) : Int)) (Ye.to (ye_add (ye_add (ye_var rfl) (ye_var rfl)) ye_int) (congrArg PyData.int (by omega)))) ?_
  let W : List Way → List Ent := fun l => [.im (.int cell), .im (.int prime), .im (encNs ((List.range 7).map d)), .im (.int (A : Nat)), .im (.int (B : Nat)), .im (.int (A + B + 2 : Nat)), .ml (l.map Way.enc), .no]
  have X0 : [⟨0, .stay, 1, 97⟩, ⟨0, two .stay .zero (d 2), 1 + A, 98⟩] ++ (List.range 0).map (fun k => (⟨1 + k, .up, 1 + (k + 1) % A, 97⟩ : Way)) = [⟨0, .stay, 1, 97⟩, ⟨0, two .stay .zero (d 2), 1 + A, 98⟩] := rfl
  refine yo_seq (e1 := W ([⟨0, .stay, 1, 97⟩, ⟨0, two .stay .zero (d 2), 1 + A, 98⟩] ++ (List.range 0).map (fun k => ⟨1 + k, .up, 1 + (k + 1) % A, 97⟩))) (Yo.to (yo_asgM (xs := [Way.enc ⟨0, .stay, 1, 97⟩, Way.enc ⟨0, two .stay .zero (d 2), 1 + A, 98⟩]) (yf_lst (ya_cons (ye_way (v := ⟨0, .stay, 1, 97⟩) ye_int ye_str ye_int (ye_str.to (congrArg PyData.str chr_a))) (ya_cons (ye_way (v := ⟨0, two .stay .zero (d 2), 1 + A, 98⟩) ye_int (ye_ixL (Yf.yl (yf_lst (ya_cons ye_str (ya_cons ye_str ya_nil)) (show (2 : Nat) ≤ 100000 by decide))) (ye_dr (n := 7) (k := 2) (ye_var rfl) (ye_int (i := 2)) (by omega)) ((at_two d2).trans (congrArg some (two_map (fun x : Dd => PyData.str x.str) .stay .zero (d 2))))) (Ye.to (ye_add ye_int (ye_var rfl)) (congrArg PyData.int (show (1 : Int) + (A : Int) = ((1 + A : Nat) : Int) by omega))) (ye_str.to (congrArg PyData.str chr_b))) ya_nil)) (show (2 : Nat) ≤ 100000 by decide))) rfl) ?_
  refine yo_seq (yo_forN (v := upN) (n := A) (yi_range1 (n := (A : Int)) (ya_cons (ye_var rfl) ya_nil) (by omega) (by omega)) (fun i => W ([⟨0, .stay, 1, 97⟩, ⟨0, two .stay .zero (d 2), 1 + A, 98⟩] ++ (List.range i).map (fun k => ⟨1 + k, .up, 1 + (k + 1) % A, 97⟩))) rfl (fun _ => by simp [W]) fun i hi => ?_) ?_
  · refine Yo.to (yo_weak (yo_appW (v := ⟨1 + i, .up, 1 + (i + 1) % A, 97⟩) rfl (ye_way (Ye.to (ye_add ye_int (ye_var rfl)) (congrArg PyData.int (show (1 : Int) + (i : Int) = ((1 + i : Nat) : Int) by omega))) ye_str (Ye.to (ye_add (ye_int (i := 1)) (ye_mod (ye_add (ye_var rfl) (ye_int (i := 1))) (ye_var rfl) (by omega))) (congrArg PyData.int (show (1 : Int) + ((i : Int) + 1) % (A : Int) = ((1 + (i + 1) % A : Nat) : Int) by rw [modc]; omega))) (ye_str.to (congrArg PyData.str chr_a))) (by simp; omega)) (.same (.same (.same (.same (.same (.same (.same (.drop .nil))))))))) ?_
    show W _ = W _
    rw [List.append_assoc, List.range_succ, List.map_append]
    rfl
  generalize hL : [⟨0, .stay, 1, 97⟩, ⟨0, two .stay .zero (d 2), 1 + A, 98⟩] ++ (List.range A).map (fun k => (⟨1 + k, .up, 1 + (k + 1) % A, 97⟩ : Way)) = L
  have lL : L.length = 2 + A := by
    rw [← hL]
    simp
    omega
  refine yo_seq (yo_forN (v := upN) (n := B) (yi_range1 (n := (B : Int)) (ya_cons (ye_var rfl) ya_nil) (by omega) (by omega)) (fun i => W (L ++ (List.range i).map (fun k => ⟨1 + A + k, two .up .down (d 3), 1 + A + (k + 1) % B, 98⟩))) (by show W _ = W _; rw [List.range_zero, List.map_nil, List.append_nil]) (fun _ => by simp [W]) fun i hi => ?_) ?_
  · refine Yo.to (yo_weak (yo_appW (v := ⟨1 + A + i, two .up .down (d 3), 1 + A + (i + 1) % B, 98⟩) rfl (ye_way (Ye.to (ye_add (ye_add ye_int (ye_var rfl)) (ye_var rfl)) (congrArg PyData.int (show (1 : Int) + (A : Int) + (i : Int) = ((1 + A + i : Nat) : Int) by omega))) (ye_ixL (Yf.yl (yf_lst (ya_cons ye_str (ya_cons ye_str ya_nil)) (show (2 : Nat) ≤ 100000 by decide))) (ye_dr (n := 7) (k := 3) (ye_var rfl) (ye_int (i := 3)) (by omega)) ((at_two d3).trans (congrArg some (two_map (fun x : Dd => PyData.str x.str) .up .down (d 3))))) (Ye.to (ye_add (ye_add (ye_int (i := 1)) (ye_var rfl)) (ye_mod (ye_add (ye_var rfl) (ye_int (i := 1))) (ye_var rfl) (by omega))) (congrArg PyData.int (show (1 : Int) + (A : Int) + ((i : Int) + 1) % (B : Int) = ((1 + A + (i + 1) % B : Nat) : Int) by rw [modc]; omega))) (ye_str.to (congrArg PyData.str chr_b))) (by simp; omega)) (.same (.same (.same (.same (.same (.same (.same (.drop .nil))))))))) ?_
    show W _ = W _
    rw [List.append_assoc, List.range_succ, List.map_append]
    rfl
  generalize hM : L ++ (List.range B).map (fun k => (⟨1 + A + k, two .up .down (d 3), 1 + A + (k + 1) % B, 98⟩ : Way)) = M
  have lM : M.length = 2 + A + B := by
    rw [← hM]
    simp
    omega
  refine yo_seq (yo_appW (v := ⟨1, .stay, A + B + 2 - 1, 99⟩) rfl (ye_way ye_int ye_str (Ye.to (ye_sub (ye_var rfl) ye_int) (congrArg PyData.int (show ((A + B + 2 : Nat) : Int) - 1 = ((A + B + 2 - 1 : Nat) : Int) by omega))) (ye_str.to (congrArg PyData.str chr_c))) (by omega)) ?_
  refine yo_seq (yo_appW (v := ⟨1 + A, .stay, A + B + 2 - 1, 97⟩) rfl (ye_way (Ye.to (ye_add ye_int (ye_var rfl)) (congrArg PyData.int (show (1 : Int) + (A : Int) = ((1 + A : Nat) : Int) by omega))) ye_str (Ye.to (ye_sub (ye_var rfl) ye_int) (congrArg PyData.int (show ((A + B + 2 : Nat) : Int) - 1 = ((A + B + 2 - 1 : Nat) : Int) by omega))) (ye_str.to (congrArg PyData.str chr_a))) (by simp; omega)) ?_
  generalize hN : M ++ [⟨1, .stay, A + B + 2 - 1, 99⟩] ++ [⟨1 + A, .stay, A + B + 2 - 1, 97⟩] = N
  have lN : N.length = 4 + A + B := by
    rw [← hN]
    simp
    omega
  have eq0 : ∀ {es : List Ent} {k : Nat}, k < 7 → es[2]? = some (.im (encNs ((List.range 7).map d))) → Yt K (tTest (tOp rEq (tOp (rIxL K) (tVar 2) (tC (.int (k : Nat)))) (tC (.int 0)))) es (decide (d k = 0)) := fun hk q => Yt.to (yt_test (ye_eqI (i := (d _ : Nat)) (j := 0) (ye_dr (ye_var q) ye_int hk) ye_int)) (decide_eq_decide.mpr (by omega))
  refine yo_seq (e1 := W (if d 4 = 0 then N ++ [⟨A + B + 2 - 1, .down, A + B + 2 - 1, 99⟩] else N)) (yo_if (eq0 (k := 4) (by omega) rfl) (fun hb => Yo.to (yo_appW (v := ⟨A + B + 2 - 1, .down, A + B + 2 - 1, 99⟩) rfl (ye_way (Ye.to (ye_sub (ye_var rfl) ye_int) (congrArg PyData.int (show ((A + B + 2 : Nat) : Int) - 1 = ((A + B + 2 - 1 : Nat) : Int) by omega))) ye_str (Ye.to (ye_sub (ye_var rfl) ye_int) (congrArg PyData.int (show ((A + B + 2 : Nat) : Int) - 1 = ((A + B + 2 - 1 : Nat) : Int) by omega))) (ye_str.to (congrArg PyData.str chr_c))) (by omega)) (by rw [if_pos (of_decide_eq_true hb)]; rfl)) fun hb => Yo.to yo_nx (by rw [if_neg (of_decide_eq_false hb)] <;> rfl)) ?_
  generalize hO : (if d 4 = 0 then N ++ [⟨A + B + 2 - 1, .down, A + B + 2 - 1, 99⟩] else N) = O
  have lO : O.length ≤ 5 + A + B := by
    rw [← hO]
    split
    · rw [List.length_append, lN]
      simp
      omega
    · omega
  refine yo_seq (e1 := W (if d 5 = 0 then O ++ [⟨A + B + 2 - 1, .zero, 0, 98⟩] else O)) (yo_if (eq0 (k := 5) (by omega) rfl) (fun hb => Yo.to (yo_appW (v := ⟨A + B + 2 - 1, .zero, 0, 98⟩) rfl (ye_way (Ye.to (ye_sub (ye_var rfl) ye_int) (congrArg PyData.int (show ((A + B + 2 : Nat) : Int) - 1 = ((A + B + 2 - 1 : Nat) : Int) by omega))) ye_str ye_int (ye_str.to (congrArg PyData.str chr_b))) (by omega)) (by rw [if_pos (of_decide_eq_true hb)]; rfl)) fun hb => Yo.to yo_nx (by rw [if_neg (of_decide_eq_false hb)] <;> rfl)) ?_
  generalize hV : (if d 5 = 0 then O ++ [⟨A + B + 2 - 1, .zero, 0, 98⟩] else O) = V
  refine yo_seq (e1 := W (if d 6 = 1 then V.reverse else V)) (yo_if (b := decide (d 6 = 1)) (Yt.to (yt_test (ye_eqI (i := (d 6 : Nat)) (j := 1) (ye_dr (n := 7) (k := 6) (ye_var rfl) (ye_int (i := 6)) (by omega)) ye_int)) (decide_eq_decide.mpr (by omega))) (fun hb => Yo.to (yo_asgM (yf_rev (yl_var rfl))) (by rw [if_pos (of_decide_eq_true hb), ← List.map_reverse]; rfl)) fun hb => Yo.to yo_nx (by rw [if_neg (of_decide_eq_false hb)] <;> rfl)) ?_
  refine yo_ret (Ye.to (ye_tup (ya_cons (ye_var rfl) (ya_cons (ye_tupL (yl_var rfl)) ya_nil)) (show (2 : Nat) ≤ 100000 by decide)) ?_)
  have e : ringW d = V := by
    unfold ringW ringB ringA
    rw [← eA, ← eB, hL, hM, hN]
    show (if d 5 = 0 then (if d 4 = 0 then N ++ [⟨A + B + 2 - 1, .down, A + B + 2 - 1, 99⟩] else N) ++ [⟨A + B + 2 - 1, .zero, 0, 98⟩] else (if d 4 = 0 then N ++ [⟨A + B + 2 - 1, .down, A + B + 2 - 1, 99⟩] else N)) = V
    rw [hO, hV]
  unfold ringH
  rw [e, ← eA, ← eB]
  rfl

theorem ok__law_gate_house {P : Program} {w : World} {K : PySem.W.Frag} {mg : Str → Option Value} {base : Heap} {aR : Addr} {des : Array DictEntry} {dn : Nat} (T : Txt K w mg aR des dn) (C__law_draws : Cal P w K mg base 2 "_law_draws" ["_law_cell_here", "_law_widths", "_law_prime"] g__law_draws) (C__law_unlike : Cal P w K mg base 1 "_law_unlike" ["_law_ways"] g__law_unlike) : Cal P w K mg base 3 "_law_gate_house" ["_law_cell_here", "_law_prime"] g__law_gate_house := by
  obtain ⟨f, fd, F, hm⟩ := T.f__law_gate_house
  refine ⟨f, fd, ?_, hm, F.kp, F.binds fun _ _ _ _ _ _ us hl => match us, hl with | [_, _], _ => rfl⟩
  refine fn_by F sc__law_gate_house (by decide) fun cdv A outer s H E hr => ?_
  have hu := hu_of hr
  have hu64 := hr.units
  have hu65 : (A.deeper (PyProof.Rows.envOfC "_law_gate_house" (defScope s__law_gate_house) s.heap.objs.size f cdv)).units + 65 < cLine := by
    have := hr.un
    omega
  refine ⟨_, (pss_cons (ps_set (i := 2) sc__law_gate_house.nd rfl (Or.inl rfl) (peCal K C__law_draws rfl rfl rfl rfl rfl hr (by rfl) (pa_cons (pv 0) (pa_cons (pe_lst (pa_cons pe_int (pa_cons pe_int (pa_cons pe_int (pa_cons pe_int (pa_cons pe_int (pa_cons pe_int (pa_cons pe_int pa_nil)))))))) (pa_cons (pv 1) pa_nil)))))
      (pss_cons (ps_par (i := 3) (j := 4) (by rfl) sc__law_gate_house.nd rfl rfl (by decide) rfl rfl (pa_cons (pe_op op_add pe_int (pe_ix (ixL K rfl) (pv 2) pe_int (fun _ _ => rfl))) (pa_cons (pe_op op_add pe_int (pe_ix (ixL K rfl) (pv 2) pe_int (fun _ _ => rfl))) pa_nil)) (by rfl))
      (pss_cons (ps_set (i := 5) sc__law_gate_house.nd rfl (Or.inl rfl) (pe_op op_add (pe_op op_add (pv 3) (pv 4)) pe_int))
      (pss_cons (ps_set (i := 6) sc__law_gate_house.nd rfl (Or.inl rfl) (pe_lst pa_nil))
      (pss_cons (ps_for PassesOwn.never (by rfl) (pi_range1 (by rfl) T.b_range (pa_cons (pv 3) pa_nil)) (pg_name (i := 7) sc__law_gate_house.nd rfl (Or.inl rfl))
        (pss_one (ps_expr (peApp K rfl (pv 6) (pe_tup (pa_cons (pv 7) (pa_cons pe_str (pa_cons (pe_op op_mod (pe_op op_add (pv 7) pe_int) (pv 3)) (pa_cons (pe_ix ix_str pe_str (pe_ix (ixL K rfl) (pv 2) pe_int (fun _ _ => rfl)) (fun _ _ => rfl)) pa_nil)))))))))
      (pss_cons (ps_expr (peApp K rfl (pv 6) (pe_tup (pa_cons (pe_op op_mod (pe_ix (ixL K rfl) (pv 2) pe_int (fun _ _ => rfl)) (pv 3)) (pa_cons pe_str (pa_cons (pv 3) (pa_cons pe_str pa_nil)))))))
      (pss_cons (ps_for PassesOwn.never (by rfl) (pi_range1 (by rfl) T.b_range (pa_cons (pv 4) pa_nil)) (pg_name (i := 7) sc__law_gate_house.nd rfl (Or.inl rfl))
        (pss_one (ps_expr (peApp K rfl (pv 6) (pe_tup (pa_cons (pe_op op_add (pv 3) (pv 7)) (pa_cons pe_str (pa_cons (pe_op op_add (pv 3) (pe_op op_mod (pe_op op_add (pv 7) pe_int) (pv 4))) (pa_cons pe_str pa_nil)))))))))
      (pss_cons (ps_expr (peApp K rfl (pv 6) (pe_tup (pa_cons (pe_op op_add (pv 3) (pe_op op_mod (pe_ix (ixL K rfl) (pv 2) pe_int (fun _ _ => rfl)) (pv 4))) (pa_cons pe_str (pa_cons (pe_op op_sub (pv 5) pe_int) (pa_cons pe_str pa_nil)))))))
      (pss_cons (ps_expr (peApp K rfl (pv 6) (pe_tup (pa_cons (pe_op op_sub (pv 5) pe_int) (pa_cons (pe_ix (ixL K rfl) (pe_lst (pa_cons pe_str (pa_cons pe_str pa_nil))) (pe_ix (ixL K rfl) (pv 2) pe_int (fun _ _ => rfl)) (fun _ _ => rfl)) (pa_cons (pe_ix (ixL K rfl) (pe_lst (pa_cons pe_int (pa_cons (pe_op op_sub (pv 5) pe_int) pa_nil))) (pe_ix (ixL K rfl) (pv 2) pe_int (fun _ _ => rfl)) (fun _ _ => rfl)) (pa_cons pe_str pa_nil)))))))
      (pss_one (ps_ret (pe_tup (pa_cons (pv 5) (pa_cons (peCal K C__law_unlike rfl rfl rfl rfl rfl (hr.mono (by decide)) (by rfl) (pa_cons (pv 6) pa_nil)) pa_nil)))))))))))))), fun ds r hn hg => ?_⟩
  clear hu hu64 hu65 hr hn
  obtain ⟨cell, prime, h1, rfl, rfl⟩ := hg
  refine .inl ?_
  refine yo_seq (yo_asg (d := encNs ((List.range 7).map (drw cell gateD prime))) (ye_call (ya_cons (ye_var rfl) (ya_cons (yf_lst (ya_cons ye_int (ya_cons ye_int (ya_cons ye_int (ya_cons ye_int (ya_cons ye_int (ya_cons ye_int (ya_cons ye_int ya_nil))))))) (show (7 : Nat) ≤ 100000 by decide)).ye (ya_cons (ye_var rfl) ya_nil))) rfl (show g__law_draws _ _ from ⟨cell, prime, gateD, h1, by decide, by decide, rfl, rfl⟩))) ?_
  have d0 : drw cell gateD prime 0 < 6 := drw_lt (ws := gateD) rfl (by omega)
  have d1 : drw cell gateD prime 1 < 5 := drw_lt (ws := gateD) rfl (by omega)
  have d4 : drw cell gateD prime 4 < 2 := drw_lt (ws := gateD) rfl (by omega)
  have d5 : drw cell gateD prime 5 < 2 := drw_lt (ws := gateD) rfl (by omega)
  have d6 : drw cell gateD prime 6 < 2 := drw_lt (ws := gateD) rfl (by omega)
  generalize drw cell gateD prime = d at d0 d1 d4 d5 d6
  have hA : ∃ A B, A = 1 + d 0 ∧ B = 1 + d 1 := ⟨_, _, rfl, rfl⟩
  obtain ⟨A, B, eA, eB⟩ := hA
  refine yo_seq (yo_par (x := .int (A : Nat)) (y := .int (B : Nat)) (ya_cons (Ye.to (ye_add ye_int (ye_dr (n := 7) (k := 0) (ye_var rfl) (ye_int (i := 0)) (by omega))) (congrArg PyData.int (by omega))) (ya_cons (Ye.to (ye_add ye_int (ye_dr (n := 7) (k := 1) (ye_var rfl) (ye_int (i := 1)) (by omega))) (congrArg PyData.int (by omega))) ya_nil))) ?_
  refine yo_seq (yo_asg (d := .int ((A + B + 1 : Nat) : Int)) (Ye.to (ye_add (ye_add (ye_var rfl) (ye_var rfl)) ye_int) (congrArg PyData.int (by omega)))) ?_
  let W : List Way → List Ent := fun l => [.im (.int cell), .im (.int prime), .im (encNs ((List.range 7).map d)), .im (.int (A : Nat)), .im (.int (B : Nat)), .im (.int (A + B + 1 : Nat)), .ml (l.map Way.enc), .no]
  refine yo_seq (e1 := W ((List.range 0).map (fun k => ⟨k, .up, (k + 1) % A, two 97 98 (d 4)⟩))) (Yo.to (yo_asgM (yf_lst ya_nil (show (0 : Nat) ≤ 100000 by decide))) rfl) ?_
  have sg : atI (Str.cps "ab").toList ((d 4 : Nat) : Int) = some (two 97 98 (d 4)) := by
    rw [cps_ab]
    rcases (show d 4 = 0 ∨ d 4 = 1 by omega) with z | z <;> rw [z] <;> rfl
  refine yo_seq (yo_forN (v := upN) (n := A) (yi_range1 (n := (A : Int)) (ya_cons (ye_var rfl) ya_nil) (by omega) (by omega)) (fun i => W ((List.range i).map (fun k => ⟨k, .up, (k + 1) % A, two 97 98 (d 4)⟩))) rfl (fun _ => by simp [W]) fun i hi => ?_) ?_
  · refine Yo.to (yo_weak (yo_appW (v := ⟨i, .up, (i + 1) % A, two 97 98 (d 4)⟩) rfl (ye_way (ye_var rfl) ye_str (Ye.to (ye_mod (ye_add (ye_var rfl) (ye_int (i := 1))) (ye_var rfl) (by omega)) (congrArg PyData.int (modc i A))) (ye_ixS ye_str (ye_dr (n := 7) (k := 4) (ye_var rfl) (ye_int (i := 4)) (by omega)) (show Str.length "ab" ≤ 100000 by decide +kernel) sg)) (by simp; omega)) (.same (.same (.same (.same (.same (.same (.same (.drop .nil))))))))) ?_
    show W _ = W _
    rw [List.range_succ, List.map_append]
    rfl
  generalize hL : (List.range A).map (fun k => (⟨k, .up, (k + 1) % A, two 97 98 (d 4)⟩ : Way)) = L
  have lL : L.length = A := by
    rw [← hL]
    simp
  refine yo_seq (e1 := W (L ++ [⟨d 2 % A, .stay, A, 98⟩])) (Yo.to (yo_appW (v := ⟨d 2 % A, .stay, A, 98⟩) rfl (ye_way (Ye.to (ye_mod (ye_dr (n := 7) (k := 2) (ye_var rfl) (ye_int (i := 2)) (by omega)) (ye_var rfl) (by omega)) (congrArg PyData.int (show ((d 2 : Nat) : Int) % (A : Int) = ((d 2 % A : Nat) : Int) by rw [Int.natCast_emod]))) ye_str (ye_var rfl) (ye_str.to (congrArg PyData.str chr_b))) (by omega)) rfl) ?_
  generalize hM : L ++ [⟨d 2 % A, .stay, A, 98⟩] = M
  have lM : M.length = A + 1 := by
    rw [← hM]
    simp
    omega
  refine yo_seq (yo_forN (v := upN) (n := B) (yi_range1 (n := (B : Int)) (ya_cons (ye_var rfl) ya_nil) (by omega) (by omega)) (fun i => W (M ++ (List.range i).map (fun k => ⟨A + k, .down, A + (k + 1) % B, 97⟩))) (by show W _ = W _; rw [List.range_zero, List.map_nil, List.append_nil]) (fun _ => by simp [W]) fun i hi => ?_) ?_
  · refine Yo.to (yo_weak (yo_appW (v := ⟨A + i, .down, A + (i + 1) % B, 97⟩) rfl (ye_way (Ye.to (ye_add (ye_var rfl) (ye_var rfl)) (congrArg PyData.int (show (A : Int) + (i : Int) = ((A + i : Nat) : Int) by omega))) ye_str (Ye.to (ye_add (ye_var rfl) (ye_mod (ye_add (ye_var rfl) (ye_int (i := 1))) (ye_var rfl) (by omega))) (congrArg PyData.int (show (A : Int) + ((i : Int) + 1) % (B : Int) = ((A + (i + 1) % B : Nat) : Int) by rw [modc]; omega))) (ye_str.to (congrArg PyData.str chr_a))) (by simp; omega)) (.same (.same (.same (.same (.same (.same (.same (.drop .nil))))))))) ?_
    show W _ = W _
    rw [List.append_assoc, List.range_succ, List.map_append]
    rfl
  generalize hN : M ++ (List.range B).map (fun k => (⟨A + k, .down, A + (k + 1) % B, 97⟩ : Way)) = N
  have lN : N.length = A + 1 + B := by
    rw [← hN]
    simp
    omega
  have hm1 : ((A + B + 1 : Nat) : Int) - 1 = ((A + B + 1 - 1 : Nat) : Int) := by omega
  refine yo_seq (yo_appW (v := ⟨A + d 3 % B, .zero, A + B + 1 - 1, 99⟩) rfl (ye_way (Ye.to (ye_add (ye_var rfl) (ye_mod (ye_dr (n := 7) (k := 3) (ye_var rfl) (ye_int (i := 3)) (by omega)) (ye_var rfl) (by omega))) (congrArg PyData.int (show (A : Int) + ((d 3 : Nat) : Int) % (B : Int) = ((A + d 3 % B : Nat) : Int) by rw [Int.natCast_add, Int.natCast_emod]))) ye_str (Ye.to (ye_sub (ye_var rfl) ye_int) (congrArg PyData.int hm1)) (ye_str.to (congrArg PyData.str chr_c))) (by omega)) ?_
  have tw : two (PyData.int 0) (.int ((A + B + 1 - 1 : Nat) : Int)) (d 6) = .int ((two 0 (A + B + 1 - 1) (d 6) : Nat) : Int) := by
    unfold two
    split <;> rfl
  refine yo_seq (yo_appW (v := ⟨A + B + 1 - 1, two .up .stay (d 5), two 0 (A + B + 1 - 1) (d 6), 98⟩) rfl (ye_way (Ye.to (ye_sub (ye_var rfl) ye_int) (congrArg PyData.int hm1)) (ye_ixL (Yf.yl (yf_lst (ya_cons ye_str (ya_cons ye_str ya_nil)) (show (2 : Nat) ≤ 100000 by decide))) (ye_dr (n := 7) (k := 5) (ye_var rfl) (ye_int (i := 5)) (by omega)) ((at_two d5).trans (congrArg some (two_map (fun x : Dd => PyData.str x.str) .up .stay (d 5))))) (ye_ixL (Yf.yl (yf_lst (ya_cons (ye_int (i := 0)) (ya_cons (Ye.to (ye_sub (ye_var rfl) ye_int) (congrArg PyData.int hm1)) ya_nil)) (show (2 : Nat) ≤ 100000 by decide))) (ye_dr (n := 7) (k := 6) (ye_var rfl) (ye_int (i := 6)) (by omega)) ((at_two d6).trans (congrArg some tw))) (ye_str.to (congrArg PyData.str chr_b))) (by simp; omega)) ?_
  have e : gateW d = N ++ [⟨A + d 3 % B, .zero, A + B + 1 - 1, 99⟩] ++ [⟨A + B + 1 - 1, two .up .stay (d 5), two 0 (A + B + 1 - 1) (d 6), 98⟩] := by
    unfold gateW gateA
    rw [← eA, ← eB, hL, hM, hN]
  rw [← e]
  refine yo_freeze (i := 6) rfl (yo_ret (Ye.to (ye_tup (ya_cons (ye_var rfl) (ya_cons (ye_call (ya_cons (ye_var rfl) ya_nil) rfl (show g__law_unlike _ _ from ⟨gateW d, Nat.le_trans (gateW_len d0 d1) (by decide), fun v hv => (gateW_ok v hv).2.2, rfl, rfl⟩)) ya_nil)) (show (2 : Nat) ≤ 100000 by decide)) ?_))
  unfold gateH
  rw [← eA, ← eB]
  rfl
theorem at_dds {n : Nat} (h : n < 6) : atI [PyData.str "up", .str "down", .str "stay", .str "zero", .str "up", .str "down"] (n : Int) = some (.str (dds.getD n .up).str) := by
  rcases (show n = 0 ∨ n = 1 ∨ n = 2 ∨ n = 3 ∨ n = 4 ∨ n = 5 by omega) with z | z | z | z | z | z <;> subst z <;> rfl

theorem ok__law_drawn_house {P : Program} {w : World} {K : PySem.W.Frag} {mg : Str → Option Value} {base : Heap} {aR : Addr} {des : Array DictEntry} {dn : Nat} (T : Txt K w mg aR des dn) (C__law_draws : Cal P w K mg base 2 "_law_draws" ["_law_cell_here", "_law_widths", "_law_prime"] g__law_draws) (C__law_unlike : Cal P w K mg base 1 "_law_unlike" ["_law_ways"] g__law_unlike) : Cal P w K mg base 3 "_law_drawn_house" ["_law_cell_here", "_law_prime"] g__law_drawn_house := by
  obtain ⟨f, fd, F, hm⟩ := T.f__law_drawn_house
  refine ⟨f, fd, ?_, hm, F.kp, F.binds fun _ _ _ _ _ _ us hl => match us, hl with | [_, _], _ => rfl⟩
  refine fn_by F sc__law_drawn_house (by decide) fun cdv A outer s H E hr => ?_
  have hu := hu_of hr
  have hu64 := hr.units
  have hu65 : (A.deeper (PyProof.Rows.envOfC "_law_drawn_house" (defScope s__law_drawn_house) s.heap.objs.size f cdv)).units + 65 < cLine := by
    have := hr.un
    omega
  refine ⟨_, (pss_cons (ps_set (i := 2) sc__law_drawn_house.nd rfl (Or.inl rfl) (peCal K C__law_draws rfl rfl rfl rfl rfl hr (by rfl) (pa_cons (pv 0) (pa_cons (pe_op op_cat (pe_lst (pa_cons pe_int (pa_cons pe_int (pa_cons pe_int (pa_cons pe_int pa_nil))))) (pe_op op_rep (pe_lst (pa_cons pe_int (pa_cons pe_int (pa_cons pe_int (pa_cons pe_int pa_nil))))) pe_int)) (pa_cons (pv 1) pa_nil)))))
      (pss_cons (ps_set (i := 3) sc__law_drawn_house.nd rfl (Or.inl rfl) (pe_op op_add pe_int (pe_op op_mod (pe_ix (ixL K rfl) (pv 2) pe_int (fun _ _ => rfl)) (pe_ix (ixL K rfl) (pe_lst (pa_cons pe_int (pa_cons pe_int (pa_cons pe_int (pa_cons pe_int (pa_cons pe_int (pa_cons pe_int (pa_cons pe_int (pa_cons pe_int pa_nil))))))))) (pe_ix (ixL K rfl) (pv 2) pe_int (fun _ _ => rfl)) (fun _ _ => rfl)))))
      (pss_cons (ps_set (i := 4) sc__law_drawn_house.nd rfl (Or.inl rfl) (pe_ix (ixL K rfl) (pv 2) pe_int (fun _ _ => rfl)))
      (pss_cons (ps_if (pt_cmpR op_eq (pe_ix (ixL K rfl) (pv 2) pe_int (fun _ _ => rfl)) pe_int (nomark _))
        (pss_one (ps_set (i := 4) sc__law_drawn_house.nd rfl (Or.inl rfl) (pe_ix (ixL K rfl) (pv 2) pe_int (fun _ _ => rfl))))
        pss_nil)
      (pss_cons (ps_set (i := 5) sc__law_drawn_house.nd rfl (Or.inl rfl) (pe_lst pa_nil))
      (pss_cons (ps_for PassesOwn.never (by rfl) (pi_range1 (by rfl) T.b_range (pa_cons (pv 4) pa_nil)) (pg_name (i := 6) sc__law_drawn_house.nd rfl (Or.inl rfl))
        (pss_cons (ps_asg (pe_slice (slL K rfl) (pv 2) (po_some (pe_op op_add pe_int (pe_op op_mul pe_int (pv 6)))) (po_some (pe_op op_add pe_int (pe_op op_mul pe_int (pv 6))))) (pgU (n := 4) K rfl rfl (pgs_cons (pg_name (i := 7) sc__law_drawn_house.nd rfl (Or.inl rfl)) (pgs_cons (pg_name (i := 8) sc__law_drawn_house.nd rfl (Or.inl rfl)) (pgs_cons (pg_name (i := 9) sc__law_drawn_house.nd rfl (Or.inl rfl)) (pgs_cons (pg_name (i := 10) sc__law_drawn_house.nd rfl (Or.inl rfl)) pgs_nil))))))
        (pss_cons (ps_set (i := 11) sc__law_drawn_house.nd rfl (Or.inl rfl) (pe_ix (ixL K rfl) (pe_lst (pa_cons pe_str (pa_cons pe_str (pa_cons pe_str (pa_cons pe_str (pa_cons pe_str (pa_cons pe_str pa_nil))))))) (pv 8) (fun _ _ => rfl)))
        (pss_one (ps_expr (peApp K rfl (pv 5) (pe_tup (pa_cons (pe_op op_mod (pv 7) (pv 3)) (pa_cons (pv 11) (pa_cons (pe_op op_mod (pv 9) (pv 3)) (pa_cons (pe_ix ix_str pe_str (pv 10) (fun _ _ => rfl)) pa_nil)))))))))))
      (pss_one (ps_ret (pe_tup (pa_cons (pv 3) (pa_cons (peCal K C__law_unlike rfl rfl rfl rfl rfl (hr.mono (by decide)) (by rfl) (pa_cons (pv 5) pa_nil)) pa_nil))))))))))), fun ds r hn hg => ?_⟩
  clear hu hu64 hu65 hr hn
  obtain ⟨cell, prime, h1, rfl, rfl⟩ := hg
  refine .inl ?_
  obtain ⟨o1, o2, o3⟩ := drawn_ok (cell := cell) (prime := prime)
  obtain ⟨dl, _, _, _, _, _, dw⟩ := drawnD_at
  refine yo_seq (yo_asg (d := encNs ((List.range 124).map (drw cell drawnD prime))) (ye_call (ya_cons (ye_var rfl) (ya_cons (Ye.to (d' := encNs drawnD) (yf_cat (yf_lst (ya_cons (ye_int (i := 8)) (ya_cons (ye_int (i := 12)) (ya_cons (ye_int (i := 13)) (ya_cons (ye_int (i := 31)) ya_nil)))) (show (4 : Nat) ≤ 100000 by decide)) (yf_rep (k := 30) (yf_lst (ya_cons (ye_int (i := 12)) (ya_cons (ye_int (i := 6)) (ya_cons (ye_int (i := 12)) (ya_cons (ye_int (i := 3)) ya_nil)))) (show (4 : Nat) ≤ 100000 by decide)) ye_int (by omega) (show 4 * 30 ≤ 100000 by decide) (by omega)) ?_).ye ?_) (ya_cons (ye_var rfl) ya_nil))) rfl (show g__law_draws _ _ from ⟨cell, prime, drawnD, h1, by rw [dl]; decide, dw, rfl, by rw [dl]⟩))) ?_
  · rw [List.length_flatten]
    show 4 + _ ≤ _
    rw [List.map_replicate, List.sum_replicate_nat]
    decide
  · rfl
  generalize drw cell drawnD prime = d at o1 o2 o3
  obtain ⟨m1, m2, m3⟩ := drawnMany_le o1
  refine yo_seq (yo_asg (d := .int (drawnMany d : Nat)) (Ye.to (ye_add (ye_int (i := 1)) (ye_mod (j := (([4, 4, 4, 5, 3, 2, 5, 12].getD (d 0) 1 : Nat) : Int)) (ye_dr (n := 124) (k := 1) (ye_var rfl) (ye_int (i := 1)) (by omega)) (ye_ixL (Yf.yl (yf_lst (ya_cons (ye_int (i := 4)) (ya_cons (ye_int (i := 4)) (ya_cons (ye_int (i := 4)) (ya_cons (ye_int (i := 5)) (ya_cons (ye_int (i := 3)) (ya_cons (ye_int (i := 2)) (ya_cons (ye_int (i := 5)) (ya_cons (ye_int (i := 12)) ya_nil)))))))) (show (8 : Nat) ≤ 100000 by decide))) (ye_dr (n := 124) (k := 0) (ye_var rfl) (ye_int (i := 0)) (by omega)) ?_) (by omega))) (congrArg PyData.int ?_))) ?_
  · generalize d 0 = n at o1
    rcases (show n = 0 ∨ n = 1 ∨ n = 2 ∨ n = 3 ∨ n = 4 ∨ n = 5 ∨ n = 6 ∨ n = 7 by omega) with z | z | z | z | z | z | z | z <;> subst z <;> rfl
  · unfold drawnMany
    rw [Int.natCast_add, Int.natCast_emod]
    rfl
  refine yo_seq (yo_asg (ye_dr (n := 124) (k := 2) (ye_var rfl) (ye_int (i := 2)) (by omega))) ?_
  generalize hmany : drawnMany d = many at m1 m2
  generalize hoft : drawnOften d = often at o2
  refine yo_seq (e1 := [.im (.int cell), .im (.int prime), .im (encNs ((List.range 124).map d)), .im (.int (many : Nat)), .im (.int (often : Nat)), .no, .no, .no, .no, .no, .no, .no]) (yo_if (b := decide (d 0 = 7)) (Yt.to (yt_test (ye_eqI (i := (d 0 : Nat)) (j := 7) (ye_dr (n := 124) (k := 0) (ye_var rfl) (ye_int (i := 0)) (by omega)) ye_int)) (decide_eq_decide.mpr (by omega))) (fun hb => Yo.to (yo_asg (ye_dr (n := 124) (k := 3) (ye_var rfl) (ye_int (i := 3)) (by omega))) ?_) fun hb => Yo.to yo_nx ?_) ?_
  · have z : d 3 = often := by
      rw [← hoft]
      unfold drawnOften
      rw [if_pos (of_decide_eq_true hb)]
    rw [← z]
    rfl
  · have z : d 2 = often := by
      rw [← hoft]
      unfold drawnOften
      rw [if_neg (of_decide_eq_false hb)]
    rw [← z]
    rfl
  refine yo_seq (yo_asgM (yf_lst ya_nil (show (0 : Nat) ≤ 100000 by decide))) ?_
  refine yo_seq (yo_forN (v := upN) (n := often) (yi_range1 (n := (often : Int)) (ya_cons (ye_var rfl) ya_nil) (by omega) (by omega)) (fun i => [.im (.int cell), .im (.int prime), .im (encNs ((List.range 124).map d)), .im (.int (many : Nat)), .im (.int (often : Nat)), .ml ((drawnI d i).map Way.enc), .no, .no, .no, .no, .no, .no]) rfl (fun _ => by simp) fun i hi => ?_) ?_
  · obtain ⟨q0, q1, q2, q3⟩ := o3 i (by omega)
    have sl : cutD (((List.range 124).map d).map fun k : Nat => PyData.int k) (some ((4 + 4 * i : Nat) : Int)) (some ((8 + 4 * i : Nat) : Int)) = [.int (d (4 + 4 * i) : Nat), .int (d (4 + 4 * i + 1) : Nat), .int (d (4 + 4 * i + 2) : Nat), .int (d (4 + 4 * i + 3) : Nat)] := by
      rw [List.map_map]
      refine (cut_range (F := fun j => PyData.int (d j : Nat)) (by omega) (by omega)).trans ?_
      rw [show 8 + 4 * i - (4 + 4 * i) = 4 by omega]
      rfl
    refine yo_seq (yo_asgG (Ye.to (yf_cut (lo := some ((4 + 4 * i : Nat) : Int)) (hi := some ((8 + 4 * i : Nat) : Int)) (Ye.yl (ye_var rfl)) (yp_some (Ye.to (ye_add (ye_int (i := 4)) (ye_mul (ye_int (i := 4)) (ye_var rfl) (.inl ⟨by omega, by omega⟩))) (congrArg PyData.int (show (4 : Int) + 4 * (i : Int) = ((4 + 4 * i : Nat) : Int) by omega)))) (yp_some (Ye.to (ye_add (ye_int (i := 8)) (ye_mul (ye_int (i := 4)) (ye_var rfl) (.inl ⟨by omega, by omega⟩))) (congrArg PyData.int (show (8 : Int) + 4 * (i : Int) = ((8 + 4 * i : Nat) : Int) by omega))))).ye (by rw [sl])) (yg_unl rfl (ygs_cons (yg_name ltr) (ygs_cons (yg_name ltr) (ygs_cons (yg_name ltr) (ygs_cons (yg_name ltr) ygs_nil)))))) ?_
    refine yo_seq (yo_asg (ye_ixL (Yf.yl (yf_lst (ya_cons ye_str (ya_cons ye_str (ya_cons ye_str (ya_cons ye_str (ya_cons ye_str (ya_cons ye_str ya_nil)))))) (show (6 : Nat) ≤ 100000 by decide))) (ye_var rfl) (at_dds q1))) ?_
    have sg : atI (Str.cps "abc").toList ((d (4 + 4 * i + 3) : Nat) : Int) = some (97 + d (4 + 4 * i + 3)) := by
      rw [cps_abc]
      rcases (show d (4 + 4 * i + 3) = 0 ∨ d (4 + 4 * i + 3) = 1 ∨ d (4 + 4 * i + 3) = 2 by omega) with z | z | z <;> rw [z] <;> rfl
    refine Yo.to (yo_weak (yo_appW (v := ⟨d (4 + 4 * i) % many, dds.getD (d (4 + 4 * i + 1)) .up, d (4 + 4 * i + 2) % many, 97 + d (4 + 4 * i + 3)⟩) rfl (ye_way (Ye.to (ye_mod (ye_var rfl) (ye_var rfl) (by omega)) (congrArg PyData.int (show ((d (4 + 4 * i) : Nat) : Int) % (many : Int) = ((d (4 + 4 * i) % many : Nat) : Int) by rw [Int.natCast_emod]))) (ye_var rfl) (Ye.to (ye_mod (ye_var rfl) (ye_var rfl) (by omega)) (congrArg PyData.int (show ((d (4 + 4 * i + 2) : Nat) : Int) % (many : Int) = ((d (4 + 4 * i + 2) % many : Nat) : Int) by rw [Int.natCast_emod]))) (ye_ixS ye_str (ye_var rfl) (show Str.length "abc" ≤ 100000 by decide +kernel) sg)) (by unfold drawnI; rw [List.length_map, List.length_range]; omega)) (.same (.same (.same (.same (.same (.same (.drop (.drop (.drop (.drop (.drop (.drop .nil))))))))))))) ?_
    have e : drawnI d (i + 1) = drawnI d i ++ [⟨d (4 + 4 * i) % many, dds.getD (d (4 + 4 * i + 1)) .up, d (4 + 4 * i + 2) % many, 97 + d (4 + 4 * i + 3)⟩] := by
      unfold drawnI
      rw [List.range_succ, List.map_append, hmany]
      rfl
    rw [e]
  · refine yo_freeze (i := 5) rfl (yo_ret (Ye.to (ye_tup (ya_cons (ye_var rfl) (ya_cons (ye_call (ya_cons (ye_var rfl) ya_nil) rfl (show g__law_unlike _ _ from ⟨drawnI d often, ?_, fun v hv => (drawnI_ok o1 (fun k hk => (o3 k (by omega)).2.2.2) v hv).2.2, rfl, rfl⟩)) ya_nil)) (show (2 : Nat) ≤ 100000 by decide)) ?_))
    · unfold drawnI
      rw [List.length_map, List.length_range]
      omega
    · unfold drawnH
      rw [hmany, hoft]
      rfl

theorem ok__law_house {P : Program} {w : World} {K : PySem.W.Frag} {mg : Str → Option Value} {base : Heap} {aR : Addr} {des : Array DictEntry} {dn : Nat} (T : Txt K w mg aR des dn) (C__law_drawn_house : Cal P w K mg base 3 "_law_drawn_house" ["_law_cell_here", "_law_prime"] g__law_drawn_house) (C__law_draws : Cal P w K mg base 2 "_law_draws" ["_law_cell_here", "_law_widths", "_law_prime"] g__law_draws) (C__law_gate_house : Cal P w K mg base 3 "_law_gate_house" ["_law_cell_here", "_law_prime"] g__law_gate_house) (C__law_ring_house : Cal P w K mg base 3 "_law_ring_house" ["_law_cell_here", "_law_prime"] g__law_ring_house) (C__law_spare : Cal P w K mg base 1 "_law_spare" ["_law_cell_here", "_law_width"] g__law_spare) : Cal P w K mg base 4 "_law_house" ["_law_cell_here", "_law_prime"] g__law_house := by
  obtain ⟨f, fd, F, hm⟩ := T.f__law_house
  refine ⟨f, fd, ?_, hm, F.kp, F.binds fun _ _ _ _ _ _ us hl => match us, hl with | [_, _], _ => rfl⟩
  refine fn_by F sc__law_house (by decide) fun cdv A outer s H E hr => ?_
  have hu := hu_of hr
  have hu64 := hr.units
  have hu65 : (A.deeper (PyProof.Rows.envOfC "_law_house" (defScope s__law_house) s.heap.objs.size f cdv)).units + 65 < cLine := by
    have := hr.un
    omega
  refine ⟨_, (pss_cons (ps_set (i := 2) sc__law_house.nd rfl (Or.inl rfl) (pe_ix (ixL K rfl) (peCal K C__law_draws rfl rfl rfl rfl rfl (hr.mono (by decide)) (by rfl) (pa_cons (pv 0) (pa_cons (pe_lst (pa_cons pe_int pa_nil)) (pa_cons (pv 1) pa_nil)))) pe_int (fun _ _ => rfl)))
      (pss_cons (ps_set (i := 3) sc__law_house.nd rfl (Or.inl rfl) (peCal K C__law_spare rfl rfl rfl rfl rfl (hr.mono (by decide)) (by rfl) (pa_cons (pv 0) (pa_cons pe_int pa_nil))))
      (pss_cons (ps_if (pt_cmpR op_eq (pv 2) pe_int (nomark _))
        (pss_one (ps_ret (peCal K C__law_ring_house rfl rfl rfl rfl rfl hr (by rfl) (pa_cons (pv 3) (pa_cons (pv 1) pa_nil)))))
        pss_nil)
      (pss_cons (ps_if (pt_cmpR op_eq (pv 2) pe_int (nomark _))
        (pss_one (ps_ret (peCal K C__law_gate_house rfl rfl rfl rfl rfl hr (by rfl) (pa_cons (pv 3) (pa_cons (pv 1) pa_nil)))))
        pss_nil)
      (pss_one (ps_ret (peCal K C__law_drawn_house rfl rfl rfl rfl rfl hr (by rfl) (pa_cons (pv 3) (pa_cons (pv 1) pa_nil))))))))), fun ds r hn hg => ?_⟩
  clear hu hu64 hu65 hr hn
  obtain ⟨cell, prime, h1, rfl, rfl⟩ := hg
  refine .inl ?_
  refine yo_seq (yo_asg (d := .int (drw cell [8] prime 0 : Nat)) (ye_ixL (Ye.yl (ye_call (ya_cons (ye_var rfl) (ya_cons (yf_lst (ya_cons ye_int ya_nil) (show (1 : Nat) ≤ 100000 by decide)).ye (ya_cons (ye_var rfl) ya_nil))) rfl (show g__law_draws [.int cell, encNs [8], .int prime] _ from ⟨cell, prime, [8], h1, by decide, by decide, rfl, rfl⟩))) (ye_int (i := 0)) rfl)) ?_
  refine yo_seq (yo_asg (ye_call (ya_cons (ye_var rfl) (ya_cons ye_int ya_nil)) rfl (show g__law_spare [.int cell, .int 8] _ from ⟨cell, 8, by decide, by decide, rfl, rfl⟩))) ?_
  unfold housN
  dsimp only
  generalize drw cell [8] prime 0 = k
  generalize sprN cell 8 = left
  have t : ∀ n : Nat, Yt K (tTest (tOp rEq (tVar 2) (tC (.int n)))) [.im (.int cell), .im (.int prime), .im (.int (k : Nat)), .im (.int left)] (decide (k = n)) := fun n => Yt.to (yt_test (ye_eqI (i := (k : Nat)) (j := (n : Nat)) (ye_var rfl) ye_int)) (decide_eq_decide.mpr (by omega))
  by_cases c : k = 6
  · rw [if_pos c]
    exact yo_seqR (yo_if (b := true) (Yt.to (t 6) (decide_eq_true c)) (fun _ => yo_ret (ye_call (ya_cons (ye_var rfl) (ya_cons (ye_var rfl) ya_nil)) rfl (show g__law_ring_house _ _ from ⟨left, prime, h1, rfl, rfl⟩))) fun hb => by cases hb)
  · rw [if_neg c]
    refine yo_seq (yo_if (b := false) (Yt.to (t 6) (decide_eq_false c)) (fun hb => by cases hb) fun _ => yo_nx) ?_
    by_cases c : k = 7
    · rw [if_pos c]
      exact yo_seqR (yo_if (b := true) (Yt.to (t 7) (decide_eq_true c)) (fun _ => yo_ret (ye_call (ya_cons (ye_var rfl) (ya_cons (ye_var rfl) ya_nil)) rfl (show g__law_gate_house _ _ from ⟨left, prime, h1, rfl, rfl⟩))) fun hb => by cases hb)
    · rw [if_neg c]
      refine yo_seq (yo_if (b := false) (Yt.to (t 7) (decide_eq_false c)) (fun hb => by cases hb) fun _ => yo_nx) ?_
      exact yo_ret (ye_call (ya_cons (ye_var rfl) (ya_cons (ye_var rfl) ya_nil)) rfl (show g__law_drawn_house _ _ from ⟨left, prime, h1, rfl, rfl⟩))


end Sr
set_option Elab.async false
set_option linter.all false
set_option maxRecDepth 100000
set_option maxHeartbeats 4000000
set_option autoImplicit false
namespace Sr
open PySem L2
def keyW (v : Way) : List Key := [.inl v.room, .inr v.deed.str, .inl v.other, .inr (chr v.sign)]
theorem keyW_inj {a b : Way} (h : keyW a = keyW b) : a = b := by
  unfold keyW at h
  injection h with h1 h
  injection h with h2 h
  injection h with h3 h
  injection h with h4 h
  have e1 : (a.room : Int) = b.room := Sum.inl.inj h1
  have e2 := Dd.str_inj (Sum.inr.inj h2)
  have e3 : (a.other : Int) = b.other := Sum.inl.inj h3
  have e4 : a.sign = b.sign := by
    have z : chr a.sign = chr b.sign := Sum.inr.inj h4
    unfold chr at z
    injection z with z
    have y := congrArg Array.toList z
    injection y
  obtain ⟨a1, a2, a3, a4⟩ := a
  obtain ⟨b1, b2, b3, b4⟩ := b
  have f1 : a1 = b1 := Int.ofNat.inj e1
  have f2 : a2 = b2 := e2
  have f3 : a3 = b3 := Int.ofNat.inj e3
  have f4 : a4 = b4 := e4
  rw [f1, f2, f3, f4]
section
variable {K : PySem.W.Frag} {es : List Ent} {te : TE}
theorem rp_ways {H : Hp} : ∀ {ws : List Way} {vs : List V}, RpAll K H (ws.map Way.enc) vs → ∃ ks : KL, vs = ks.map (fun e => V.ref e.1) ∧ ks.map Prod.snd = ws.map keyW ∧ ∀ e ∈ ks, H e.1 = some (.tup (e.2.map kV))
  | [], vs, h => by
    have e : vs = [] := h
    subst e
    exact ⟨[], rfl, rfl, fun e he => absurd he List.not_mem_nil⟩
  | w :: ws, vs, h => by
    obtain ⟨v, r, rfl, h1, h2⟩ := h
    obtain ⟨ks, k1, k2, k3⟩ := rp_ways h2
    obtain ⟨b, us, rfl, hb, g⟩ := h1
    obtain ⟨u1, r1, rfl, q1, g⟩ := g
    obtain ⟨u2, r2, rfl, q2, g⟩ := g
    obtain ⟨u3, r3, rfl, q3, g⟩ := g
    obtain ⟨u4, r4, rfl, q4, g⟩ := g
    have e5 : r4 = [] := g
    subst e5
    cases (show u1 = .int w.room from q1)
    cases (show u2 = .str w.deed.str from q2)
    cases (show u3 = .int w.other from q3)
    cases (show u4 = .str (chr w.sign) from q4)
    refine ⟨(b, keyW w) :: ks, by rw [k1]; rfl, by rw [List.map_cons, List.map_cons, k2], fun e he => ?_⟩
    rcases List.mem_cons.mp he with z | z
    · rw [z]
      exact hb
    · exact k3 e z
theorem ye_lenSetK {ws : List Way} (h : Ye K te es (encWs ws)) (few : ws.length < 64) (nd : ws.Nodup) : Ye K (tLenSetK K te) es (.int ws.length) := fun Z F H σ I Q q => h Z F H σ I _ fun v H1 s1 r1 => by
  obtain ⟨a, vs, rfl, ha, r1⟩ := r1
  obtain ⟨ks, k1, k2, k3⟩ := rp_ways r1
  have len : ks.length = ws.length := by
    have z := congrArg List.length k2
    rw [List.length_map, List.length_map] at z
    exact z
  subst k1
  refine ⟨a, ks, rfl, .inl (.inl (wo_sub _ _ ha)), fun e he => wo_sub _ _ (k3 e he), by omega, ?_, q _ H1 s1 (by rw [len]; rfl)⟩
  rw [k2]
  exact List.pairwise_map.mpr (List.Pairwise.imp (fun ne z => ne (keyW_inj z)) nd)
end
theorem all_true' {α : Type} {ns : List α} : (ns.map fun _ => true).all id = true := by simp
theorem ok_is_house {P : Program} {w : World} {K : PySem.W.Frag} {mg : Str → Option Value} {base : Heap} {aR : Addr} {des : Array DictEntry} {dn : Nat} (T : Txt K w mg aR des dn) (C_way_of : Cal P w K mg base 3 "way_of" ["thing", "many"] g_way_of) (C_whole_number : Cal P w K mg base 1 "whole_number" ["thing"] g_whole_number) : Cal P w K mg base 4 "is_house" ["thing"] g_is_house := by
  obtain ⟨f, fd, F, hm⟩ := T.f_is_house
  refine ⟨f, fd, ?_, hm, F.kp, F.binds fun _ _ _ _ _ _ us hl => match us, hl with | [_], _ => rfl⟩
  refine fn_by F sc_is_house (by decide) fun cdv A outer s H E hr => ?_
  have hu := hu_of hr
  have hu64 := hr.units
  have hu65 : (A.deeper (PyProof.Rows.envOfC "is_house" (defScope s_is_house) s.heap.objs.size f cdv)).units + 65 < cLine := by
    have := hr.un
    omega
  refine ⟨_, (pss_cons (ps_if (PW.pt (pw_or (pt_not (pt_val (pe_callB (id := "isinstance") (cIsi K rfl) (by rfl) T.b_isinstance (by decide +kernel) (pa_cons (pv 0) (pa_cons (pe_bltn (v := .ty "tuple") (by rfl) T.b_tuple (by decide +kernel) rfl) pa_nil))))) (pw_or1 (pt_cmpR op_ne (pe_callB (id := "len") (cLen K rfl) (by rfl) T.b_len (by decide +kernel) (pa_cons (pv 0) pa_nil)) pe_int (nomark _)))))
        (pss_one (ps_ret pe_bl))
        pss_nil)
      (pss_cons (ps_asg (pv 0) (pgT (n := 2) K rfl rfl (pgs_cons (pg_name (i := 1) sc_is_house.nd rfl (Or.inr rfl)) (pgs_cons (pg_name (i := 2) sc_is_house.nd rfl (Or.inl rfl)) pgs_nil))))
      (pss_cons (ps_if (PW.pt (pw_or (pt_not (pt_val (peCal K C_whole_number rfl rfl rfl rfl rfl (hr.mono (by decide)) (by rfl) (pa_cons (pv 1) pa_nil)))) (pw_or (pt_cmpR op_lt (pv 1) pe_int (nomark _)) (pw_or1 (pt_cmpR op_gt (pv 1) (pe_globI (by rfl) T.c_MOST_ROOMS) (nomark _))))))
        (pss_one (ps_ret pe_bl))
        pss_nil)
      (pss_cons (ps_if (PW.pt (pw_or (pt_not (pt_val (pe_callB (id := "isinstance") (cIsi K rfl) (by rfl) T.b_isinstance (by decide +kernel) (pa_cons (pv 2) (pa_cons (pe_bltn (v := .ty "tuple") (by rfl) T.b_tuple (by decide +kernel) rfl) pa_nil))))) (pw_or1 (pt_cmpR op_gt (pe_callB (id := "len") (cLen K rfl) (by rfl) T.b_len (by decide +kernel) (pa_cons (pv 2) pa_nil)) (pe_globI (by rfl) T.c_MOST_WAYS) (nomark _)))))
        (pss_one (ps_ret pe_bl))
        pss_nil)
      (pss_cons (ps_if (pt_not (pt_val (pe_callB (id := "all") (cAll K rfl rfl) (by rfl) T.b_all (by decide +kernel) (pa_cons (pe_lc (own := [("way", 3)]) (by rfl) sc_is_house.nd (piT K rfl (pv 2)) (blkOk_by (N := ["thing", "many", "ways", "way"]) (sc := defScope s_is_house) (by decide +kernel))
      (fun _ _ _ _ _ => (pg_name (i := 3) sc_is_house.nd rfl (Or.inl rfl))) (fun _ _ _ _ _ => pts_nil) (fun _ _ _ _ _ => (peCal K C_way_of rfl rfl rfl rfl rfl hr (by rfl) (pa_cons (pv 3) (pa_cons (pv 1) pa_nil))))) pa_nil))))
        (pss_one (ps_ret pe_bl))
        pss_nil)
      (pss_one (ps_ret (pe_cmpR op_eq (pe_lenSetK rfl hu64 (by rfl) T.b_len (by rfl) T.b_set (pv 2)) (pe_callB (id := "len") (cLen K rfl) (by rfl) T.b_len (by decide +kernel) (pa_cons (pv 2) pa_nil)) (nomark _))))))))), fun ds r hn hg => ?_⟩
  clear hu hu64 hu65 hr hn
  obtain ⟨h, gd, rfl, rfl⟩ := hg
  obtain ⟨n, ws⟩ := h
  have n1 : 1 ≤ n := gd.pos
  have n2 : n ≤ 12 := gd.few
  have n3 : ws.length ≤ 40 := gd.short
  have hm : ∀ v ∈ ws, v.room < n := gd.room
  have ho : ∀ v ∈ ws, v.other < n := gd.other
  have hs : ∀ v ∈ ws, Sgn v.sign := gd.sign
  have nd : ws.Nodup := gd.nd
  refine .inl ?_
  refine yo_seq (yo_if (b := false) (yt_or (yt_not (yt_B (ye_isT (ye_var rfl)))) fun _ => yt_test ((ye_neI (ye_lenT (ye_var rfl)) ye_int).to (d' := .bool false) rfl)) (fun hb => by cases hb) fun _ => yo_nx) ?_
  refine yo_seq (yo_asgG (ye_var rfl) (yg_tup rfl (ygs_cons (yg_name ltr) (ygs_cons (yg_name ltr) ygs_nil)))) ?_
  refine yo_seq (yo_if (b := false) (Yt.to (yt_or (yt_not (yt_B (ye_call (ya_cons (ye_var rfl) ya_nil) rfl (show g_whole_number [.int n] (.bool true) from ⟨_, rfl, rfl⟩)))) fun _ => yt_or (yt_test (ye_lt (ye_var rfl) ye_int)) fun _ => yt_test (ye_gt (ye_var rfl) ye_int)) ?_) (fun hb => by cases hb) fun _ => yo_nx) ?_
  · simp
    omega
  refine yo_seq (yo_if (b := false) (Yt.to (yt_or (yt_not (yt_B (ye_isT (ye_var rfl)))) fun _ => yt_test (ye_gt (ye_lenT (ye_var rfl)) ye_int)) ?_) (fun hb => by cases hb) fun _ => yo_nx) ?_
  · rw [List.length_map]
    simp
    omega
  refine yo_seq (yo_if (b := false) (Yt.to (yt_not (yt_B (Ye.to (ye_all (bs := ws.map fun _ => true) (Yf.yl (Yf.to (yf_lcA (as := ws) (enc := Way.enc) (fun _ => true) (fun _ => .bool true) (yi_tup (ye_var rfl)) (by omega) fun i v hv => ⟨_, _, (by simp), yg_name ltr, yt_yes, fun _ => ye_call (ya_cons (ye_var rfl) (ya_cons (ye_var rfl) ya_nil)) rfl (show g_way_of _ _ from ⟨v, n, hm v (List.mem_of_getElem? hv), ho v (List.mem_of_getElem? hv), hs v (List.mem_of_getElem? hv), rfl, rfl⟩)⟩) (by rw [List.filter_eq_self.mpr (fun _ _ => rfl), List.map_map]; rfl)))) (congrArg PyData.bool all_true')))) rfl) (fun hb => by cases hb) fun _ => yo_nx) ?_
  exact yo_ret (Ye.to (ye_eqI (i := (ws.length : Int)) (j := (ws.length : Int)) (ye_lenSetK (ye_var rfl) (by omega) nd) ((ye_lenT (ye_var rfl)).to (by rw [List.length_map]))) (congrArg PyData.bool (decide_eq_true rfl)))


end Sr
set_option Elab.async false
set_option linter.all false
set_option maxRecDepth 100000
set_option maxHeartbeats 4000000
set_option autoImplicit false
namespace Sr
open PySem L2
theorem law_fn {P : Program} {w : World} {K : PySem.W.Frag} {mg : Str → Option Value} {aR : Addr} {des : Array DictEntry} {dn : Nat} (T : Txt K w mg aR des dn) {fa : Addr} (hfa : mg "law" = some (.ref fa)) :
    ∃ fd : FuncData, (∀ (s : Shared) (v : Value), BindsTo s fd ⟨[v], []⟩ [("_law_script", v)]) ∧ ∀ base : Heap, K.In base → base.Ns mainGlobals mg → FnOk P w K mg base CX0 7 fa fd ["_law_script"] (spD K 1 g_law) := by
  obtain ⟨f, fd, F, hm⟩ := T.f_law
  have e := hfa.symm.trans hm
  cases e
  refine ⟨fd, fun s v => ?_, fun base _ _ => ?_⟩
  · obtain ⟨oc, od, kV, doc, pm, an, cdv, ct, osl, rfl, _, _⟩ := F.ex
    exact .of_eq rfl
  · have C__law_behind := ok__law_behind (P := P) (base := base) T 
    have C__law_cell := ok__law_cell (P := P) (base := base) T 
    have C__law_holds := ok__law_holds (P := P) (base := base) T 
    have C__law_mixed := ok__law_mixed (P := P) (base := base) T 
    have C__law_spare := ok__law_spare (P := P) (base := base) T 
    have C__law_unlike := ok__law_unlike (P := P) (base := base) T 
    have C__law_whole := ok__law_whole (P := P) (base := base) T 
    have C_behind_table := ok_behind_table (P := P) (base := base) T 
    have C_bits_of := ok_bits_of (P := P) (base := base) T 
    have C_check_places := ok_check_places (P := P) (base := base) T 
    have C_closed_table := ok_closed_table (P := P) (base := base) T 
    have C_deed_number := ok_deed_number (P := P) (base := base) T 
    have C_deed_open := ok_deed_open (P := P) (base := base) T 
    have C_either_table := ok_either_table (P := P) (base := base) T 
    have C_is_number := ok_is_number (P := P) (base := base) T 
    have C_joined_rooms := ok_joined_rooms (P := P) (base := base) T 
    have C_least_step := ok_least_step (P := P) (base := base) T 
    have C_own_table := ok_own_table (P := P) (base := base) T 
    have C_rooms_behind := ok_rooms_behind (P := P) (base := base) T 
    have C_sign_of_way := ok_sign_of_way (P := P) (base := base) T 
    have C_steps_table := ok_steps_table (P := P) (base := base) T 
    have C_traced := ok_traced (P := P) (base := base) T 
    have C_ways_of_rooms := ok_ways_of_rooms (P := P) (base := base) T 
    have C_whole_number := ok_whole_number (P := P) (base := base) T 
    have C__law_draws := ok__law_draws (P := P) (base := base) T C__law_mixed
    have C__law_gone := ok__law_gone (P := P) (base := base) T C__law_behind
    have C__law_rises := ok__law_rises (P := P) (base := base) T C__law_whole
    have C__law_shut := ok__law_shut (P := P) (base := base) T C__law_holds
    have C__law_walk := ok__law_walk (P := P) (base := base) T C__law_whole
    have C_check_place := ok_check_place (P := P) (base := base) T C_check_places
    have C_falls_table := ok_falls_table (P := P) (base := base) T C_behind_table C_steps_table
    have C_hill_table := ok_hill_table (P := P) (base := base) T C_behind_table C_steps_table
    have C_is_rising := ok_is_rising (P := P) (base := base) T C_is_number
    have C_least_of_bits := ok_least_of_bits (P := P) (base := base) T C_least_step
    have C_rises_table := ok_rises_table (P := P) (base := base) T C_behind_table C_steps_table
    have C_room_of := ok_room_of (P := P) (base := base) T C_whole_number
    have C_search_from := ok_search_from (P := P) (base := base) T C_deed_number C_deed_open C_ways_of_rooms
    have C__law_drawn_house := ok__law_drawn_house (P := P) (base := base) T C__law_draws C__law_unlike
    have C__law_gate_house := ok__law_gate_house (P := P) (base := base) T C__law_draws C__law_unlike
    have C__law_is_stair := ok__law_is_stair (P := P) (base := base) T C__law_rises C__law_whole
    have C__law_place := ok__law_place (P := P) (base := base) T C__law_draws
    have C__law_ring_house := ok__law_ring_house (P := P) (base := base) T C__law_draws
    have C_ground_table := ok_ground_table (P := P) (base := base) T C_closed_table C_either_table C_hill_table C_own_table C_steps_table
    have C_is_stair := ok_is_stair (P := P) (base := base) T C_is_number C_is_rising
    have C_keeps_table := ok_keeps_table (P := P) (base := base) T C_closed_table C_either_table C_hill_table C_own_table C_steps_table
    have C_least_by := ok_least_by (P := P) (base := base) T C_bits_of C_least_of_bits
    have C_shortest_below := ok_shortest_below (P := P) (base := base) T C_search_from C_traced
    have C_way_of := ok_way_of (P := P) (base := base) T C_room_of C_sign_of_way
    have C__law_house := ok__law_house (P := P) (base := base) T C__law_drawn_house C__law_draws C__law_gate_house C__law_ring_house C__law_spare
    have C_check_stair := ok_check_stair (P := P) (base := base) T C_is_stair
    have C_is_house := ok_is_house (P := P) (base := base) T C_way_of C_whole_number
    have C_lower_levels := ok_lower_levels (P := P) (base := base) T C_falls_table C_ground_table C_joined_rooms C_rises_table C_rooms_behind
    have C_check_house := ok_check_house (P := P) (base := base) T C_is_house
    have C_least := ok_least (P := P) (base := base) T C_check_stair C_least_by
    have C_levels_from := ok_levels_from (P := P) (base := base) T C_keeps_table C_lower_levels C_rises_table C_rooms_behind
    have C_forward := ok_forward (P := P) (base := base) T C_check_house C_check_place C_least C_levels_from
    have C_shortest := ok_shortest (P := P) (base := base) T C_check_house C_check_places C_shortest_below
    exact ok_law T C__law_cell C__law_draws C__law_gone C__law_holds C__law_house C__law_is_stair C__law_place C__law_shut C__law_walk C_forward C_shortest F
theorem law_sp {K : PySem.W.Frag} {H : Hp} {a : Addr} {ns : List Int} (hl : ns.length ≤ 63) (h : SqL K H a (ns.map V.int)) : spD K 1 g_law [.ref a] H (fun v _ => v = .bl true) fun _ _ _ => False := by
  have e : wo (fun _ => false) H = H := funext fun b => rfl
  refine ⟨fun _ => false, [.list (ns.map .int)], .bool true, rfl, fun b (hb : false = true) => (by cases hb), ?_, ⟨ns, hl, rfl, rfl⟩, fun v H' _ r => r⟩
  rw [e]
  exact ⟨.ref a, [], rfl, ⟨a, ns.map V.int, rfl, h, rpAll_of_ints ns⟩, rfl⟩
end Sr
set_option Elab.async false
set_option maxRecDepth 100000
open PySem PySem.W PyProof.Rows
set_option maxRecDepth 100000 in
set_option maxHeartbeats 0 in
theorem PySem.Challenge.cw_stairrooms_k31_whole_least_closed_holds : PySem.Challenge.rw_stairrooms_k31_whole_least_closed.Holds := by
  w_on; o_law; k_head; (case hw => w_witness2)
  k_fill
  refine L2.walk_ofK (l := PySem.Challenge.rw_stairrooms_k31_whole_least_closed) (n := 63) (k := 7) (x := "_law_script") (CX := L2.CX0) (sp := fun K => Sr.spD K 1 Sr.g_law) rfl (by decide) rfl ⟨rfl, by decide, by decide⟩ (fun w h Y => PySem.W.kIn_of Y) ?F (fun K H a ns hl _ hS => Sr.law_sp hl hS) (fun _ _ _ _ h => h)
  case F =>
    intro w mg fa h KX G hmg
    refine' Sr.use_txt (w := w) KX G ?a1 ?a2 ?a3 ?a4 ?r1 ?r2 ?r3 ?r4 ?T0 ?kk
    (case a1 => k_is); (case a2 => k_is); (case a3 => k_keys); (case a4 => decide +kernel); (case r1 => k_is); (case r2 => k_is); (case r3 => k_is); (case r4 => k_is)
    case T0 =>
      refine' @Sr.Txt0.mk _ mg ?b_len ?b_range ?b_list ?b_tuple ?b_isinstance ?b_int ?b_bool ?b_str ?b_any ?b_all ?b_set ?b_sorted ?b_max ?b_min ?b_enumerate ?b_zip ?c_MOST_ROOMS ?c_MOST_WAYS ?c_HIGHEST ?c_GREATEST_BASE ?c_GREATEST_STEP ?c_LETTERS ?f_whole_number ?f_room_of ?f_sign_of_way ?f_way_of ?f_is_house ?f_check_house ?f_check_places ?f_check_place ?f_deed_open ?f_deed_number ?f_closed_table ?f_steps_table ?f_behind_table ?f_either_table ?f_own_table ?f_hill_table ?f_keeps_table ?f_ground_table ?f_rises_table ?f_falls_table ?f_is_number ?f_is_rising ?f_is_stair ?f_check_stair ?f_bits_of ?f_least_step ?f_least_of_bits ?f_least_by ?f_least ?f_rooms_behind ?f_joined_rooms ?f_lower_levels ?f_levels_from ?f_forward ?f_ways_of_rooms ?f_search_from ?f_traced ?f_shortest_below ?f_shortest ?f__law_holds ?f__law_mixed ?f__law_draws ?f__law_spare ?f__law_ring_house ?f__law_unlike ?f__law_gate_house ?f__law_drawn_house ?f__law_house ?f__law_cell ?f__law_place ?f__law_whole ?f__law_rises ?f__law_is_stair ?f__law_walk ?f__law_behind ?f__law_gone ?f__law_shut ?f_law
      (case b_len => (refine' PySem.W.mg_none_of KX G ?_; k_is))
      (case b_range => (refine' PySem.W.mg_none_of KX G ?_; k_is))
      (case b_list => (refine' PySem.W.mg_none_of KX G ?_; k_is))
      (case b_tuple => (refine' PySem.W.mg_none_of KX G ?_; k_is))
      (case b_isinstance => (refine' PySem.W.mg_none_of KX G ?_; k_is))
      (case b_int => (refine' PySem.W.mg_none_of KX G ?_; k_is))
      (case b_bool => (refine' PySem.W.mg_none_of KX G ?_; k_is))
      (case b_str => (refine' PySem.W.mg_none_of KX G ?_; k_is))
      (case b_any => (refine' PySem.W.mg_none_of KX G ?_; k_is))
      (case b_all => (refine' PySem.W.mg_none_of KX G ?_; k_is))
      (case b_set => (refine' PySem.W.mg_none_of KX G ?_; k_is))
      (case b_sorted => (refine' PySem.W.mg_none_of KX G ?_; k_is))
      (case b_max => (refine' PySem.W.mg_none_of KX G ?_; k_is))
      (case b_min => (refine' PySem.W.mg_none_of KX G ?_; k_is))
      (case b_enumerate => (refine' PySem.W.mg_none_of KX G ?_; k_is))
      (case b_zip => (refine' PySem.W.mg_none_of KX G ?_; k_is))
      (case c_MOST_ROOMS => (refine' Sr.ci_mk KX G ?a; (case a => k_is)))
      (case c_MOST_WAYS => (refine' Sr.ci_mk KX G ?a; (case a => k_is)))
      (case c_HIGHEST => (refine' Sr.ci_mk KX G ?a; (case a => k_is)))
      (case c_GREATEST_BASE => (refine' Sr.ci_mk KX G ?a; (case a => k_is)))
      (case c_GREATEST_STEP => (refine' Sr.ci_mk KX G ?a; (case a => k_is)))
      (case c_LETTERS => (refine' Sr.cs_mk KX G ?a; (case a => k_is)))
      (case f_whole_number => (refine' Sr.df_mk KX G ?a ?l ?c ?k; (case a => k_is); (case l => k_is); (case c => k_is); (case k => k_is)))
      (case f_room_of => (refine' Sr.df_mk KX G ?a ?l ?c ?k; (case a => k_is); (case l => k_is); (case c => k_is); (case k => k_is)))
      (case f_sign_of_way => (refine' Sr.df_mk KX G ?a ?l ?c ?k; (case a => k_is); (case l => k_is); (case c => k_is); (case k => k_is)))
      (case f_way_of => (refine' Sr.df_mk KX G ?a ?l ?c ?k; (case a => k_is); (case l => k_is); (case c => k_is); (case k => k_is)))
      (case f_is_house => (refine' Sr.df_mk KX G ?a ?l ?c ?k; (case a => k_is); (case l => k_is); (case c => k_is); (case k => k_is)))
      (case f_check_house => (refine' Sr.df_mk KX G ?a ?l ?c ?k; (case a => k_is); (case l => k_is); (case c => k_is); (case k => k_is)))
      (case f_check_places => (refine' Sr.df_mk KX G ?a ?l ?c ?k; (case a => k_is); (case l => k_is); (case c => k_is); (case k => k_is)))
      (case f_check_place => (refine' Sr.df_mk KX G ?a ?l ?c ?k; (case a => k_is); (case l => k_is); (case c => k_is); (case k => k_is)))
      (case f_deed_open => (refine' Sr.df_mk KX G ?a ?l ?c ?k; (case a => k_is); (case l => k_is); (case c => k_is); (case k => k_is)))
      (case f_deed_number => (refine' Sr.df_mk KX G ?a ?l ?c ?k; (case a => k_is); (case l => k_is); (case c => k_is); (case k => k_is)))
      (case f_closed_table => (refine' Sr.df_mk KX G ?a ?l ?c ?k; (case a => k_is); (case l => k_is); (case c => k_is); (case k => k_is)))
      (case f_steps_table => (refine' Sr.df_mk KX G ?a ?l ?c ?k; (case a => k_is); (case l => k_is); (case c => k_is); (case k => k_is)))
      (case f_behind_table => (refine' Sr.df_mk KX G ?a ?l ?c ?k; (case a => k_is); (case l => k_is); (case c => k_is); (case k => k_is)))
      (case f_either_table => (refine' Sr.df_mk KX G ?a ?l ?c ?k; (case a => k_is); (case l => k_is); (case c => k_is); (case k => k_is)))
      (case f_own_table => (refine' Sr.df_mk KX G ?a ?l ?c ?k; (case a => k_is); (case l => k_is); (case c => k_is); (case k => k_is)))
      (case f_hill_table => (refine' Sr.df_mk KX G ?a ?l ?c ?k; (case a => k_is); (case l => k_is); (case c => k_is); (case k => k_is)))
      (case f_keeps_table => (refine' Sr.df_mk KX G ?a ?l ?c ?k; (case a => k_is); (case l => k_is); (case c => k_is); (case k => k_is)))
      (case f_ground_table => (refine' Sr.df_mk KX G ?a ?l ?c ?k; (case a => k_is); (case l => k_is); (case c => k_is); (case k => k_is)))
      (case f_rises_table => (refine' Sr.df_mk KX G ?a ?l ?c ?k; (case a => k_is); (case l => k_is); (case c => k_is); (case k => k_is)))
      (case f_falls_table => (refine' Sr.df_mk KX G ?a ?l ?c ?k; (case a => k_is); (case l => k_is); (case c => k_is); (case k => k_is)))
      (case f_is_number => (refine' Sr.df_mk KX G ?a ?l ?c ?k; (case a => k_is); (case l => k_is); (case c => k_is); (case k => k_is)))
      (case f_is_rising => (refine' Sr.df_mk KX G ?a ?l ?c ?k; (case a => k_is); (case l => k_is); (case c => k_is); (case k => k_is)))
      (case f_is_stair => (refine' Sr.df_mk KX G ?a ?l ?c ?k; (case a => k_is); (case l => k_is); (case c => k_is); (case k => k_is)))
      (case f_check_stair => (refine' Sr.df_mk KX G ?a ?l ?c ?k; (case a => k_is); (case l => k_is); (case c => k_is); (case k => k_is)))
      (case f_bits_of => (refine' Sr.df_mk KX G ?a ?l ?c ?k; (case a => k_is); (case l => k_is); (case c => k_is); (case k => k_is)))
      (case f_least_step => (refine' Sr.df_mk KX G ?a ?l ?c ?k; (case a => k_is); (case l => k_is); (case c => k_is); (case k => k_is)))
      (case f_least_of_bits => (refine' Sr.df_mk KX G ?a ?l ?c ?k; (case a => k_is); (case l => k_is); (case c => k_is); (case k => k_is)))
      (case f_least_by => (refine' Sr.df_mk KX G ?a ?l ?c ?k; (case a => k_is); (case l => k_is); (case c => k_is); (case k => k_is)))
      (case f_least => (refine' Sr.df_mk KX G ?a ?l ?c ?k; (case a => k_is); (case l => k_is); (case c => k_is); (case k => k_is)))
      (case f_rooms_behind => (refine' Sr.df_mk KX G ?a ?l ?c ?k; (case a => k_is); (case l => k_is); (case c => k_is); (case k => k_is)))
      (case f_joined_rooms => (refine' Sr.df_mk KX G ?a ?l ?c ?k; (case a => k_is); (case l => k_is); (case c => k_is); (case k => k_is)))
      (case f_lower_levels => (refine' Sr.df_mk KX G ?a ?l ?c ?k; (case a => k_is); (case l => k_is); (case c => k_is); (case k => k_is)))
      (case f_levels_from => (refine' Sr.df_mk KX G ?a ?l ?c ?k; (case a => k_is); (case l => k_is); (case c => k_is); (case k => k_is)))
      (case f_forward => (refine' Sr.df_mk KX G ?a ?l ?c ?k; (case a => k_is); (case l => k_is); (case c => k_is); (case k => k_is)))
      (case f_ways_of_rooms => (refine' Sr.df_mk KX G ?a ?l ?c ?k; (case a => k_is); (case l => k_is); (case c => k_is); (case k => k_is)))
      (case f_search_from => (refine' Sr.df_mk KX G ?a ?l ?c ?k; (case a => k_is); (case l => k_is); (case c => k_is); (case k => k_is)))
      (case f_traced => (refine' Sr.df_mk KX G ?a ?l ?c ?k; (case a => k_is); (case l => k_is); (case c => k_is); (case k => k_is)))
      (case f_shortest_below => (refine' Sr.df_mk KX G ?a ?l ?c ?k; (case a => k_is); (case l => k_is); (case c => k_is); (case k => k_is)))
      (case f_shortest => (refine' Sr.df_mk KX G ?a ?l ?c ?k; (case a => k_is); (case l => k_is); (case c => k_is); (case k => k_is)))
      (case f__law_holds => (refine' Sr.df_mk KX G ?a ?l ?c ?k; (case a => k_is); (case l => k_is); (case c => k_is); (case k => k_is)))
      (case f__law_mixed => (refine' Sr.df_mk KX G ?a ?l ?c ?k; (case a => k_is); (case l => k_is); (case c => k_is); (case k => k_is)))
      (case f__law_draws => (refine' Sr.df_mk KX G ?a ?l ?c ?k; (case a => k_is); (case l => k_is); (case c => k_is); (case k => k_is)))
      (case f__law_spare => (refine' Sr.df_mk KX G ?a ?l ?c ?k; (case a => k_is); (case l => k_is); (case c => k_is); (case k => k_is)))
      (case f__law_ring_house => (refine' Sr.df_mk KX G ?a ?l ?c ?k; (case a => k_is); (case l => k_is); (case c => k_is); (case k => k_is)))
      (case f__law_unlike => (refine' Sr.df_mk KX G ?a ?l ?c ?k; (case a => k_is); (case l => k_is); (case c => k_is); (case k => k_is)))
      (case f__law_gate_house => (refine' Sr.df_mk KX G ?a ?l ?c ?k; (case a => k_is); (case l => k_is); (case c => k_is); (case k => k_is)))
      (case f__law_drawn_house => (refine' Sr.df_mk KX G ?a ?l ?c ?k; (case a => k_is); (case l => k_is); (case c => k_is); (case k => k_is)))
      (case f__law_house => (refine' Sr.df_mk KX G ?a ?l ?c ?k; (case a => k_is); (case l => k_is); (case c => k_is); (case k => k_is)))
      (case f__law_cell => (refine' Sr.df_mk KX G ?a ?l ?c ?k; (case a => k_is); (case l => k_is); (case c => k_is); (case k => k_is)))
      (case f__law_place => (refine' Sr.df_mk KX G ?a ?l ?c ?k; (case a => k_is); (case l => k_is); (case c => k_is); (case k => k_is)))
      (case f__law_whole => (refine' Sr.df_mk KX G ?a ?l ?c ?k; (case a => k_is); (case l => k_is); (case c => k_is); (case k => k_is)))
      (case f__law_rises => (refine' Sr.df_mk KX G ?a ?l ?c ?k; (case a => k_is); (case l => k_is); (case c => k_is); (case k => k_is)))
      (case f__law_is_stair => (refine' Sr.df_mk KX G ?a ?l ?c ?k; (case a => k_is); (case l => k_is); (case c => k_is); (case k => k_is)))
      (case f__law_walk => (refine' Sr.df_mk KX G ?a ?l ?c ?k; (case a => k_is); (case l => k_is); (case c => k_is); (case k => k_is)))
      (case f__law_behind => (refine' Sr.df_mk KX G ?a ?l ?c ?k; (case a => k_is); (case l => k_is); (case c => k_is); (case k => k_is)))
      (case f__law_gone => (refine' Sr.df_mk KX G ?a ?l ?c ?k; (case a => k_is); (case l => k_is); (case c => k_is); (case k => k_is)))
      (case f__law_shut => (refine' Sr.df_mk KX G ?a ?l ?c ?k; (case a => k_is); (case l => k_is); (case c => k_is); (case k => k_is)))
      (case f_law => (refine' Sr.df_mk KX G ?a ?l ?c ?k; (case a => k_is); (case l => k_is); (case c => k_is); (case k => k_is)))
    case kk =>
      intro aR des dn T
      exact Sr.law_fn T hmg
