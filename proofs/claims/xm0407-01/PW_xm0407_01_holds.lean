import PyProof.Rows.All
import Wide.All
import OpenK.AllK
import Wide.FinOn
import PySem.Challenge.RW_xm0407_01
set_option Elab.async false
set_option maxRecDepth 100000
set_option linter.all false
set_option exponentiation.threshold 30000
open PySem PySem.W PySem.Calls PyProof.Rows PySem.Spec
set_option maxHeartbeats 8000000
namespace Mine
/-! ## data, slots, environments -/
inductive Vx where
  | dat (d : PyData)
  | fn (f : Str)
  | cut (lo hi st : Option Int)
inductive Slot where
  | unset
  | val (v : Vx)
  | own (xs : List PyData)
  | glob
noncomputable abbrev Rho := List (Str × Slot)
noncomputable def got : Rho → Str → Option Slot
  | [], _ => none
  | (k, t) :: r, x => if (k == x) = true then some t else got r x
noncomputable def put : Rho → Str → Slot → Rho
  | [], _, _ => []
  | (k, t) :: r, x, s => if (k == x) = true then (k, s) :: r else (k, t) :: put r x s
noncomputable def find1 {α : Type} : List (Str × α) → Str → Option α
  | [], _ => none
  | (k, t) :: r, x => if (k == x) = true then some t else find1 r x
theorem find1_mem {α : Type} {x : Str} {t : α} : ∀ {l : List (Str × α)}, find1 l x = some t → (x, t) ∈ l
  | [], h => by cases h
  | (k, u) :: r, h => by
    unfold find1 at h
    split at h
    · rename_i e; cases h; rw [← eq_of_beq e]; exact .head _
    · exact .tail _ (find1_mem h)
theorem got_put_self {x : Str} {s : Slot} : ∀ {ρ : Rho}, (got ρ x).isSome = true → got (put ρ x s) x = some s
  | [], h => by cases h
  | (k, t) :: r, h => by
    unfold put
    by_cases e : (k == x) = true
    · rw [if_pos e]; unfold got; rw [if_pos e]
    · rw [if_neg e]; unfold got; rw [if_neg e]; unfold got at h; rw [if_neg e] at h; exact got_put_self h
theorem got_put_ne {x y : Str} {s : Slot} (hne : y ≠ x) : ∀ {ρ : Rho}, got (put ρ x s) y = got ρ y
  | [] => rfl
  | (k, t) :: r => by
    unfold put
    by_cases e : (k == x) = true
    · have ky : ¬ (k == y) = true := fun q => hne ((eq_of_beq q).symm.trans (eq_of_beq e))
      rw [if_pos e]; unfold got; rw [if_neg ky, if_neg ky]
    · rw [if_neg e]; unfold got
      by_cases q : (k == y) = true
      · rw [if_pos q, if_pos q]
      · rw [if_neg q, if_neg q]; exact got_put_ne hne
theorem got_put {x y : Str} {s t : Slot} {ρ : Rho} (h : got (put ρ x s) y = some t) : (y = x ∧ t = s) ∨ (y ≠ x ∧ got ρ y = some t) := by
  by_cases e : y = x
  · subst e
    left
    have : (got ρ y).isSome = true := by
      cases q : got ρ y with
      | some _ => rfl
      | none =>
        exfalso
        have none_put : ∀ {ρ : Rho}, got ρ y = none → got (put ρ y s) y = none := by
          intro ρ
          induction ρ with
          | nil => intro _; rfl
          | cons p r ih =>
            obtain ⟨k, u⟩ := p
            intro hq
            unfold got at hq
            split at hq
            · cases hq
            · rename_i e1; unfold put; rw [if_neg e1]; unfold got; rw [if_neg e1]; exact ih hq
        rw [none_put q] at h; cases h
    rw [got_put_self this] at h
    exact ⟨rfl, (Option.some.inj h).symm⟩
  · exact .inr ⟨e, by rw [got_put_ne e] at h; exact h⟩
theorem ofString_inj {a b : String} (h : Str.ofString a = Str.ofString b) : a = b := by
  rw [Str.ofString_eq_toList, Str.ofString_eq_toList] at h
  have h1 := congrArg (fun s : Str => s.cps.toList) h
  simp only at h1
  have inj : ∀ (l m : List Char), l.map Char.toNat = m.map Char.toNat → l = m := by
    intro l
    induction l with
    | nil => intro m h; cases m with | nil => rfl | cons c t => cases h
    | cons c t ih =>
      intro m h
      cases m with
      | nil => cases h
      | cons d u =>
        simp only [List.map_cons, List.cons.injEq] at h
        rw [Char.toNat_inj.mp h.1, ih u h.2]
  exact String.toList_inj.mp (inj _ _ h1)
theorem ofString_beq (a b : String) : (Str.ofString a == Str.ofString b) = (a == b) := by
  by_cases h : a = b
  · subst h; simp
  · have : Str.ofString a ≠ Str.ofString b := fun e => h (ofString_inj e)
    rw [beq_eq_false_iff_ne.mpr this, beq_eq_false_iff_ne.mpr h]
/-! ## heaps -/
noncomputable def absorb (hF h : Heap) (P : Addr → Bool) : Heap := hideAll h ((List.range h.objs.size).filter fun b => !((hF.get? b).isSome || P b))
theorem absorb_get {hF h : Heap} {P : Addr → Bool} {b : Addr} {o : Obj} : (absorb hF h P).get? b = some o ↔ h.get? b = some o ∧ ((hF.get? b).isSome = true ∨ P b = true) := by
  unfold absorb
  constructor
  · intro e
    have e1 := of_hideAll _ e
    refine ⟨e1, ?_⟩
    by_cases q : (hF.get? b).isSome = true
    · exact .inl q
    · by_cases p : P b = true
      · exact .inr p
      · exfalso
        have hm : b ∈ (List.range h.objs.size).filter fun b => !((hF.get? b).isSome || P b) := by
          refine List.mem_filter.mpr ⟨List.mem_range.mpr (Heap.lt_size e1), ?_⟩
          rw [Bool.not_eq_true] at q p
          rw [q, p]; rfl
        rw [hideAll_none _ hm] at e; cases e
  · rintro ⟨e, q⟩
    refine hideAll_get _ e fun hm => ?_
    have h2 := (List.mem_filter.mp hm).2
    rcases q with q | q <;> rw [q] at h2 <;> simp at h2

noncomputable def Rd (mg : Str → Option Value) (h : Heap) (v : Value) : Vx → Prop
  | .dat d => ∃ as, Reads h v d as
  | .fn f => mg f = some v ∧ ∃ a, v = .ref a
  | .cut lo hi st => ∃ a vl vu vt, v = .ref a ∧ h.IsSliceOf a vl vu vt ∧ IsPart vl lo ∧ IsPart vu hi ∧ IsPart vt st
inductive Rds (mg : Str → Option Value) (h : Heap) : List Value → List Vx → Prop
  | nil : Rds mg h [] []
  | cons {v d vs ds} : Rd mg h v d → Rds mg h vs ds → Rds mg h (v :: vs) (d :: ds)
theorem Rd.mono {mg : Str → Option Value} {h h' : Heap} (k : h.StaysIn h') {v : Value} : ∀ {d : Vx}, Rd mg h v d → Rd mg h' v d
  | .dat _, ⟨as, r⟩ => ⟨as, Reads.keeps k r⟩
  | .fn _, r => r
  | .cut .., ⟨a, vl, vu, vt, e, ⟨o, ho, q⟩, r⟩ => ⟨a, vl, vu, vt, e, ⟨o, k _ _ ho, q⟩, r⟩
theorem Rds.mono {mg : Str → Option Value} {h h' : Heap} (k : h.StaysIn h') {vs : List Value} {ds : List Vx} (r : Rds mg h vs ds) : Rds mg h' vs ds := by
  induction r with
  | nil => exact .nil
  | cons a _ ih => exact .cons (a.mono k) ih
theorem Rds.snoc {mg : Str → Option Value} {h : Heap} {vs : List Value} {ds : List Vx} {v : Value} {d : Vx} (r : Rds mg h vs ds) (q : Rd mg h v d) : Rds mg h (vs ++ [v]) (ds ++ [d]) := by
  induction r with
  | nil => exact .cons q .nil
  | cons a _ ih => exact .cons a ih
theorem Rds.length {mg : Str → Option Value} {h : Heap} {vs : List Value} {ds : List Vx} (r : Rds mg h vs ds) : vs.length = ds.length := by
  induction r with
  | nil => rfl
  | cons _ _ ih => simp [ih]
noncomputable def dats : List Vx → Option (List PyData)
  | [] => some []
  | .dat d :: r => (dats r).map (d :: ·)
  | .fn _ :: _ => none
  | .cut .. :: _ => none
theorem Rds.reads {mg : Str → Option Value} {h : Heap} {vs : List Value} {ds : List Vx} (r : Rds mg h vs ds) : ∀ {xs : List PyData}, dats ds = some xs → ∃ as, ReadsAll h vs xs as := by
  induction r with
  | nil => intro xs e; cases e; exact ⟨_, .nil⟩
  | @cons v d vs ds a _ ih =>
    intro xs e
    cases d with
    | fn f => cases e
    | cut => cases e
    | dat d =>
      unfold dats at e
      cases q : dats ds with
      | none => rw [q] at e; cases e
      | some ys =>
        rw [q] at e; cases e
        obtain ⟨as, ra⟩ := a
        obtain ⟨bs, rb⟩ := ih q
        exact ⟨_, .cons ra rb⟩
theorem readsAll_length {h : Heap} {vs : List Value} {xs : List PyData} {as : List Addr} (r : ReadsAll h vs xs as) : vs.length = xs.length := by
  cases r with
  | nil => rfl
  | cons a b => simp only [List.length_cons, readsAll_length b]
theorem readsAll_get {h : Heap} {vs : List Value} {xs : List PyData} {as : List Addr} (r : ReadsAll h vs xs as) {i : Nat} {d : PyData} (e : xs[i]? = some d) : ∃ v bs, vs[i]? = some v ∧ Reads h v d bs := by
  induction i generalizing vs xs as with
  | zero =>
    cases r with
    | nil => cases e
    | cons a b => simp at e; subst e; exact ⟨_, _, rfl, a⟩
  | succ i ih =>
    cases r with
    | nil => cases e
    | cons a b => simp at e; obtain ⟨v, bs, h1, h2⟩ := ih b e; exact ⟨v, bs, by simpa using h1, h2⟩
theorem readsAll_get' {h : Heap} {vs : List Value} {xs : List PyData} {as : List Addr} (r : ReadsAll h vs xs as) {i : Nat} {v : Value} (e : vs[i]? = some v) : ∃ d bs, xs[i]? = some d ∧ Reads h v d bs := by
  have hl := readsAll_length r
  have hi : i < vs.length := (List.getElem?_eq_some_iff.mp e).1
  have hx : xs[i]? = some xs[i] := List.getElem?_eq_getElem (by omega)
  obtain ⟨v', bs, h1, h2⟩ := readsAll_get r hx
  rw [e] at h1; cases h1
  exact ⟨_, bs, hx, h2⟩
theorem readsAll_append {h : Heap} {ws : List Value} {ys : List PyData} {bs : List Addr} (q : ReadsAll h ws ys bs) : ∀ {vs : List Value} {xs : List PyData} {as : List Addr}, ReadsAll h vs xs as → ∃ cs, ReadsAll h (vs ++ ws) (xs ++ ys) cs
  | _, _, _, .nil => ⟨_, q⟩
  | _, _, _, .cons a b => let ⟨_, r⟩ := readsAll_append q b; ⟨_, .cons a r⟩
theorem readsAll_set {h : Heap} {v : Value} {d : PyData} {bs : List Addr} (q : Reads h v d bs) : ∀ {vs : List Value} {xs : List PyData} {as : List Addr} (i : Nat), ReadsAll h vs xs as → ∃ cs, ReadsAll h (vs.set i v) (xs.set i d) cs
  | _, _, _, _, .nil => ⟨_, .nil⟩
  | _, _, _, 0, .cons _ b => ⟨_, .cons q b⟩
  | _, _, _, i + 1, .cons a b => let ⟨_, r⟩ := readsAll_set q i b; ⟨_, .cons a r⟩
theorem readsAll_drop {h : Heap} : ∀ {vs : List Value} {xs : List PyData} {as : List Addr} (i : Nat), ReadsAll h vs xs as → ∃ cs, ReadsAll h (vs.drop i) (xs.drop i) cs
  | _, _, _, 0, r => ⟨_, r⟩
  | _, _, _, _ + 1, .nil => ⟨_, .nil⟩
  | _, _, _, i + 1, .cons _ b => readsAll_drop i b
theorem readsAll_take {h : Heap} : ∀ {vs : List Value} {xs : List PyData} {as : List Addr} (i : Nat), ReadsAll h vs xs as → ∃ cs, ReadsAll h (vs.take i) (xs.take i) cs
  | _, _, _, 0, _ => ⟨_, .nil⟩
  | _, _, _, _ + 1, .nil => ⟨_, .nil⟩
  | _, _, _, i + 1, .cons a b => let ⟨_, r⟩ := readsAll_take i b; ⟨_, .cons a r⟩
theorem readsAll_reverse {h : Heap} : ∀ {vs : List Value} {xs : List PyData} {as : List Addr}, ReadsAll h vs xs as → ∃ cs, ReadsAll h vs.reverse xs.reverse cs
  | _, _, _, .nil => ⟨_, .nil⟩
  | _, _, _, .cons a b => by
    obtain ⟨_, r⟩ := readsAll_reverse b
    obtain ⟨_, q⟩ := readsAll_append (.cons a .nil) r
    rw [List.reverse_cons, List.reverse_cons]
    exact ⟨_, q⟩
theorem readsAll_replicate {h : Heap} {v : Value} {d : PyData} {bs : List Addr} (q : Reads h v d bs) : ∀ n : Nat, ∃ cs, ReadsAll h (List.replicate n v) (List.replicate n d) cs
  | 0 => ⟨_, .nil⟩
  | n + 1 => let ⟨_, r⟩ := readsAll_replicate q n; ⟨_, .cons q r⟩
theorem rd_list {mg : Str → Option Value} {h : Heap} {v : Value} {xs : List PyData} (r : Rd mg h v (.dat (.list xs))) : ∃ a vs as, v = .ref a ∧ h.IsList a vs.toArray ∧ ReadsAll h vs xs as := by
  obtain ⟨as, r⟩ := r
  cases r with
  | @list a o vs n xs as ho hc hd r => exact ⟨a, vs.toList, as, rfl, ⟨o, ho, hc, n, by simpa using hd⟩, r⟩
theorem rd_tuple {mg : Str → Option Value} {h : Heap} {v : Value} {xs : List PyData} (r : Rd mg h v (.dat (.tuple xs))) : ∃ a vs as, v = .ref a ∧ IsTup h a vs.toArray ∧ ReadsAll h vs xs as := by
  obtain ⟨as, r⟩ := r
  cases r with
  | @tuple a o vs n xs as ho hc hd r => exact ⟨a, vs.toList, as, rfl, ⟨o, ho, hc, n, by simpa using hd⟩, r⟩
theorem rd_int {mg : Str → Option Value} {h : Heap} {v : Value} {i : Int} (r : Rd mg h v (.dat (.int i))) : ∃ t, v = .int i t := by
  obtain ⟨as, r⟩ := r
  cases r with
  | int i t => exact ⟨t, rfl⟩
theorem rd_bool {mg : Str → Option Value} {h : Heap} {v : Value} {b : Bool} (r : Rd mg h v (.dat (.bool b))) : v = .bool b := by
  obtain ⟨as, r⟩ := r
  cases r with
  | bool b => rfl
theorem rd_none {mg : Str → Option Value} {h : Heap} {v : Value} (r : Rd mg h v (.dat .none)) : v = .none := by
  obtain ⟨as, r⟩ := r
  cases r with
  | none => rfl
theorem rdI {mg : Str → Option Value} {h : Heap} (i : Int) (t : Tok) : Rd mg h (.int i t) (.dat (.int i)) := ⟨_, .int i t⟩
theorem rdB {mg : Str → Option Value} {h : Heap} (b : Bool) : Rd mg h (.bool b) (.dat (.bool b)) := ⟨_, .bool b⟩
theorem rdList {mg : Str → Option Value} {h : Heap} {a : Addr} {vs : List Value} {xs : List PyData} {as : List Addr} (hl : h.IsList a vs.toArray) (r : ReadsAll h vs xs as) : Rd mg h (.ref a) (.dat (.list xs)) := by
  obtain ⟨o, ho, hc, n, hd⟩ := hl
  exact ⟨_, .list ho hc hd (by simpa using r)⟩
theorem rdTuple {mg : Str → Option Value} {h : Heap} {a : Addr} {vs : List Value} {xs : List PyData} {as : List Addr} (hl : IsTup h a vs.toArray) (r : ReadsAll h vs xs as) : Rd mg h (.ref a) (.dat (.tuple xs)) := by
  obtain ⟨o, ho, hc, n, hd⟩ := hl
  exact ⟨_, .tuple ho hc hd (by simpa using r)⟩

/-! ## the state that is kept -/
noncomputable def SlotOk (mg : Str → Option Value) (m : Str → Option Value) (X : List Addr) (hF h : Heap) (L : Addr) (x : Str) : Slot → Prop
  | .val v => ∃ u, m x = some u ∧ Rd mg hF u v
  | .own xs => ∃ a vs as, m x = some (.ref a) ∧ h.PlainList a vs.toArray ∧ hF.get? a = none ∧ a ≠ L ∧ a ∉ X ∧ ReadsAll hF vs xs as
  | .unset => True
  | .glob => True
structure Sim (mg : Str → Option Value) (B : Heap) (p : Addr) (px : Str) (m : Str → Option Value) (X : List Addr) (L : Addr) (hF h : Heap) (ρ : Rho) : Prop where
  ns : h.Ns L m
  base : B.StaysIn hF
  keep : hF.StaysIn h
  offL : hF.get? L = none
  offX : ∀ b ∈ X, hF.get? b = none
  xL : L ∉ X
  alive : ∀ b ∈ X, ∃ o, h.get? b = some o
  slots : ∀ x s, got ρ x = some s → SlotOk mg m X hF h L x s
  apart : ∀ x y xs ys a, got ρ x = some (.own xs) → got ρ y = some (.own ys) → m x = some (.ref a) → m y = some (.ref a) → x = y
  own : ∀ x xs a, got ρ x = some (.own xs) → m x = some (.ref a) → (L < a ∧ x ≠ px) ∨ (a = p ∧ x = px)
section
variable {mg : Str → Option Value} {B : Heap} {p : Addr} {px : Str} {m : Str → Option Value} {X : List Addr} {L : Addr} {hF hF' h h' : Heap} {ρ : Rho}
theorem Sim.grow (S : Sim mg B p px m X L hF h ρ) (k1 : h.StaysIn h') (k2 : hF.StaysIn hF') (k3 : hF'.StaysIn h') (off : ∀ b o, hF'.get? b = some o → hF.get? b = some o ∨ h.objs.size ≤ b) : Sim mg B p px m X L hF' h' ρ := by
  have none_of : ∀ {b : Addr}, hF.get? b = none → (∃ o, h.get? b = some o) → hF'.get? b = none := by
    rintro b e ⟨o, ho⟩
    cases q : hF'.get? b with
    | none => rfl
    | some o' =>
      rcases off b o' q with r | r
      · rw [e] at r; cases r
      · exact absurd (Heap.lt_size ho) (Nat.not_lt.mpr r)
  obtain ⟨oL, es, ep, hL, r⟩ := S.ns
  refine ⟨⟨oL, es, ep, k1 _ _ hL, r⟩, fun b o e => k2 b o (S.base b o e), k3, none_of S.offL ⟨oL, hL⟩, fun b hb => none_of (S.offX b hb) (S.alive b hb), S.xL, fun b hb => let ⟨o, e⟩ := S.alive b hb; ⟨o, k1 _ _ e⟩, ?_, S.apart, S.own⟩
  intro x s e
  have q := S.slots x s e
  cases s with
  | val v => obtain ⟨u, h1, h2⟩ := q; exact ⟨u, h1, h2.mono k2⟩
  | own xs =>
    obtain ⟨a, vs, as, h1, h2, h3, h4, h5, h6⟩ := q
    obtain ⟨n, ha⟩ := id h2
    exact ⟨a, vs, as, h1, h2.at fun o e => k1 _ _ e, none_of h3 ⟨_, ha⟩, h4, h5, ReadsAll.keeps k2 h6⟩
  | _ => trivial
/-- a new object, taken into the frozen part -/
theorem Sim.push (S : Sim mg B p px m X L hF h ρ) (k1 : h.StaysIn h') {a : Addr} {o : Obj} (ha : h.objs.size ≤ a) (ho : h'.get? a = some o) :
    ∃ hF', Sim mg B p px m X L hF' h' ρ ∧ hF.StaysIn hF' ∧ hF'.get? a = some o ∧ (∀ b o, hF'.get? b = some o → hF.get? b = some o ∨ h.objs.size ≤ b) := by
  have k2 : hF.StaysIn (absorb hF h' (· == a)) := fun b o e => absorb_get.mpr ⟨k1 _ _ (S.keep b o e), .inl (by rw [e]; rfl)⟩
  have off : ∀ b o, (absorb hF h' (· == a)).get? b = some o → hF.get? b = some o ∨ h.objs.size ≤ b := by
    intro b o e
    obtain ⟨e1, e2⟩ := absorb_get.mp e
    rcases e2 with e2 | e2
    · left
      cases q : hF.get? b with
      | none => rw [q] at e2; cases e2
      | some o' => have := k1 _ _ (S.keep b o' q); rw [e1] at this; exact this.symm
    · right; rw [eq_of_beq e2]; exact ha
  exact ⟨_, S.grow k1 k2 (fun b o e => (absorb_get.mp e).1) off, k2, absorb_get.mpr ⟨ho, .inr (by simp)⟩, off⟩
/-- an own list read as a value: frozen -/
theorem Sim.freeze {x : Str} {xs : List PyData} (S : Sim mg B p px m X L hF h ρ) (e : got ρ x = some (.own xs)) :
    ∃ hF' a, m x = some (.ref a) ∧ Rd mg hF' (.ref a) (.dat (.list xs)) ∧ Sim mg B p px m X L hF' h (put ρ x (.val (.dat (.list xs)))) ∧ hF.StaysIn hF' ∧ (∀ b o, hF'.get? b = some o → hF.get? b = some o ∨ b = a) := by
  obtain ⟨a, vs, as, h1, h2, h3, h4, h5, h6⟩ := S.slots x _ e
  have k2 : hF.StaysIn (absorb hF h (· == a)) := fun b o e => absorb_get.mpr ⟨S.keep b o e, .inl (by rw [e]; rfl)⟩
  have off : ∀ b o, (absorb hF h (· == a)).get? b = some o → hF.get? b = some o ∨ b = a := by
    intro b o e
    obtain ⟨e1, e2⟩ := absorb_get.mp e
    rcases e2 with e2 | e2
    · left
      cases q : hF.get? b with
      | none => rw [q] at e2; cases e2
      | some o' => have := S.keep b o' q; rw [e1] at this; exact this.symm
    · exact .inr (eq_of_beq e2)
  have none_of : ∀ {b : Addr}, hF.get? b = none → b ≠ a → (absorb hF h (· == a)).get? b = none := by
    intro b q hb
    cases r : (absorb hF h (· == a)).get? b with
    | none => rfl
    | some o => rcases off b o r with r | r
                · rw [q] at r; cases r
                · exact absurd r hb
  obtain ⟨n, ha⟩ := id h2
  have hl : Rd mg (absorb hF h (· == a)) (.ref a) (.dat (.list xs)) := rdList ⟨_, absorb_get.mpr ⟨ha, .inr (by simp)⟩, rfl, n, rfl⟩ (ReadsAll.keeps k2 h6)
  refine ⟨_, a, h1, hl, ⟨S.ns, fun b o e => k2 b o (S.base b o e), fun b o e => (absorb_get.mp e).1, none_of S.offL (Ne.symm h4), fun b hb => none_of (S.offX b hb) (fun q => h5 (q ▸ hb)), S.xL, S.alive, ?_, ?_, ?_⟩, k2, off⟩
  · intro y s q
    rcases got_put q with ⟨rfl, rfl⟩ | ⟨hy, q⟩
    · exact ⟨_, h1, hl⟩
    · have p := S.slots y s q
      cases s with
      | val v => obtain ⟨u, p1, p2⟩ := p; exact ⟨u, p1, p2.mono k2⟩
      | own ys =>
        obtain ⟨b, ws, bs, p1, p2, p3, p4, p5, p6⟩ := p
        exact ⟨b, ws, bs, p1, p2, none_of p3 (fun r => hy (S.apart y x ys xs a q e (r ▸ p1) h1)), p4, p5, ReadsAll.keeps k2 p6⟩
      | _ => trivial
  · intro y z ys zs b q1 q2 r1 r2
    rcases got_put q1 with ⟨_, q⟩ | ⟨_, q1⟩
    · cases q
    · rcases got_put q2 with ⟨_, q⟩ | ⟨_, q2⟩
      · cases q
      · exact S.apart y z ys zs b q1 q2 r1 r2
  · intro y ys b q1 r1
    rcases got_put q1 with ⟨_, q⟩ | ⟨_, q1⟩
    · cases q
    · exact S.own y ys b q1 r1
/-- an own list changed -/
theorem Sim.setOwn {x : Str} {a : Addr} {xs ys : List PyData} {vs' : List Value} {as : List Addr} (S : Sim mg B p px m X L hF h ρ) (e : got ρ x = some (.own xs)) (ha : m x = some (.ref a))
    (k1 : ∀ b o, b ≠ a → h.get? b = some o → h'.get? b = some o) (hp : h'.PlainList a vs'.toArray) (k2 : hF.StaysIn hF') (k3 : hF'.StaysIn h')
    (off : ∀ b o, hF'.get? b = some o → hF.get? b = some o ∨ h.objs.size ≤ b) (hr : ReadsAll hF' vs' ys as) : Sim mg B p px m X L hF' h' (put ρ x (.own ys)) := by
  obtain ⟨a', vs, as', h1, h2, h3, h4, h5, h6⟩ := S.slots x _ e
  rw [ha] at h1; cases h1
  have none_of : ∀ {b : Addr}, hF.get? b = none → (∃ o, h.get? b = some o) → hF'.get? b = none := by
    rintro b e ⟨o, ho⟩
    cases q : hF'.get? b with
    | none => rfl
    | some o' =>
      rcases off b o' q with r | r
      · rw [e] at r; cases r
      · exact absurd (Heap.lt_size ho) (Nat.not_lt.mpr r)
  obtain ⟨oL, es, ep, hL, r⟩ := S.ns
  obtain ⟨n, hha⟩ := id h2
  refine ⟨⟨oL, es, ep, k1 _ _ (Ne.symm h4) hL, r⟩, fun b o e => k2 b o (S.base b o e), k3, none_of S.offL ⟨oL, hL⟩, fun b hb => none_of (S.offX b hb) (S.alive b hb), S.xL, fun b hb => let ⟨o, e⟩ := S.alive b hb; ⟨o, k1 _ _ (fun q => h5 (q ▸ hb)) e⟩, ?_, ?_, ?_⟩
  · intro y s q
    rcases got_put q with ⟨rfl, rfl⟩ | ⟨hy, q⟩
    · exact ⟨a, vs', as, ha, hp, none_of h3 ⟨_, hha⟩, h4, h5, hr⟩
    · have p := S.slots y s q
      cases s with
      | val v => obtain ⟨u, p1, p2⟩ := p; exact ⟨u, p1, p2.mono k2⟩
      | own zs =>
        obtain ⟨b, ws, bs, p1, p2, p3, p4, p5, p6⟩ := p
        have hb : b ≠ a := fun r => hy (S.apart y x zs xs a q e (r ▸ p1) ha)
        obtain ⟨n', hb'⟩ := id p2
        exact ⟨b, ws, bs, p1, p2.at fun o e => k1 _ _ hb e, none_of p3 ⟨_, hb'⟩, p4, p5, ReadsAll.keeps k2 p6⟩
      | _ => trivial
  · intro y z ys' zs b q1 q2 r1 r2
    have one : ∀ y s, got (put ρ x (.own ys)) y = some s → (∃ ys', s = .own ys') → ∃ ys'', got ρ y = some (.own ys'') := by
      rintro y s q ⟨ys', rfl⟩
      rcases got_put q with ⟨rfl, _⟩ | ⟨_, q⟩
      · exact ⟨xs, e⟩
      · exact ⟨_, q⟩
    obtain ⟨_, g1⟩ := one y _ q1 ⟨_, rfl⟩
    obtain ⟨_, g2⟩ := one z _ q2 ⟨_, rfl⟩
    exact S.apart y z _ _ b g1 g2 r1 r2
  · intro y ys' b q1 r1
    rcases got_put q1 with ⟨hy, _⟩ | ⟨_, q⟩
    · subst hy; exact S.own _ xs b e r1
    · exact S.own y _ b q r1
/-- a value stored under a name -/
theorem Sim.setVal {x : Str} {u : Value} {v : Vx} (S : Sim mg B p px m X L hF h ρ) (hr : Rd mg hF u v) (hn : h'.Ns L (fun y => if y = x then some u else m y)) (hs : Heap.SameBut L h h') :
    Sim mg B p px (fun y => if y = x then some u else m y) X L hF h' (put ρ x (.val v)) := by
  have k1 : ∀ b o, b ≠ L → h.get? b = some o → h'.get? b = some o := fun b o q e => (hs.2 b q).trans e
  refine ⟨hn, S.base, fun b o e => k1 b o (fun q => by rw [q, S.offL] at e; cases e) (S.keep b o e), S.offL, S.offX, S.xL, fun b hb => let ⟨o, e⟩ := S.alive b hb; ⟨o, k1 _ _ (fun q => S.xL (q ▸ hb)) e⟩, ?_, ?_, ?_⟩
  · intro y s q
    rcases got_put q with ⟨rfl, rfl⟩ | ⟨hy, q⟩
    · exact ⟨u, by simp, hr⟩
    · have p := S.slots y s q
      cases s with
      | val v => obtain ⟨u, p1, p2⟩ := p; exact ⟨u, by simpa [hy] using p1, p2⟩
      | own ys =>
        obtain ⟨b, ws, bs, p1, p2, p3, p4, p5, p6⟩ := p
        exact ⟨b, ws, bs, by simpa [hy] using p1, p2.at fun o e => k1 _ _ p4 e, p3, p4, p5, p6⟩
      | _ => trivial
  · intro y z ys zs b q1 q2 r1 r2
    rcases got_put q1 with ⟨_, q⟩ | ⟨hy, q1⟩
    · cases q
    · rcases got_put q2 with ⟨_, q⟩ | ⟨hz, q2⟩
      · cases q
      · simp only [if_neg hy] at r1; simp only [if_neg hz] at r2
        exact S.apart y z ys zs b q1 q2 r1 r2
  · intro y ys b q1 r1
    rcases got_put q1 with ⟨_, q⟩ | ⟨hy, q1⟩
    · cases q
    · simp only [if_neg hy] at r1; exact S.own y ys b q1 r1
/-- a guarded new list stored under a name: it is the frame's own -/
theorem Sim.setNew {x : Str} {a : Addr} {vs : List Value} {xs : List PyData} {as : List Addr} (S : Sim mg B p px m (a :: X) L hF h ρ) (hl : h.PlainList a vs.toArray) (haL : L < a) (hpx : x ≠ px) (hx : a ∉ X) (hr : ReadsAll hF vs xs as)
    (hn : h'.Ns L (fun y => if y = x then some (.ref a) else m y)) (hs : Heap.SameBut L h h') :
    Sim mg B p px (fun y => if y = x then some (.ref a) else m y) X L hF h' (put ρ x (.own xs)) := by
  have k1 : ∀ b o, b ≠ L → h.get? b = some o → h'.get? b = some o := fun b o q e => (hs.2 b q).trans e
  have aL : a ≠ L := fun q => S.xL (q ▸ .head _)
  have not_a : ∀ y ys b, got ρ y = some (.own ys) → m y = some (.ref b) → b ≠ a := by
    intro y ys b q e r
    obtain ⟨b', _, _, p1, _, _, _, p5, _⟩ := S.slots y _ q
    rw [e] at p1; cases p1
    exact p5 (r ▸ .head _)
  refine ⟨hn, S.base, fun b o e => k1 b o (fun q => by rw [q, S.offL] at e; cases e) (S.keep b o e), S.offL, fun b hb => S.offX b (.tail _ hb), fun hm => S.xL (.tail _ hm), fun b hb => let ⟨o, e⟩ := S.alive b (.tail _ hb); ⟨o, k1 _ _ (fun q => S.xL (q ▸ .tail _ hb)) e⟩, ?_, ?_, ?_⟩
  · intro y s q
    rcases got_put q with ⟨rfl, rfl⟩ | ⟨hy, q⟩
    · exact ⟨a, vs, as, by simp, hl.at fun o e => k1 _ _ aL e, S.offX a (.head _), aL, hx, hr⟩
    · have p := S.slots y s q
      cases s with
      | val v => obtain ⟨u, p1, p2⟩ := p; exact ⟨u, by simpa [hy] using p1, p2⟩
      | own ys =>
        obtain ⟨b, ws, bs, p1, p2, p3, p4, p5, p6⟩ := p
        exact ⟨b, ws, bs, by simpa [hy] using p1, p2.at fun o e => k1 _ _ p4 e, p3, p4, fun r => p5 (.tail _ r), p6⟩
      | _ => trivial
  · intro y z ys zs b q1 q2 r1 r2
    rcases got_put q1 with ⟨hy, _⟩ | ⟨hy, g1⟩
    · rcases got_put q2 with ⟨hz, _⟩ | ⟨hz, g2⟩
      · rw [hy, hz]
      · simp only [if_pos hy] at r1; cases r1
        simp only [if_neg hz] at r2
        exact absurd rfl (not_a z zs _ g2 r2)
    · rcases got_put q2 with ⟨hz, _⟩ | ⟨hz, g2⟩
      · simp only [if_pos hz] at r2; cases r2
        simp only [if_neg hy] at r1
        exact absurd rfl (not_a y ys _ g1 r1)
      · simp only [if_neg hy] at r1; simp only [if_neg hz] at r2
        exact S.apart y z ys zs b g1 g2 r1 r2
  · intro y ys b q1 r1
    rcases got_put q1 with ⟨hy, _⟩ | ⟨hy, q1⟩
    · simp only [if_pos hy] at r1; cases r1; exact .inl ⟨haL, hy ▸ hpx⟩
    · simp only [if_neg hy] at r1; exact S.own y ys b q1 r1
/-- a new object, guarded -/
theorem Sim.guard (S : Sim mg B p px m X L hF h ρ) (k1 : h.StaysIn h') {a : Addr} {o : Obj} (ha : h.objs.size ≤ a) (ho : h'.get? a = some o) : Sim mg B p px m (a :: X) L hF h' ρ := by
  have S' : Sim mg B p px m X L hF h' ρ := S.grow k1 (fun _ _ e => e) (fun b o e => k1 _ _ (S.keep b o e)) fun b o e => .inl e
  have lt : ∀ b o, h.get? b = some o → b ≠ a := fun b o e => Nat.ne_of_lt (Nat.lt_of_lt_of_le (Heap.lt_size e) ha)
  have none_a : hF.get? a = none := by
    cases q : hF.get? a with
    | none => rfl
    | some o' => exact absurd rfl (lt a o' (S.keep a o' q))
  obtain ⟨oL, es, ep, hL, r⟩ := S.ns
  refine ⟨S'.ns, S'.base, S'.keep, S'.offL, fun b hb => ?_, fun hm => ?_, fun b hb => ?_, ?_, S'.apart, S'.own⟩
  · rcases List.mem_cons.mp hb with rfl | hb
    · exact none_a
    · exact S'.offX b hb
  · rcases List.mem_cons.mp hm with q | hm
    · exact lt L oL hL q
    · exact S'.xL hm
  · rcases List.mem_cons.mp hb with rfl | hb
    · exact ⟨o, ho⟩
    · exact S'.alive b hb
  · intro y s q
    have p := S'.slots y s q
    cases s with
    | val v => exact p
    | own ys =>
      obtain ⟨b, ws, bs, p1, p2, p3, p4, p5, p6⟩ := p
      obtain ⟨b', ws', bs', p1', ⟨n, p2'⟩, _⟩ := S.slots y _ q
      rw [p1] at p1'; cases p1'
      refine ⟨b, ws, bs, p1, p2, p3, p4, fun r => ?_, p6⟩
      rcases List.mem_cons.mp r with r | r
      · exact lt b _ p2' r
      · exact p5 r
    | _ => trivial
theorem Sim.unguard {a : Addr} (S : Sim mg B p px m (a :: X) L hF h ρ) : Sim mg B p px m X L hF h ρ := by
  refine ⟨S.ns, S.base, S.keep, S.offL, fun b hb => S.offX b (.tail _ hb), fun hm => S.xL (.tail _ hm), fun b hb => S.alive b (.tail _ hb), ?_, S.apart, S.own⟩
  intro y s q
  have p := S.slots y s q
  cases s with
  | val v => exact p
  | own ys =>
    obtain ⟨b, ws, bs, p1, p2, p3, p4, p5, p6⟩ := p
    exact ⟨b, ws, bs, p1, p2, p3, p4, fun r => p5 (.tail _ r), p6⟩
  | _ => trivial
/-- the guarded objects may turn -/
theorem Sim.turn (S : Sim mg B p px m X L hF h ρ) (k1 : ∀ b o, b ∉ X → h.get? b = some o → h'.get? b = some o) (al : ∀ b ∈ X, ∃ o, h'.get? b = some o) : Sim mg B p px m X L hF h' ρ := by
  obtain ⟨oL, es, ep, hL, r⟩ := S.ns
  refine ⟨⟨oL, es, ep, k1 _ _ S.xL hL, r⟩, S.base, fun b o e => k1 b o (fun q => by rw [S.offX b q] at e; cases e) (S.keep b o e), S.offL, S.offX, S.xL, al, ?_, S.apart, S.own⟩
  intro y s q
  have p := S.slots y s q
  cases s with
  | val v => exact p
  | own ys =>
    obtain ⟨b, ws, bs, p1, p2, p3, p4, p5, p6⟩ := p
    exact ⟨b, ws, bs, p1, p2.at fun o e => k1 _ _ p5 e, p3, p4, p5, p6⟩
  | _ => trivial
end
/-! ## the conditions -/
noncomputable abbrev SpecF := List Vx → Vx → Prop
noncomputable abbrev SpecM := List PyData → List Vx → Vx → List PyData → Prop
structure Ctx where
  px : Str
  fns : List (Str × SpecF)
  muts : List (Str × SpecM)
inductive Fl where
  | next
  | brk
  | cont
  | ret (v : Vx)
noncomputable abbrev vInt (i : Int) : Vx := .dat (.int i)
noncomputable def asInt (v : Vx) (K : Int → Prop) : Prop := match v with
  | .dat (.int i) => K i
  | _ => False
noncomputable def constV (c : Const) (K : Vx → Prop) : Prop := match c with
  | .int i => K (.dat (.int i))
  | .bool b => K (.dat (.bool b))
  | _ => False
noncomputable def nameV (C : Ctx) (ρ : Rho) (x : Str) (Q : Vx → Rho → Prop) : Prop := match got ρ x with
  | some (.val v) => Q v ρ
  | some (.own xs) => Q (.dat (.list xs)) (put ρ x (.val (.dat (.list xs))))
  | some .glob => (find1 C.fns x).isSome = true ∧ Q (.fn x) ρ
  | _ => False
noncomputable def binI (op : Operator) (a b : Int) (K : Int → Prop) : Prop := match op with
  | .Add => K (a + b)
  | .Sub => K (a - b)
  | .Mult => a.natAbs < 2 ^ 62 ∧ K (a * b)
  | .FloorDiv => 0 < b ∧ b < 2 ^ 62 ∧ K (a / b)
  | .Mod => 0 < b ∧ K (a % b)
  | .BitAnd => ∃ k : Nat, b = 2 ^ k - 1 ∧ K (a % 2 ^ k)
  | .BitOr => (∃ (k : Nat) (h : Int), 0 ≤ h ∧ ((a = h * 2 ^ k ∧ 0 ≤ b ∧ b < 2 ^ k) ∨ (b = h * 2 ^ k ∧ 0 ≤ a ∧ a < 2 ^ k))) ∧ K (a + b)
  | .LShift => 0 ≤ b ∧ b ≤ 1000000 ∧ a.natAbs < 2 ^ 64 ∧ K (a * 2 ^ b.toNat)
  | .RShift => 0 ≤ b ∧ K (a / 2 ^ b.toNat)
  | .Pow => 0 ≤ b ∧ b ≤ 1000000 ∧ a.natAbs < 2 ^ 64 ∧ K (a ^ b.toNat)
  | _ => False
noncomputable def binV (op : Operator) (a b : Vx) (K : Vx → Prop) : Prop := match a, b with
  | .dat (.int i), .dat (.int j) => binI op i j fun k => K (.dat (.int k))
  | .dat (.list xs), .dat (.list ys) => op = .Add ∧ xs.length + ys.length ≤ 1000000 ∧ K (.dat (.list (xs ++ ys)))
  | .dat (.list xs), .dat (.int n) => op = .Mult ∧ ∃ x, xs = [x] ∧ 0 ≤ n ∧ n ≤ 1000000 ∧ K (.dat (.list (List.replicate n.toNat x)))
  | _, _ => False
noncomputable def unV (op : UnaryOp) (a : Vx) (K : Vx → Prop) : Prop := (op = .USub ∧ asInt a fun i => K (.dat (.int (-i)))) ∨ (op = .Not ∧ ∃ b, a = .dat (.bool b) ∧ K (.dat (.bool (!b))))
noncomputable def eqD (a b : PyData) (K : Bool → Prop) : Prop := match a, b with
  | .int i, .int j => K (decide (i = j))
  | a, b => SeqAt.shaped a = true ∧ SeqAt.shaped b = true ∧ K (PyData.eqv a b)
noncomputable def cmpI (op : CmpOp) (i j : Int) (K : Bool → Prop) : Prop := match op with
  | .Lt => K (decide (i < j))
  | .LtE => K (decide (i ≤ j))
  | .Gt => K (decide (j < i))
  | .GtE => K (decide (j ≤ i))
  | .Eq => K (decide (i = j))
  | .NotEq => K (!decide (i = j))
  | _ => False
noncomputable def cmpD (op : CmpOp) (a b : PyData) (K : Bool → Prop) : Prop := match a, b with
  | .int i, .int j => cmpI op i j K
  | a, b => SeqAt.shaped a = true ∧ SeqAt.shaped b = true ∧ match op with
    | .Eq => K (PyData.eqv a b)
    | .NotEq => K (!PyData.eqv a b)
    | _ => False
noncomputable def cmpV (op : CmpOp) (a b : Vx) (K : Bool → Prop) : Prop := match a, b with
  | .dat a, .dat b => cmpD op a b K
  | _, _ => False
noncomputable def itemL (xs : List PyData) (i : Int) (K : Vx → Prop) : Prop := -(2 ^ 62) ≤ i ∧ i < 2 ^ 62 ∧ -(xs.length : Int) ≤ i ∧ ∃ d, xs[(if i < 0 then i + xs.length else i).toNat]? = some d ∧ K (.dat d)
noncomputable def cutL (xs : List PyData) (lo hi st : Option Int) (K : Vx → Prop) : Prop := xs.length ≤ 1000000 ∧ match lo, hi, st with
  | none, none, none => K (.dat (.list xs))
  | none, some b, none => 0 ≤ b ∧ b ≤ xs.length ∧ K (.dat (.list (xs.take b.toNat)))
  | some a, some b, none => 0 ≤ a ∧ a ≤ b ∧ b ≤ xs.length ∧ K (.dat (.list ((xs.drop a.toNat).take (b - a).toNat)))
  | none, none, some k => k = -1 ∧ K (.dat (.list xs.reverse))
  | _, _, _ => False
noncomputable def subV (o : PyData) (k : Vx) (K : Vx → Prop) : Prop := match o, k with
  | .list xs, .dat (.int i) => itemL xs i K
  | .tuple xs, .dat (.int i) => itemL xs i K
  | .list xs, .cut lo hi st => cutL xs lo hi st K
  | _, _ => False
noncomputable def lenV (v : Vx) (K : Vx → Prop) : Prop := match v with
  | .dat (.list xs) => xs.length < 2 ^ 60 ∧ K (.dat (.int xs.length))
  | _ => False
noncomputable def minV (vs : List Vx) (K : Vx → Prop) : Prop := match vs with
  | [.dat (.int a), .dat (.int b)] => K (.dat (.int (if b < a then b else a)))
  | _ => False
noncomputable def ownName (ρ : Rho) (v : Expr) : Option Str := match v with
  | .Name x _ => (match got ρ x with | some (.own _) => some x | _ => none)
  | _ => none
noncomputable def noStar : Expr → Bool
  | .Starred .. => false
  | _ => true
noncomputable def noTup : Expr → Bool
  | .Tuple .. => false
  | _ => true
noncomputable def isNm : Expr → Bool
  | .Name .. => true
  | _ => false
noncomputable def isPr : Expr → Bool
  | .Tuple [.Name .., .Name ..] _ _ => true
  | _ => false
noncomputable def noSet : Expr → Bool
  | .Set .. => false
  | _ => true
inductive Callee where
  | user (S : SpecF)
  | mut (S : SpecM)
  | len
  | min
  | bad
noncomputable def callee (C : Ctx) (ρ : Rho) (g : Str) : Callee := match got ρ g with
  | some .glob => (match find1 C.muts g with
    | some S => .mut S
    | none => (match find1 C.fns g with
      | some S => .user S
      | none => if (g == Str.ofString "len") = true then .len else if (g == Str.ofString "min") = true then .min else .bad))
  | some (.val (.fn f)) => (match find1 C.fns f with | some S => .user S | none => .bad)
  | _ => .bad
/-- a method call is what it looks like -/
noncomputable def MethOk (o : Expr) (name : Str) (apos : Pos) (args : List Expr) (pos : Pos) : Prop :=
  ∃ pl : Env → Sem Bool, ∀ env : Env, eval (.Call (.Attribute o name apos) args [] pos) env = (do
      let ov ← eval o env
      standAt apos.atName
      let (f, first) ← holding [ov] (getMethod ov name (pl env))
      callWith pos f first (backTo pos (starEach args env)) [])
noncomputable def optInt (v : Vx) (K : Option Int → Prop) : Prop := match v with
  | .dat (.int i) => K (some i)
  | _ => False
noncomputable def mutW (S : SpecM) (ρ : Rho) (a : Expr) (Rs : Rho → (List Vx → Rho → Prop) → Prop) (Q : Vx → Rho → Prop) : Prop := match a with
  | .Name x _ => (∃ xs, got ρ x = some (.own xs)) ∧ Rs ρ fun vs ρ1 => ∃ xs r ys, got ρ1 x = some (.own xs) ∧ S xs vs r ys ∧ Q r (put ρ1 x (.own ys))
  | _ => False
noncomputable def lenW (ρ : Rho) (a : Expr) (rest : List Expr) (A : Rho → (Vx → Rho → Prop) → Prop) (Q : Vx → Rho → Prop) : Prop := match rest with
  | [] => (match ownName ρ a with
    | some x => ∃ xs, got ρ x = some (.own xs) ∧ lenV (.dat (.list xs)) fun v => Q v ρ
    | none => A ρ fun v ρ1 => lenV v fun r => Q r ρ1)
  | _ => False
/-- a call of a name, with a first argument -/
noncomputable def callW (C : Ctx) (ρ : Rho) (g : Str) (a : Expr) (rest : List Expr) (A : Rho → (Vx → Rho → Prop) → Prop) (Rs : Rho → (List Vx → Rho → Prop) → Prop) (Q : Vx → Rho → Prop) : Prop := match callee C ρ g with
  | .user S => A ρ fun v ρ1 => Rs ρ1 fun vs ρ2 => ∃ r, S (v :: vs) r ∧ Q r ρ2
  | .mut S => mutW S ρ a Rs Q
  | .len => lenW ρ a rest A Q
  | .min => (a :: rest).all noStar = true ∧ A ρ fun v ρ1 => Rs ρ1 fun vs ρ2 => minV (v :: vs) fun v => Q v ρ2
  | .bad => False
mutual
noncomputable def wpE (C : Ctx) : Expr → Rho → (Vx → Rho → Prop) → Prop
  | .Constant c _ _, ρ, Q => constV c fun v => Q v ρ
  | .Name x _, ρ, Q => nameV C ρ x Q
  | .BinOp l op r _, ρ, Q => wpE C l ρ fun a ρ1 => wpE C r ρ1 fun b ρ2 => binV op a b fun v => Q v ρ2
  | .UnaryOp op x _, ρ, Q => wpE C x ρ fun a ρ1 => unV op a fun v => Q v ρ1
  | .IfExp t b o _, ρ, Q => wpT C t ρ fun c ρ1 => (c = true → wpE C b ρ1 Q) ∧ (c = false → wpE C o ρ1 Q)
  | .BoolOp op vs _, ρ, Q => match op, vs with
    | .And, [x, y] => wpE C x ρ fun v ρ1 => ∃ b, v = .dat (.bool b) ∧ (b = true → wpE C y ρ1 Q) ∧ (b = false → Q v ρ1)
    | _, _ => False
  | .Compare l ops cs _, ρ, Q => match ops, cs with
    | [op], [r] => noSet r = true ∧ wpE C l ρ fun a ρ1 => wpE C r ρ1 fun b ρ2 => cmpV op a b fun c => Q (.dat (.bool c)) ρ2
    | _, _ => False
  | .Tuple es _ _, ρ, Q => wpEs C es ρ fun vs ρ1 => ∃ ds, dats vs = some ds ∧ ds.length ≤ 1000 ∧ Q (.dat (.tuple ds)) ρ1
  | .List es _, ρ, Q => wpEs C es ρ fun vs ρ1 => ∃ ds, dats vs = some ds ∧ ds.length ≤ 1000 ∧ Q (.dat (.list ds)) ρ1
  | .Slice lo hi st _, ρ, Q => wpO C lo ρ fun a ρ1 => wpO C hi ρ1 fun b ρ2 => wpO C st ρ2 fun c ρ3 => Q (.cut a b c) ρ3
  | .Subscript v s _, ρ, Q => match ownName ρ v with
    | some x => wpE C s ρ fun k ρ1 => ∃ xs, got ρ1 x = some (.own xs) ∧ subV (.list xs) k fun d => Q d ρ1
    | none => wpE C v ρ fun o ρ1 => wpE C s ρ1 fun k ρ2 => ∃ d0, o = .dat d0 ∧ subV d0 k fun d => Q d ρ2
  | .Call f args kws pos, ρ, Q => match kws with
    | _ :: _ => False
    | [] => match f with
      | .Name g _ => (match args with
        | [] => False
        | a :: rest => callW C ρ g a rest (wpE C a) (wpEs C rest) Q)
      | .Attribute o name apos => (match args with
        | [] => MethOk o name apos [] pos ∧ name = Str.ofString "bit_length" ∧ wpE C o ρ fun v ρ1 => asInt v fun i => Q (.dat (.int (Builtin.Int.intBits i))) ρ1
        | _ => False)
      | _ => False
  | _, _, _ => False
noncomputable def wpEs (C : Ctx) : List Expr → Rho → (List Vx → Rho → Prop) → Prop
  | [], ρ, Q => Q [] ρ
  | e :: es, ρ, Q => wpE C e ρ fun v ρ1 => wpEs C es ρ1 fun vs ρ2 => Q (v :: vs) ρ2
noncomputable def wpO (C : Ctx) : Option Expr → Rho → (Option Int → Rho → Prop) → Prop
  | none, ρ, Q => Q none ρ
  | some e, ρ, Q => wpE C e ρ fun v ρ1 => optInt v fun i => Q i ρ1
noncomputable def wpT (C : Ctx) : Expr → Rho → (Bool → Rho → Prop) → Prop
  | .BoolOp op vs _, ρ, Q => wpTs C op vs ρ Q
  | .Compare l ops cs _, ρ, Q => match ops, cs with
    | [op], [r] => noSet r = true ∧ wpE C l ρ fun a ρ1 => wpE C r ρ1 fun b ρ2 => cmpV op a b fun c => Q c ρ2
    | _, _ => False
  | _, _, _ => False
noncomputable def wpTs (C : Ctx) (op : BoolOp) : List Expr → Rho → (Bool → Rho → Prop) → Prop
  | [], ρ, Q => Q (op == .And) ρ
  | x :: rest, ρ, Q => wpT C x ρ fun b ρ1 => match op with
    | .And => (b = false → Q false ρ1) ∧ (b = true → wpTs C op rest ρ1 Q)
    | .Or => (b = true → Q true ρ1) ∧ (b = false → wpTs C op rest ρ1 Q)
end
noncomputable def slotOf (v : Vx) : Slot := match v with
  | .dat (.list xs) => .own xs
  | v => .val v
noncomputable def wpF (C : Ctx) (e : Expr) (ρ : Rho) (K : Slot → Rho → Prop) : Prop := match e with
  | .List es _ => wpEs C es ρ fun vs ρ1 => ∃ ds, dats vs = some ds ∧ ds.length ≤ 1000 ∧ K (.own ds) ρ1
  | .BinOp l op r _ => wpE C l ρ fun a ρ1 => wpE C r ρ1 fun b ρ2 => binV op a b fun v => K (slotOf v) ρ2
  | e => wpE C e ρ fun v ρ1 => K (.val v) ρ1
noncomputable def canPut (ρ : Rho) (x : Str) : Prop := match got ρ x with
  | some .glob => False
  | some _ => True
  | none => False
noncomputable def namesOf : List Expr → Option (List Str)
  | [] => some []
  | .Name x _ :: r => (namesOf r).map (x :: ·)
  | _ :: _ => none
noncomputable def putAll : Rho → List Str → List Vx → Rho
  | ρ, x :: xs, v :: vs => putAll (put ρ x (.val v)) xs vs
  | ρ, _, _ => ρ
noncomputable def bindT (tgt : Expr) (d : PyData) (ρ : Rho) (K : Rho → Prop) : Prop := match tgt with
  | .Name x _ => canPut ρ x ∧ K (put ρ x (.val (.dat d)))
  | .Tuple [.Name x _, .Name y _] _ _ => ∃ d1 d2, d = .tuple [d1, d2] ∧ x ≠ y ∧ canPut ρ x ∧ canPut ρ y ∧ K (put (put ρ x (.val (.dat d1))) y (.val (.dat d2)))
  | _ => False
noncomputable abbrev WpB := List Stmt → Rho → (Fl → Rho → Prop) → Prop
noncomputable def wpFor (R : WpB) (b : List Stmt) (tgt : Expr) : List PyData → Rho → (Fl → Rho → Prop) → Prop
  | [], ρ, Q => Q .next ρ
  | d :: ds, ρ, Q => bindT tgt d ρ fun ρ1 => R b ρ1 fun fl ρ2 => match fl with
    | .next => wpFor R b tgt ds ρ2 Q
    | .cont => wpFor R b tgt ds ρ2 Q
    | .brk => Q .next ρ2
    | .ret v => Q (.ret v) ρ2
noncomputable def wpWh (C : Ctx) (R : WpB) (t : Expr) (b : List Stmt) : Nat → Rho → (Fl → Rho → Prop) → Prop
  | 0, _, _ => False
  | n + 1, ρ, Q => wpT C t ρ fun c ρ1 => (c = false → Q .next ρ1) ∧ (c = true → R b ρ1 fun fl ρ2 => match fl with
    | .next => wpWh C R t b n ρ2 Q
    | .cont => wpWh C R t b n ρ2 Q
    | .brk => Q .next ρ2
    | .ret v => Q (.ret v) ρ2)
noncomputable def rangeL (a : Int) (n : Nat) (c : Int) : List PyData := (List.range n).map fun i : Nat => .int (a + i * c)
noncomputable def okI (a : Int) : Prop := -(2 ^ 60) ≤ a ∧ a ≤ 2 ^ 60
noncomputable def rangeV (vs : List Vx) (K : List PyData → Prop) : Prop := match vs with
  | [.dat (.int n)] => okI n ∧ K (rangeL 0 n.toNat 1)
  | [.dat (.int a), .dat (.int b)] => okI a ∧ okI b ∧ K (rangeL a (b - a).toNat 1)
  | [.dat (.int a), .dat (.int b), .dat (.int c)] => okI a ∧ okI b ∧ c = -1 ∧ K (rangeL a (a - b).toNat (-1))
  | _ => False
noncomputable def enumD : Nat → List PyData → List PyData
  | _, [] => []
  | i, d :: ds => .tuple [.int i, d] :: enumD (i + 1) ds
inductive Iter where
  | range (args : List Expr)
  | enum (e : Expr)
  | plain
noncomputable def iterOf (ρ : Rho) (it : Expr) : Iter := match it with
  | .Call (.Name g _) args [] _ => (match got ρ g with
    | some .glob => if (g == Str.ofString "range") = true then .range args else if (g == Str.ofString "enumerate") = true then (match args with | [e] => .enum e | _ => .plain) else .plain
    | _ => .plain)
  | _ => .plain
mutual
noncomputable def wpS (C : Ctx) (R : WpB) : Stmt → Rho → (Fl → Rho → Prop) → Prop
  | .Return v _, ρ, Q => match v with
    | some e => wpE C e ρ fun v ρ1 => Q (.ret v) ρ1
    | none => False
  | .Break _, ρ, Q => Q .brk ρ
  | .If t b o _, ρ, Q => wpT C t ρ fun c ρ1 => (c = true → wpSs C R b ρ1 Q) ∧ (c = false → wpSs C R o ρ1 Q)
  | .Assign ts e _, ρ, Q => match ts with
    | [.Name x _] => wpF C e ρ fun s ρ1 => canPut ρ1 x ∧ x ≠ C.px ∧ Q .next (put ρ1 x s)
    | [.Tuple ns _ _] => (match e with
      | .Tuple (e0 :: es) _ _ => ((e0 :: es).all (constantsAlone 8) = false ∧ (namesOf ns).isSome = true) ∧ wpF C e0 ρ fun s0 ρ1 => wpEs C es ρ1 fun vs ρ2 => ∃ y ys, namesOf ns = some (y :: ys) ∧ ys.length = vs.length ∧ vs.length ≤ 1000 ∧ (y :: ys).Nodup ∧ y ≠ C.px ∧ (∀ x ∈ y :: ys, canPut ρ2 x) ∧
          (dats vs).isSome = true ∧ Q .next (putAll (put ρ2 y s0) ys vs)
      | e => noTup e = true ∧ wpE C e ρ fun v ρ1 => ∃ ds ys, v = .dat (.tuple ds) ∧ namesOf ns = some ys ∧ ys.length = ds.length ∧ ys.Nodup ∧ (∀ x ∈ ys, canPut ρ1 x) ∧ Q .next (putAll ρ1 ys (ds.map .dat)))
    | [.Subscript (.Name x _) i _] => wpE C e ρ fun v ρ1 => (∃ ys, got ρ1 x = some (.own ys)) ∧ wpE C i ρ1 fun k ρ2 => ∃ xs d j, got ρ2 x = some (.own xs) ∧ v = .dat d ∧ k = .dat (.int j) ∧ 0 ≤ j ∧ j < xs.length ∧ j < 2 ^ 62 ∧ Q .next (put ρ2 x (.own (xs.set j.toNat d)))
    | _ => False
  | .AugAssign t op e _, ρ, Q => match t with
    | .Name x _ => ∃ a, got ρ x = some (.val (.dat (.int a))) ∧ wpE C e ρ fun v ρ1 => asInt v fun b => (op ≠ .LShift ∧ op ≠ .FloorDiv ∧ op ≠ .BitAnd ∧ op ≠ .Mult ∧ op ≠ .Pow) ∧ binI op a b fun k => canPut ρ1 x ∧ Q .next (put ρ1 x (.val (.dat (.int k))))
    | _ => False
  | .Expr e _, ρ, Q => match e with
    | .Call (.Attribute (.Name x xp) nm apos) [a] [] pos => MethOk (.Name x xp) nm apos [a] pos ∧ nm = Str.ofString "append" ∧ (∃ ys, got ρ x = some (.own ys)) ∧ wpE C a ρ fun v ρ1 => ∃ xs d, got ρ1 x = some (.own xs) ∧ v = .dat d ∧ xs.length ≤ 1000000 ∧ Q .next (put ρ1 x (.own (xs ++ [d])))
    | e => wpE C e ρ fun _ ρ1 => Q .next ρ1
  | .While t b o _, ρ, Q => o = [] ∧ ∃ n, wpWh C R t b n ρ Q
  | .For tgt it b o _, ρ, Q => o = [] ∧ match iterOf ρ it with
    | .range args => isNm tgt = true ∧ args ≠ [] ∧ args.all noStar = true ∧ wpEs C args ρ fun vs ρ1 => rangeV vs fun xs => wpFor R b tgt xs ρ1 Q
    | .enum e => isPr tgt = true ∧ wpE C e ρ fun v ρ1 => ∃ xs, v = .dat (.list xs) ∧ wpFor R b tgt (enumD 0 xs) ρ1 Q
    | .plain => isNm tgt = true ∧ wpE C it ρ fun v ρ1 => ∃ xs, v = .dat (.list xs) ∧ wpFor R b tgt xs ρ1 Q
  | _, _, _ => False
noncomputable def wpSs (C : Ctx) (R : WpB) : List Stmt → Rho → (Fl → Rho → Prop) → Prop
  | [], ρ, Q => Q .next ρ
  | st :: rest, ρ, Q => wpS C R st ρ fun fl ρ1 => match fl with
    | .next => wpSs C R rest ρ1 Q
    | fl => Q fl ρ1
end
/-- loop bodies to a depth -/
noncomputable def wpR (C : Ctx) : Nat → WpB
  | 0 => fun _ _ _ => False
  | n + 1 => wpSs C (wpR C n)
theorem bitNot_def (x : Int) : Builtin.bitNot x = -x - 1 := by unfold Builtin.bitNot; lia
theorem bitOr_nat (m n : Nat) : Builtin.bitOr (m : Int) (n : Int) = ((m ||| n : Nat) : Int) := by
  unfold Builtin.bitOr Builtin.bitAnd
  simp only [bitNot_def]
  have h1 : decide ((0 : Int) ≤ -(m : Int) - 1) = false := decide_eq_false (by lia)
  have h2 : decide ((0 : Int) ≤ -(n : Int) - 1) = false := decide_eq_false (by lia)
  rw [h1, h2]
  simp only
  have e1 : (-(-(m : Int) - 1) - 1).toNat = m := by lia
  have e2 : (-(-(n : Int) - 1) - 1).toNat = n := by lia
  rw [e1, e2]
  lia
theorem bitOr_hi {a b : Int} {k : Nat} {h : Int} (hh : 0 ≤ h) (e : a = h * 2 ^ k) (h0 : 0 ≤ b) (h1 : b < 2 ^ k) : Builtin.bitOr a b = a + b := by
  obtain ⟨h, rfl⟩ := Int.eq_ofNat_of_zero_le hh
  obtain ⟨b, rfl⟩ := Int.eq_ofNat_of_zero_le h0
  have ea : a = ((2 ^ k * h : Nat) : Int) := by rw [e]; push_cast; exact Int.mul_comm _ _
  have hb : b < 2 ^ k := by
    have : ((b : Nat) : Int) < ((2 ^ k : Nat) : Int) := by push_cast; exact h1
    lia
  rw [ea, bitOr_nat, ← Nat.two_pow_add_eq_or_of_lt hb]
  push_cast; rfl
theorem bitOr_lo {a b : Int} {k : Nat} {h : Int} (hh : 0 ≤ h) (e : b = h * 2 ^ k) (h0 : 0 ≤ a) (h1 : a < 2 ^ k) : Builtin.bitOr a b = a + b := by
  obtain ⟨h, rfl⟩ := Int.eq_ofNat_of_zero_le hh
  obtain ⟨a, rfl⟩ := Int.eq_ofNat_of_zero_le h0
  have eb : b = ((2 ^ k * h : Nat) : Int) := by rw [e]; push_cast; exact Int.mul_comm _ _
  have ha : a < 2 ^ k := by
    have : ((a : Nat) : Int) < ((2 ^ k : Nat) : Int) := by push_cast; exact h1
    lia
  rw [eb, bitOr_nat, Nat.or_comm, ← Nat.two_pow_add_eq_or_of_lt ha]
  push_cast; lia
theorem noPylong62 {a b : Int} (h0 : 0 < b) (h1 : b < 2 ^ 62) : Builtin.divisionGoesByPylong a b = false := by
  refine PyProof.noPylong_of_log2 ?_
  have h2 : b.natAbs < 2 ^ 62 := by lia
  have h3 : b.natAbs.log2 < 62 := (Nat.log2_lt (by lia)).mpr h2
  lia
section
variable {prog : Program} {w : World} {A : Around} {s : Shared} {a b : Int} {t u : Tok} {Q' : Value → Shared → Prop} {K : Int → Prop} {op : Operator}
theorem snd_binI (h : binI op a b K) (hQ : ∀ k t tk, K k → Q' (.int k t) { s with toks := tk }) : wpAny (model prog w) A (binaryOp op (.int a t) (.int b u)) Q' (fun _ _ => False) s := by
  cases op <;> simp only [binI] at h
  case Add => exact PyProof.Rows.add_int (hQ _ _ _ h)
  case Sub => exact PyProof.Rows.sub_int (hQ _ _ _ h)
  case Mult => exact PyProof.Rows.mul_int (hQ _ _ _ h.2) (IntMulOk.of_left (PyProof.Rows.intBits_le (Nat.lt_trans h.1 (by decide))))
  case FloorDiv =>
    refine PyProof.Rows.floordiv_int (by lia) ?_ (.inl (noPylong62 h.1 h.2.1))
    rw [Int.fdiv_eq_ediv_of_nonneg _ (by lia)]
    exact hQ _ _ _ h.2.2
  case Mod =>
    refine PyProof.Rows.mod_int (by lia) ?_
    rw [Int.fmod_eq_emod_of_nonneg _ (by lia)]
    exact hQ _ _ _ h.2
  case BitAnd =>
    obtain ⟨k, rfl, h⟩ := h
    refine PyProof.Rows.and_int ?_
    rw [kbt_mask]
    exact hQ _ _ _ h
  case BitOr =>
    obtain ⟨⟨k, hi, h0, hh⟩, h⟩ := h
    refine PyProof.Rows.or_int ?_
    have e : Builtin.bitOr a b = a + b := by
      rcases hh with ⟨e, h1, h2⟩ | ⟨e, h1, h2⟩
      · exact bitOr_hi h0 e h1 h2
      · exact bitOr_lo h0 e h1 h2
    rw [e]
    exact hQ _ _ _ h
  case LShift => exact PyProof.Rows.lshift_int_small h.1 h.2.1 h.2.2.1 (hQ _ _ _ h.2.2.2)
  case RShift =>
    refine PyProof.Rows.rshift_int h.1 ?_
    rw [Int.fdiv_eq_ediv_of_nonneg _ (Int.le_of_lt (Int.pow_pos (by decide)))]
    exact hQ _ _ _ h.2
  case Pow => exact PyProof.Rows.pow_int_small h.1 h.2.1 h.2.2.1 (hQ _ _ _ h.2.2.2)
theorem snd_iopI (h : binI op a b K) (ho : op ≠ .LShift ∧ op ≠ .FloorDiv ∧ op ≠ .BitAnd ∧ op ≠ .Mult ∧ op ≠ .Pow) (hQ : ∀ k t tk, K k → Q' (.int k t) { s with toks := tk }) : wpAny (model prog w) A (inplaceOp op (.int a t) (.int b u)) Q' (fun _ _ => False) s := by
  cases op <;> simp only [binI] at h
  case Add => exact PyProof.Rows.iadd_int (hQ _ _ _ h)
  case Sub => exact PyProof.Rows.isub_int (hQ _ _ _ h)
  case Mod =>
    refine PyProof.Rows.imod_int (by lia) ?_
    rw [Int.fmod_eq_emod_of_nonneg _ (by lia)]
    exact hQ _ _ _ h.2
  case BitOr =>
    obtain ⟨⟨k, hi, h0, hh⟩, h⟩ := h
    refine PyProof.Rows.ior_int ?_
    have e : Builtin.bitOr a b = a + b := by
      rcases hh with ⟨e, h1, h2⟩ | ⟨e, h1, h2⟩
      · exact bitOr_hi h0 e h1 h2
      · exact bitOr_lo h0 e h1 h2
    rw [e]
    exact hQ _ _ _ h
  case RShift =>
    refine PyProof.Rows.irshift_int h.1 ?_
    rw [Int.fdiv_eq_ediv_of_nonneg _ (Int.le_of_lt (Int.pow_pos (by decide)))]
    exact hQ _ _ _ h.2
  all_goals simp at ho
end
/-! ## where a step leads -/
noncomputable def KeysOk (names : List (Str × NameKind)) (ρ : Rho) : Prop := ∀ x s, got ρ x = some s → (x == ("__debug__" : Str)) = false ∧ match s with
  | .glob => names.lookup x = some .globalImplicit
  | _ => names.lookup x = some .local
theorem KeysOk.put {names : List (Str × NameKind)} {ρ : Rho} {x : Str} {s t : Slot} (K : KeysOk names ρ) (h : got ρ x = some t) (ht : t ≠ .glob) (hs : s ≠ .glob) : KeysOk names (put ρ x s) := by
  intro y u e
  rcases got_put e with ⟨rfl, rfl⟩ | ⟨_, e⟩
  · have q := K _ _ h
    refine ⟨q.1, ?_⟩
    have q2 := q.2
    cases t <;> cases u <;> first | exact q2 | exact absurd rfl ht | exact absurd rfl hs
  · exact K y u e
theorem KeysOk.putC {names : List (Str × NameKind)} {ρ : Rho} {x : Str} {s : Slot} (K : KeysOk names ρ) (h : canPut ρ x) (hs : s ≠ .glob) : KeysOk names (Mine.put ρ x s) := by
  unfold canPut at h
  split at h
  · exact h.elim
  · rename_i t e hne
    exact K.put hne e hs
  · exact h.elim
theorem canPut_isSome {ρ : Rho} {x : Str} (h : canPut ρ x) : (got ρ x).isSome = true := by
  unfold canPut at h
  split at h
  · exact h.elim
  · rename_i q; rw [q]; rfl
  · exact h.elim
theorem KeysOk.local {names : List (Str × NameKind)} {ρ : Rho} {x : Str} (K : KeysOk names ρ) (h : canPut ρ x) : names.lookup x = some .local := by
  unfold canPut at h
  split at h
  · exact h.elim
  · rename_i t hne e
    have q := (K _ _ e).2
    cases t <;> first | exact q | exact (hne rfl).elim
  · exact h.elim
structure Go (mg : Str → Option Value) (B : Heap) (p : Addr) (px : Str) (names : List (Str × NameKind)) (m : Str → Option Value) (X : List Addr) (L : Addr) (hF h hF' h' : Heap) (ρ' : Rho) : Prop where
  sim : Sim mg B p px m X L hF' h' ρ'
  keys : KeysOk names ρ'
  grow : hF.StaysIn hF'
  off : ∀ b o, hF'.get? b = some o → hF.get? b = some o ∨ L < b ∨ b = p
  guarded : ∀ b ∈ X, ∀ o, h.get? b = some o → h'.get? b = some o
section
variable {mg : Str → Option Value} {B : Heap} {p : Addr} {px : Str} {names : List (Str × NameKind)} {m : Str → Option Value} {X : List Addr} {L : Addr} {hF h hF' h' hF'' h'' : Heap} {ρ ρ' ρ'' : Rho}
theorem Go.refl (S : Sim mg B p px m X L hF h ρ) (K : KeysOk names ρ) : Go mg B p px names m X L hF h hF h ρ := ⟨S, K, fun _ _ e => e, fun _ _ e => .inl e, fun _ _ _ e => e⟩
theorem Go.trans {m' : Str → Option Value} (a : Go mg B p px names m X L hF h hF' h' ρ') (b : Go mg B p px names m' X L hF' h' hF'' h'' ρ'') : Go mg B p px names m' X L hF h hF'' h'' ρ'' :=
  ⟨b.sim, b.keys, fun x o e => b.grow x o (a.grow x o e), fun x o e => (b.off x o e).elim (fun e => a.off x o e) .inr, fun x hx o e => b.guarded x hx o (a.guarded x hx o e)⟩
theorem Sim.lt {mg : Str → Option Value} (S : Sim mg B p px m X L hF h ρ) : L < h.objs.size := S.ns.lt
/-- a heap that only grew, a frozen part with new things alone -/
theorem Go.grown (S : Sim mg B p px m X L hF h ρ) (K : KeysOk names ρ) (k1 : h.StaysIn h') (k2 : hF.StaysIn hF') (k3 : hF'.StaysIn h') (off : ∀ b o, hF'.get? b = some o → hF.get? b = some o ∨ h.objs.size ≤ b) : Go mg B p px names m X L hF h hF' h' ρ :=
  ⟨S.grow k1 k2 k3 off, K, k2, fun b o e => (off b o e).imp id fun q => .inl (Nat.lt_of_lt_of_le S.lt q), fun _ _ o e => k1 _ o e⟩
theorem Go.same (S : Sim mg B p px m X L hF h ρ) (K : KeysOk names ρ) (k1 : h.StaysIn h') : Go mg B p px names m X L hF h hF h' ρ := Go.grown S K k1 (fun _ _ e => e) (fun b o e => k1 _ _ (S.keep b o e)) fun _ _ e => .inl e
theorem Go.pushed (S : Sim mg B p px m X L hF h ρ) (K : KeysOk names ρ) (k1 : h.StaysIn h') {a : Addr} {o : Obj} (ha : h.objs.size ≤ a) (ho : h'.get? a = some o) : ∃ hF', Go mg B p px names m X L hF h hF' h' ρ ∧ hF'.get? a = some o :=
  let ⟨hF', S', k, e, off⟩ := S.push k1 ha ho
  ⟨hF', ⟨S', K, k, fun b o e => (off b o e).imp id fun q => .inl (Nat.lt_of_lt_of_le S.lt q), fun _ _ o e => k1 _ o e⟩, e⟩
theorem stays_push (h : Heap) (o : Obj) : h.StaysIn (h.push o) := fun _ _ e => Heap.get?_push_of_some o e
end
structure BaseOk (mg mb : Str → Option Value) (B : Heap) : Prop where
  g : B.Ns mainGlobals mg
  b : B.Ns builtinsNs mb
  nolimit : B.NoLimit
  len : mg (Str.ofString "len") = none ∧ mb (Str.ofString "len") = some (.builtin "len")
  min : mg (Str.ofString "min") = none ∧ mb (Str.ofString "min") = some (.builtin "min")
  range : mg (Str.ofString "range") = none ∧ mb (Str.ofString "range") = some (.type "range")
  enumerate : mg (Str.ofString "enumerate") = none ∧ mb (Str.ofString "enumerate") = some (.type "enumerate")
noncomputable def FnOk (prog : Program) (w : World) (mg : Str → Option Value) (B : Heap) (n : Nat) (f : Str) (S : SpecF) : Prop :=
  ∃ (a : Addr) (o : Obj) (fd : FuncData), mg f = some (.ref a) ∧ B.get? a = some o ∧ o.data = .func fd ∧
    ∀ (A : Around) (s : Shared) (hF : Heap) (vs : List Value) (ds : List Vx) (r : Vx) (Q : Value → Shared → Prop),
      A.handled = none → A.depth + n < recursionLimit → A.units + 4 * n + 70 < cLine → B.StaysIn hF → hF.StaysIn s.heap → Rds mg hF vs ds → S ds r →
      (∀ v h' hF' tk, s.heap.StaysIn h' → hF.StaysIn hF' → hF'.StaysIn h' → (∀ b o, hF'.get? b = some o → hF.get? b = some o ∨ s.heap.objs.size ≤ b) → Rd mg hF' v r → Q v { s with heap := h', toks := tk }) →
      wpAny (model prog w) A (call (.ref a) vs) Q (fun _ _ => False) s
noncomputable def MutOk (prog : Program) (w : World) (mg : Str → Option Value) (B : Heap) (n : Nat) (f : Str) (S : SpecM) : Prop :=
  ∃ (a : Addr) (o : Obj) (fd : FuncData), mg f = some (.ref a) ∧ B.get? a = some o ∧ o.data = .func fd ∧
    ∀ (A : Around) (s : Shared) (hF : Heap) (l : Addr) (us vs : List Value) (ds : List Vx) (r : Vx) (xs ys : List PyData) (as : List Addr) (Q : Value → Shared → Prop),
      A.handled = none → A.depth + n < recursionLimit → A.units + 4 * n + 70 < cLine → B.StaysIn hF → hF.StaysIn s.heap → Rds mg hF vs ds →
      s.heap.PlainList l us.toArray → hF.get? l = none → ReadsAll hF us xs as → S xs ds r ys →
      (∀ v h' hF' tk us' bs, (∀ b o, b ≠ l → s.heap.get? b = some o → h'.get? b = some o) → h'.PlainList l us'.toArray → hF.StaysIn hF' → hF'.StaysIn h' → (∀ b o, hF'.get? b = some o → hF.get? b = some o ∨ s.heap.objs.size ≤ b) →
        Rd mg hF' v r → ReadsAll hF' us' ys bs → Q v { s with heap := h', toks := tk }) →
      wpAny (model prog w) A (call (.ref a) (.ref l :: vs)) Q (fun _ _ => False) s
structure Cfg where
  prog : Program
  w : World
  mg : Str → Option Value
  mb : Str → Option Value
  B : Heap
  A : Around
  p : Addr
  name : Str
  scope : Scope
  L : Addr
  a : Addr
  cd : Value
  C : Ctx
noncomputable abbrev Cfg.env (c : Cfg) : Env := envOf c.name c.scope c.L c.a c.cd
structure Cfg.Ok (c : Cfg) (n : Nat) : Prop where
  base : BaseOk c.mg c.mb c.B
  hk : c.scope.kind = .function
  hh : c.A.handled = none
  depth : c.A.depth + n < recursionLimit
  units : c.A.units + 4 * n + 70 < cLine
  fns : ∀ q ∈ c.C.fns, FnOk c.prog c.w c.mg c.B n q.1 q.2
  muts : ∀ q ∈ c.C.muts, MutOk c.prog c.w c.mg c.B n q.1 q.2
noncomputable abbrev Cfg.Sm (c : Cfg) (m : Str → Option Value) (X : List Addr) (hF h : Heap) (ρ : Rho) : Prop := Sim c.mg c.B c.p c.C.px m X c.L hF h ρ
noncomputable abbrev Cfg.G (c : Cfg) (m : Str → Option Value) (X : List Addr) (hF h hF' h' : Heap) (ρ' : Rho) : Prop := Go c.mg c.B c.p c.C.px c.scope.names m X c.L hF h hF' h' ρ'
noncomputable abbrev Cfg.W {α : Type} (c : Cfg) (t : Sem α) (Q : α → Shared → Prop) (s : Shared) : Prop := wpAny (model c.prog c.w) c.A t Q (fun _ _ => False) s
noncomputable abbrev Cfg.PostV (c : Cfg) (m : Str → Option Value) (X : List Addr) (hF : Heap) (s : Shared) (Q : Vx → Rho → Prop) (Q' : Value → Shared → Prop) : Prop :=
  ∀ v d ρ' hF' h' tk, c.G m X hF s.heap hF' h' ρ' → Rd c.mg hF' v d → Q d ρ' → Q' v { s with heap := h', toks := tk }
noncomputable def SndE (c : Cfg) (e : Expr) : Prop := ∀ (ρ : Rho) (Q : Vx → Rho → Prop), wpE c.C e ρ Q → ∀ m X hF s, c.Sm m X hF s.heap ρ → KeysOk c.scope.names ρ → ∀ Q', c.PostV m X hF s Q Q' → c.W (eval e c.env) Q' s
noncomputable def SndO (c : Cfg) (e : Option Expr) : Prop := ∀ (ρ : Rho) (Q : Option Int → Rho → Prop), wpO c.C e ρ Q → ∀ m X hF s, c.Sm m X hF s.heap ρ → KeysOk c.scope.names ρ → ∀ Q' : Value → Shared → Prop,
  (∀ v i ρ' hF' h' tk, c.G m X hF s.heap hF' h' ρ' → IsPart v i → Q i ρ' → Q' v { s with heap := h', toks := tk }) → c.W (evalPart e c.env) Q' s
noncomputable def SndEs (c : Cfg) (es : List Expr) : Prop := ∀ (ρ : Rho) (Q : List Vx → Rho → Prop), wpEs c.C es ρ Q → ∀ pos m X hF s, c.Sm m X hF s.heap ρ → KeysOk c.scope.names ρ → ∀ Q' : List Value → Shared → Prop,
  (∀ vs ds ρ' hF' h' tk, c.G m X hF s.heap hF' h' ρ' → Rds c.mg hF' vs ds → Q ds ρ' → Q' vs { s with heap := h', toks := tk }) → c.W (spliced (backTo pos (starEach es c.env))) Q' s
noncomputable def SndT (c : Cfg) (e : Expr) : Prop := ∀ (ρ : Rho) (Q : Bool → Rho → Prop), wpT c.C e ρ Q → ∀ m X hF s whole, c.Sm m X hF s.heap ρ → KeysOk c.scope.names ρ → ∀ Q' : Bool → Shared → Prop,
  (∀ b ρ' hF' h' tk, c.G m X hF s.heap hF' h' ρ' → Q b ρ' → Q' b { s with heap := h', toks := tk }) → c.W (isTrue e c.env whole) Q' s
noncomputable def SndTs (c : Cfg) (op : BoolOp) (es : List Expr) : Prop := ∀ (ρ : Rho) (Q : Bool → Rho → Prop), wpTs c.C op es ρ Q → ∀ m X hF s pos whole, c.Sm m X hF s.heap ρ → KeysOk c.scope.names ρ → ∀ Q' : Bool → Shared → Prop,
  (∀ b ρ' hF' h' tk, c.G m X hF s.heap hF' h' ρ' → Q b ρ' → Q' b { s with heap := h', toks := tk }) → c.W (isTrue (.BoolOp op es pos) c.env whole) Q' s
section
variable {c : Cfg} {n : Nat}

theorem loadLocal (O : c.Ok n) {x : Str} {ρ : Rho} {m : Str → Option Value} {X : List Addr} {hF : Heap} {s : Shared} {v : Value} {sl : Slot} {pos : Pos} {Q' : Value → Shared → Prop} (S : c.Sm m X hF s.heap ρ) (K : KeysOk c.scope.names ρ)
    (e : got ρ x = some sl) (hs : sl ≠ .glob) (hv : m x = some v) (h : Q' v s) : c.W (eval (.Name x pos) c.env) Q' s := by
  have q := K x sl e
  have ql : c.scope.names.lookup x = some .local := by
    have := q.2
    cases sl <;> first | exact this | exact absurd rfl hs
  exact wpAny_Name (wpAny_loadName_local O.hk ql S.ns hv h) q.1

theorem snd_Constant {k : Const} {i : Nat} {pos : Pos} : SndE c (.Constant k i pos) := by
  intro ρ Q h m X hF s S K Q' hQ
  conv at h => whnf
  cases k <;> simp only [constV] at h
  case int j => exact wpAny_Constant_int (hQ _ _ _ _ _ _ (Go.refl S K) (rdI _ _) h)
  case bool b => exact Constant_bool (hQ _ _ _ _ _ _ (Go.refl S K) (rdB _) h)

theorem snd_Name (O : c.Ok n) {x : Str} {pos : Pos} : SndE c (.Name x pos) := by
  intro ρ Q h m X hF s S K Q' hQ
  conv at h => whnf
  split at h
  · rename_i v e
    obtain ⟨u, hu, hr⟩ := S.slots x _ e
    exact loadLocal O S K e (by intro q; cases q) hu (hQ u v ρ hF s.heap s.toks (Go.refl S K) hr h)
  · rename_i xs e
    obtain ⟨hF', a', ha, hr, S', k2, off⟩ := S.freeze e
    refine loadLocal O S K e (by intro q; cases q) ha (hQ _ _ _ hF' s.heap s.toks ⟨S', K.put e (by intro q; cases q) (by intro q; cases q), k2, fun b o q => ?_, fun _ _ _ q => q⟩ hr h)
    exact (off b o q).imp id fun q => by
      subst q
      rcases S.own x xs b e ha with r | r
      · exact .inl r.1
      · exact .inr r.1
  · rename_i e
    obtain ⟨h1, h2⟩ := h
    obtain ⟨Sf, hf⟩ := Option.isSome_iff_exists.mp h1
    obtain ⟨fa, o, fd, hm, _⟩ := O.fns _ (find1_mem hf)
    have q := K x _ e
    have hB : c.B.StaysIn s.heap := fun b o e => S.keep b o (S.base b o e)
    exact Calls.Name_function_global O.hk q.2 (Calls.loadGlobal_global (env := c.env) (O.base.g.keeps hB) hm (hQ _ (.fn x) _ _ _ s.toks (Go.refl S K) ⟨hm, _, rfl⟩ h2)) q.1
  · exact h.elim

theorem list_cat {A : Around} {prog : Program} {w : World} {s : Shared} {l b : Addr} {vs ws : List Value} {Q' : Value → Shared → Prop} (hl : s.heap.IsList l vs.toArray) (hb : s.heap.IsList b ws.toArray) (hsz : vs.length + ws.length ≤ sizeLine)
    (h : Q' (.ref s.heap.objs.size) { s with heap := s.heap.push { cls := .type "list", data := .seq (vs ++ ws).toArray } }) : wpAny (model prog w) A (binaryOp .Add (.ref l) (.ref b)) Q' (fun _ _ => False) s := by
  obtain ⟨⟨cls, dd, data, sl⟩, ho, hc, k, hd⟩ := id hl
  obtain ⟨⟨cls2, dd2, data2, sl2⟩, ho2, hc2, k2, hd2⟩ := id hb
  simp only at hc hd hc2 hd2
  subst hc hd hc2 hd2
  have e : vs.toArray ++ ws.toArray = (vs ++ ws).toArray := by simp
  refine concat_meets ⟨_, ho, rfl⟩ ⟨_, ho2, rfl⟩ noFill_list_add seq_list_add PySem.F.slot_list_add PySem.F.entry_list_add (PySem.F.args_list_add_2 _ _) (list_addW l b vs.toArray ws.toArray k k2 dd dd2 sl sl2 (by simpa using hsz)) ⟨ho, ho2, ?_⟩
  rw [e]
  exact h

theorem list_rep {A : Around} {prog : Program} {w : World} {s : Shared} {l : Addr} {v : Value} {x : Int} {u : Tok} {Q' : Value → Shared → Prop} (hl : s.heap.IsList l [v].toArray) (h0 : 0 ≤ x) (hx : x ≤ 1000000)
    (h : Q' (.ref s.heap.objs.size) { s with heap := s.heap.push { cls := .type "list", data := .seq (List.replicate x.toNat v).toArray } }) : wpAny (model prog w) A (binaryOp .Mult (.ref l) (.int x u)) Q' (fun _ _ => False) s := by
  obtain ⟨⟨cls, d, data, sl⟩, ho, hcl, k, hd⟩ := id hl
  simp only at hcl hd
  subst hcl hd
  refine wpAny_binaryOp_repeat_ref (T := "list") (U := "int") (by decide) ⟨_, ho, rfl⟩ (fun s' => typeIs_int s' x u) noFill_list_mul F.fills_int_mul F.slot_int_rmul repeat_list F.slot_int_index.lookup
    (call_meets F.slot_int_rmul (typeIs_int s x u) F.entry_int_rmul (F.args_int_rmul_2 _ _) (lm_int_rmul_list_any x u l [v].toArray k d sl)
      ⟨ho, rfl, ⟨_, ho, rfl⟩, call_meets F.slot_list_mul ⟨_, ho, rfl⟩ F.entry_list_mul (F.args_list_mul_2 _ _)
        (lm_list_mul_any l [v].toArray k d sl x u (by simp [Builtin.List.listFitsIndex]; omega) (by simp; omega) (by simp [Builtin.List.listTooLong, sizeLine]; omega))
        ⟨ho, ?_⟩⟩)
  rw [listMul_foldl_if]
  have e : (List.replicate x.toNat [v]).flatten = List.replicate x.toNat v := by
    induction x.toNat with
    | zero => rfl
    | succ j ih => rw [List.replicate_succ, List.flatten_cons, ih, List.replicate_succ]; rfl
  show Q' _ { s with heap := s.heap.push { cls := .type "list", data := .seq (List.replicate x.toNat [v]).flatten.toArray } }
  rw [e]
  exact h
/-- the operators; a list comes as a new one -/
theorem snd_binV {op : Operator} {va vb : Value} {a b : Vx} {K : Vx → Prop} {m : Str → Option Value} {X : List Addr} {hF : Heap} {s : Shared} {ρ : Rho} {Q' : Value → Shared → Prop} (S : c.Sm m X hF s.heap ρ) (_Ks : KeysOk c.scope.names ρ)
    (ra : Rd c.mg hF va a) (rb : Rd c.mg hF vb b) (h : binV op a b K)
    (hI : ∀ k t tk, K (.dat (.int k)) → Q' (.int k t) { s with toks := tk })
    (hL : ∀ xs vs as tk, K (.dat (.list xs)) → ReadsAll hF vs xs as → Q' (.ref s.heap.objs.size) { s with heap := s.heap.push { cls := .type "list", data := .seq vs.toArray }, toks := tk }) :
    c.W (binaryOp op va vb) Q' s := by
  unfold binV at h
  split at h
  · obtain ⟨t, rfl⟩ := rd_int ra
    obtain ⟨u, rfl⟩ := rd_int rb
    exact snd_binI h fun k t tk hk => hI k t tk hk
  · obtain ⟨rfl, hsz, h⟩ := h
    obtain ⟨l, vs, as, rfl, hl, rl⟩ := rd_list ra
    obtain ⟨l2, ws, bs, rfl, hl2, rl2⟩ := rd_list rb
    obtain ⟨cs, rc⟩ := readsAll_append rl2 rl
    refine list_cat (stays_list S.keep hl) (stays_list S.keep hl2) ?_ (hL _ _ _ _ h rc)
    rw [readsAll_length rl, readsAll_length rl2, sizeLine_eq]; omega
  · obtain ⟨rfl, x, rfl, h0, h1, h⟩ := h
    obtain ⟨l, vs, as, rfl, hl, rl⟩ := rd_list ra
    obtain ⟨u, rfl⟩ := rd_int rb
    cases rl with
    | cons q r =>
      cases r
      obtain ⟨cs, rc⟩ := readsAll_replicate q (Int.toNat _)
      exact list_rep (stays_list S.keep hl) h0 h1 (hL _ _ _ _ h rc)
  · exact h.elim
theorem newListGo {m : Str → Option Value} {X : List Addr} {hF : Heap} {s : Shared} {ρ : Rho} {vs : List Value} {xs : List PyData} {as : List Addr} (S : c.Sm m X hF s.heap ρ) (K : KeysOk c.scope.names ρ) (r : ReadsAll hF vs xs as) :
    ∃ hF', c.G m X hF s.heap hF' (s.heap.push { cls := .type "list", data := .seq vs.toArray }) ρ ∧ Rd c.mg hF' (.ref s.heap.objs.size) (.dat (.list xs)) := by
  obtain ⟨hF', g, e⟩ := Go.pushed S K (stays_push s.heap { cls := .type "list", data := .seq vs.toArray }) (Nat.le_refl _) (Heap.get?_push_size _ rfl)
  exact ⟨hF', g, rdList ⟨_, e, rfl, _, rfl⟩ (ReadsAll.keeps g.grow r)⟩
theorem newTupGo {m : Str → Option Value} {X : List Addr} {hF : Heap} {s : Shared} {ρ : Rho} {vs : List Value} {xs : List PyData} {as : List Addr} (S : c.Sm m X hF s.heap ρ) (K : KeysOk c.scope.names ρ) (r : ReadsAll hF vs xs as) :
    ∃ hF', c.G m X hF s.heap hF' (s.heap.push { cls := .type "tuple", data := .seq vs.toArray }) ρ ∧ Rd c.mg hF' (.ref s.heap.objs.size) (.dat (.tuple xs)) := by
  obtain ⟨hF', g, e⟩ := Go.pushed S K (stays_push s.heap { cls := .type "tuple", data := .seq vs.toArray }) (Nat.le_refl _) (Heap.get?_push_size _ rfl)
  exact ⟨hF', g, rdTuple ⟨_, e, rfl, _, rfl⟩ (ReadsAll.keeps g.grow r)⟩

theorem snd_BinOp {l r : Expr} {op : Operator} {pos : Pos} (hl : SndE c l) (hr : SndE c r) : SndE c (.BinOp l op r pos) := by
  intro ρ Q h m X hF s S K Q' hQ
  conv at h => whnf
  refine wpAny_BinOp (hl _ _ h m X hF s S K _ ?_)
  intro va a ρ1 hF1 h1 tk1 g1 ra h
  refine hr _ _ h m X hF1 _ g1.sim g1.keys _ ?_
  intro vb b ρ2 hF2 h2 tk2 g2 rb h
  have g := g1.trans g2
  refine snd_binV (c := c) g2.sim g2.keys (ra.mono g2.grow) rb h ?_ ?_
  · intro k t tk hk
    exact hQ _ _ _ _ _ _ g (rdI _ _) hk
  · intro xs vs as tk hk rl
    obtain ⟨hF3, g3, r3⟩ := newListGo (c := c) (s := { s with heap := h2, toks := tk2 }) g2.sim g2.keys rl
    exact hQ _ _ _ _ _ _ (g.trans g3) r3 hk

theorem snd_UnaryOp {x : Expr} {op : UnaryOp} {pos : Pos} (hx : SndE c x) : SndE c (.UnaryOp op x pos) := by
  intro ρ Q h m X hF s S K Q' hQ
  conv at h => whnf
  refine wpAny_UnaryOp (hx _ _ h m X hF s S K _ ?_)
  intro va a ρ1 hF1 h1 tk1 g1 ra h
  rcases h with ⟨ho, hk⟩ | ⟨ho, b, rfl, hk⟩
  · subst ho
    unfold asInt at hk
    split at hk
    · obtain ⟨t, rfl⟩ := rd_int ra
      exact PySem.P.neg_int (hQ _ _ _ _ _ _ g1 (rdI _ _) hk)
    · exact hk.elim
  · subst ho
    obtain rfl := rd_bool ra
    refine PyProof.Rows.not_of (wpAny_truthy_bool ?_)
    exact hQ _ _ _ _ _ _ g1 (rdB _) hk

theorem snd_IfExp {t b o : Expr} {pos : Pos} (ht : SndT c t) (hb : SndE c b) (ho : SndE c o) : SndE c (.IfExp t b o pos) := by
  intro ρ Q h m X hF s S K Q' hQ
  conv at h => whnf
  refine IfExp_ (ht _ _ h m X hF s _ S K _ ?_)
  intro q ρ1 hF1 h1 tk1 g1 h
  cases q with
  | true => exact hb _ _ (h.1 rfl) m X hF1 _ g1.sim g1.keys _ fun v d ρ' hF' h' tk g r k => hQ v d ρ' hF' h' tk (g1.trans g) r k
  | false => exact ho _ _ (h.2 rfl) m X hF1 _ g1.sim g1.keys _ fun v d ρ' hF' h' tk g r k => hQ v d ρ' hF' h' tk (g1.trans g) r k

theorem snd_And {x y : Expr} {pos : Pos} (hx : SndE c x) (hy : SndE c y) : SndE c (.BoolOp .And [x, y] pos) := by
  intro ρ Q h m X hF s S K Q' hQ
  conv at h => whnf
  refine wpAny_And2 (hx _ _ h m X hF s S K _ ?_)
  intro va a ρ1 hF1 h1 tk1 g1 ra h
  obtain ⟨b, rfl, h2, h3⟩ := h
  obtain rfl := rd_bool ra
  refine wpAny_truthy_bool ?_
  cases b with
  | true => exact hy _ _ (h2 rfl) m X hF1 _ g1.sim g1.keys _ fun v d ρ' hF' h' tk g r k => hQ v d ρ' hF' h' tk (g1.trans g) r k
  | false => exact hQ _ _ _ _ _ _ g1 (rdB _) (h3 rfl)

theorem snd_cmpV (O : c.Ok n) {op : CmpOp} {va vb : Value} {a b : Vx} {K : Bool → Prop} {hF : Heap} {s : Shared} {Q' : Value → Shared → Prop} (k : hF.StaysIn s.heap) (ra : Rd c.mg hF va a) (rb : Rd c.mg hF vb b) (h : cmpV op a b K)
    (hQ : ∀ q, K q → Q' (.bool q) s) : c.W (compareOp op va vb) Q' s := by
  unfold cmpV at h
  split at h
  · unfold cmpD at h
    split at h
    · obtain ⟨t, rfl⟩ := rd_int ra
      obtain ⟨u, rfl⟩ := rd_int rb
      cases op <;> simp only [cmpI] at h
      case Lt => exact PyProof.Rows.lt_int (hQ _ h)
      case LtE => exact PyProof.Rows.le_int (hQ _ h)
      case Gt => exact PyProof.Rows.gt_int (hQ _ h)
      case GtE => exact PyProof.Rows.ge_int (hQ _ h)
      case Eq => exact PyProof.Rows.eq_int (hQ _ (by simpa [BEq.beq] using h))
      case NotEq => exact PyProof.Rows.ne_int (hQ _ (by simpa [bne, BEq.beq] using h))
    · obtain ⟨sa, sb, h⟩ := h
      obtain ⟨as, ra⟩ := ra
      obtain ⟨bs, rb⟩ := rb
      have hu : c.A.units + 64 < cLine := by have := O.units; omega
      cases op <;> simp only at h
      case Eq => exact SeqAt.compareEq_shaped (Reads.keeps k ra) (Reads.keeps k rb) sa sb hu (hQ _ h)
      case NotEq => exact SeqAt.compareNe_shaped (Reads.keeps k ra) (Reads.keeps k rb) sa sb hu (hQ _ h)
  · exact h.elim
theorem mark_of {op : CmpOp} {r : Expr} (h : noSet r = true) : behindInMarks op r = false := by
  cases r <;> first | rfl | cases h

theorem snd_Compare (O : c.Ok n) {l r : Expr} {op : CmpOp} {pos : Pos} (hl : SndE c l) (hr : SndE c r) : SndE c (.Compare l [op] [r] pos) := by
  intro ρ Q h m X hF s S K Q' hQ
  conv at h => whnf
  obtain ⟨hm, h⟩ := h
  replace hm := mark_of (op := op) hm
  refine wpAny_Compare1 (hl _ _ h m X hF s S K _ ?_) hm
  intro va a ρ1 hF1 h1 tk1 g1 ra h
  refine hr _ _ h m X hF1 _ g1.sim g1.keys _ ?_
  intro vb b ρ2 hF2 h2 tk2 g2 rb h
  have g := g1.trans g2
  refine snd_cmpV O g2.sim.keep (ra.mono g2.grow) rb h ?_
  intro q hq
  exact hQ _ _ _ _ _ _ g (rdB _) hq
theorem snd_TCompare (O : c.Ok n) {l r : Expr} {op : CmpOp} {pos : Pos} (hl : SndE c l) (hr : SndE c r) : SndT c (.Compare l [op] [r] pos) := by
  intro ρ Q h m X hF s whole S K Q' hQ
  conv at h => whnf
  obtain ⟨hm, h⟩ := h
  replace hm := mark_of (op := op) hm
  refine wpAny_isTrue_Compare1 (hl _ _ h m X hF s S K _ ?_) hm
  intro va a ρ1 hF1 h1 tk1 g1 ra h
  refine hr _ _ h m X hF1 _ g1.sim g1.keys _ ?_
  intro vb b ρ2 hF2 h2 tk2 g2 rb h
  have g := g1.trans g2
  refine snd_cmpV O g2.sim.keep (ra.mono g2.grow) rb h ?_
  intro q hq
  exact wpAny_truthy_bool (hQ _ _ _ _ _ g hq)
theorem snd_Ts_nil {op : BoolOp} : SndTs c op [] := by
  intro ρ Q h m X hF s pos whole S K Q' hQ
  conv at h => whnf
  cases op with
  | And => exact isTrue_and_nil (hQ _ _ _ _ s.toks (Go.refl S K) h)
  | Or => exact isTrue_or_nil (hQ _ _ _ _ s.toks (Go.refl S K) h)
theorem snd_Ts_cons {op : BoolOp} {x : Expr} {rest : List Expr} (hx : SndT c x) (hr : SndTs c op rest) : SndTs c op (x :: rest) := by
  intro ρ Q h m X hF s pos whole S K Q' hQ
  conv at h => whnf
  cases op with
  | And =>
    refine isTrue_and (hx _ _ h m X hF s _ S K _ ?_)
    intro b ρ1 hF1 h1 tk1 g1 h
    cases b with
    | true => exact hr _ _ (h.2 rfl) m X hF1 _ pos whole g1.sim g1.keys _ fun q ρ' hF' h' tk g k => hQ q ρ' hF' h' tk (g1.trans g) k
    | false => exact hQ _ _ _ _ _ g1 (h.1 rfl)
  | Or =>
    refine isTrue_or (hx _ _ h m X hF s _ S K _ ?_)
    intro b ρ1 hF1 h1 tk1 g1 h
    cases b with
    | true => exact hQ _ _ _ _ _ g1 (h.1 rfl)
    | false => exact hr _ _ (h.2 rfl) m X hF1 _ pos whole g1.sim g1.keys _ fun q ρ' hF' h' tk g k => hQ q ρ' hF' h' tk (g1.trans g) k
theorem snd_TBool {op : BoolOp} {vs : List Expr} {pos : Pos} (h : SndTs c op vs) : SndT c (.BoolOp op vs pos) := by
  intro ρ Q h' m X hF s whole S K Q' hQ
  conv at h' => whnf
  exact h _ _ h' m X hF s pos whole S K _ hQ

theorem snd_Es_nil : SndEs c [] := by
  intro ρ Q h pos m X hF s S K Q' hQ
  conv at h => whnf
  exact spliced_none (hQ _ _ _ _ _ s.toks (Go.refl S K) .nil h)
theorem star_of {e : Expr} {rest : List Expr} {ρ : Rho} {C : Ctx} {Q : Vx → Rho → Prop} {env : Env} (h : wpE C e ρ Q) : starEach (e :: rest) env = (false, eval e env) :: starEach rest env := by
  cases e <;> first | rfl | exact (show False from h).elim
theorem snd_Es_cons {e : Expr} {es : List Expr} (he : SndE c e) (hs : SndEs c es) : SndEs c (e :: es) := by
  intro ρ Q h pos m X hF s S K Q' hQ
  conv at h => whnf
  refine spliced_more (he _ _ h m X hF s S K _ ?_) (star_of h)
  intro v d ρ1 hF1 h1 tk1 g1 r1 h
  refine hs _ _ h pos m X hF1 _ g1.sim g1.keys _ ?_
  intro vs ds ρ2 hF2 h2 tk2 g2 r2 h
  exact hQ _ _ _ _ _ _ (g1.trans g2) (.cons (r1.mono g2.grow) r2) h

theorem snd_Tuple {es : List Expr} {k : Nat} {pos : Pos} (hs : SndEs c es) : SndE c (.Tuple es k pos) := by
  intro ρ Q h m X hF s S K Q' hQ
  conv at h => whnf
  refine Tuple_ (hs _ _ h pos m X hF s S K _ ?_)
  intro vs ds ρ1 hF1 h1 tk1 g1 r1 h
  obtain ⟨xs, hx, hl, h⟩ := h
  obtain ⟨as, ra⟩ := r1.reads hx
  obtain ⟨hF2, g2, r2⟩ := newTupGo (c := c) (s := { s with heap := h1, toks := tk1 }) g1.sim g1.keys ra
  refine wpAny_newObj_type (hQ _ _ _ _ _ _ (g1.trans g2) r2 h) ?_
  show vs.toArray.size ≤ sizeLine
  rw [List.size_toArray, readsAll_length ra, sizeLine_eq]; omega
theorem snd_List {es : List Expr} {pos : Pos} (hs : SndEs c es) : SndE c (.List es pos) := by
  intro ρ Q h m X hF s S K Q' hQ
  conv at h => whnf
  refine List_ (hs _ _ h pos m X hF s S K _ ?_)
  intro vs ds ρ1 hF1 h1 tk1 g1 r1 h
  obtain ⟨xs, hx, hl, h⟩ := h
  obtain ⟨as, ra⟩ := r1.reads hx
  obtain ⟨hF2, g2, r2⟩ := newListGo (c := c) (s := { s with heap := h1, toks := tk1 }) g1.sim g1.keys ra
  refine wpAny_newObj_type (hQ _ _ _ _ _ _ (g1.trans g2) r2 h) ?_
  show vs.toArray.size ≤ sizeLine
  rw [List.size_toArray, readsAll_length ra, sizeLine_eq]; omega
theorem snd_O_none : SndO c none := by
  intro ρ Q h m X hF s S K Q' hQ
  conv at h => whnf
  rw [evalPart_none]
  exact wpAny_pure (hQ _ _ _ _ _ s.toks (Go.refl S K) .none h)
theorem snd_O_some {e : Expr} (he : SndE c e) : SndO c (some e) := by
  intro ρ Q h m X hF s S K Q' hQ
  conv at h => whnf
  rw [evalPart_some]
  refine he _ _ h m X hF s S K _ ?_
  intro v d ρ1 hF1 h1 tk1 g1 r1 h
  unfold optInt at h
  split at h
  · obtain ⟨t, rfl⟩ := rd_int r1
    exact hQ _ _ _ _ _ _ g1 (.int _ _) h
  · exact h.elim
theorem snd_Slice {lo hi st : Option Expr} {pos : Pos} (h1 : SndO c lo) (h2 : SndO c hi) (h3 : SndO c st) : SndE c (.Slice lo hi st pos) := by
  intro ρ Q h m X hF s S K Q' hQ
  conv at h => whnf
  refine wpAny_Slice (h1 _ _ h m X hF s S K _ ?_)
  intro v1 i1 ρ1 hF1 e1 tk1 g1 p1 h
  refine h2 _ _ h m X hF1 _ g1.sim g1.keys _ ?_
  intro v2 i2 ρ2 hF2 e2 tk2 g2 p2 h
  refine h3 _ _ h m X hF2 _ g2.sim g2.keys _ ?_
  intro v3 i3 ρ3 hF3 e3 tk3 g3 p3 h
  obtain ⟨hF4, g4, e⟩ := Go.pushed (p := c.p) (px := c.C.px) (names := c.scope.names) g3.sim g3.keys (stays_push e3 { cls := .type "slice", data := .fields #[v1, v2, v3] }) (Nat.le_refl _) (Heap.get?_push_size _ rfl)
  exact hQ _ (.cut i1 i2 i3) _ _ _ _ ((g1.trans g2).trans (g3.trans g4)) ⟨_, v1, v2, v3, rfl, ⟨_, e, rfl, rfl⟩, p1, p2, p3⟩ h
end
theorem subscripted_ops (slice : Expr) (o i : Value) : ∃ ops, subscripted slice false o i = operate ops (getItem o i) := by
  unfold subscripted
  split
  · exact ⟨_, rfl⟩
  · rename_i h; cases h
  · exact ⟨_, rfl⟩
theorem subTail {prog : Program} {w : World} {A : Around} {E : Value → Shared → Prop} {s : Shared} {value slice : Expr} {o i : Value} {T id : String} {Q : Value → Shared → Prop} (hT : s.TypeIs o T)
    (hl : typeLookup (.type T) "__getitem__" = pure (some (.builtin id))) (h : wpAny (model prog w) A (getItem o i) Q E s) : wpAny (model prog w) A (subscriptTail value slice o i) Q E s := by
  unfold subscriptTail
  refine wpAny_bind ?_
  rw [getitemInPython_of_ne hT.not_modules]
  refine wpAny_bind (wpAny_specialOf hT hl ?_)
  have fin : wpAny (model prog w) A (subscripted slice false o i) (fun r s₃ => wpAny (model prog w) A (letTemporaryGo value o r >>= fun _ => pure r) Q E s₃) E s := by
    obtain ⟨ops, hs⟩ := subscripted_ops slice o i
    rw [hs]
    exact wpAny_operating (wpAny_mono h (fun r s₃ h₃ => wpAny_bind (wpAny_letTemporaryGo (wpAny_pure h₃))) fun _ _ x => x)
  first
    | exact wpAny_pure (wpAny_bind fin)
    | exact wpAny_bind (wpAny_pure (wpAny_bind fin))
    | exact wpAny_bind fin
section
variable {c : Cfg} {n : Nat}
theorem snd_subL {value slice : Expr} {l : Addr} {vs : List Value} {xs : List PyData} {as : List Addr} {vk : Value} {k : Vx} {Kp : Vx → Prop} {m : Str → Option Value} {X : List Addr} {hF : Heap} {s : Shared} {ρ : Rho} {Q' : Value → Shared → Prop}
    (S : c.Sm m X hF s.heap ρ) (K : KeysOk c.scope.names ρ) (hl : s.heap.IsList l vs.toArray) (ra : ReadsAll hF vs xs as) (rk : Rd c.mg hF vk k) (h : subV (.list xs) k Kp)
    (hQ : ∀ v d hF' h' tk, c.G m X hF s.heap hF' h' ρ → Rd c.mg hF' v d → Kp d → Q' v { s with heap := h', toks := tk }) : c.W (subscriptTail value slice (.ref l) vk) Q' s := by
  have hlen := readsAll_length ra
  cases k with
  | dat d =>
    cases d with
    | int i =>
      obtain ⟨t, rfl⟩ := rd_int rk
      obtain ⟨h1, h2, h3, d, hd, hk⟩ := h
      obtain ⟨v, bs, hv, rv⟩ := readsAll_get ra hd
      have fin : Q' v s := hQ v (.dat d) hF s.heap s.toks (Go.refl S K) ⟨bs, rv⟩ hk
      by_cases hi : i < 0
      · rw [if_pos hi, ← hlen] at hv
        exact subTail hl.typeIs slot_list_getitem.lookup (wpAny_getItem_list_neg hl hi (by rw [List.size_toArray, hlen]; exact h3) (by omega) (by rw [List.size_toArray]; simpa using hv) fin)
      · rw [if_neg hi] at hv
        exact subTail hl.typeIs slot_list_getitem.lookup (wpAny_getItem_list hl (by omega) (by omega) (by simpa using hv) fin)
    | _ => exact h.elim
  | fn f => exact h.elim
  | cut lo hi st =>
    obtain ⟨sl, vl, vu, vt, rfl, hs, p1, p2, p3⟩ := rk
    obtain ⟨hsz, h⟩ := h
    have hs' : s.heap.IsSliceOf sl vl vu vt := let ⟨o, ho, r⟩ := hs; ⟨o, S.keep _ _ ho, r⟩
    have st0 : st ≠ some 0 := by
      rintro rfl
      cases lo <;> cases hi <;> simp at h
    refine subTail hl.typeIs list_getitem_lookup (wpAny_getItem_list_slice hl hs' p1 p2 p3 st0 ?_ (by rw [List.size_toArray, hlen, sizeLine_eq]; omega))
    have fin : ∀ (ws : List Value) (ys : List PyData) (bs : List Addr), slicePick vs.toArray lo hi st = ws.toArray → ReadsAll hF ws ys bs → Kp (.dat (.list ys)) →
        Q' (.ref s.heap.objs.size) { s with heap := s.heap.push { cls := .type "list", data := .seq (slicePick vs.toArray lo hi st) } } := by
      intro ws ys bs e r hk
      rw [e]
      obtain ⟨hF', g, rr⟩ := newListGo (c := c) S K r
      exact hQ _ _ hF' _ s.toks g rr hk
    cases lo with
    | none =>
      cases hi with
      | none =>
        cases st with
        | none => exact fin vs xs as (slicePick_all _) ra h
        | some k =>
          obtain ⟨rfl, h⟩ := h
          obtain ⟨bs, r⟩ := readsAll_reverse ra
          exact fin _ _ bs (by rw [krv_pick]) r h
      | some b =>
        cases st with
        | none =>
          obtain ⟨h0, h1, h⟩ := h
          obtain ⟨bs, r⟩ := readsAll_take b.toNat ra
          refine fin _ _ bs ?_ r h
          obtain ⟨b, rfl⟩ := Int.eq_ofNat_of_zero_le h0
          rw [slicePick_upto _ _ (by rw [List.size_toArray, hlen]; omega)]
          simp
        | some k => exact h.elim
    | some a =>
      cases hi with
      | none => cases st <;> exact h.elim
      | some b =>
        cases st with
        | none =>
          obtain ⟨h0, h1, h2, h⟩ := h
          obtain ⟨cs, r1⟩ := readsAll_drop a.toNat ra
          obtain ⟨bs, r⟩ := readsAll_take (b - a).toNat r1
          refine fin _ _ bs ?_ r h
          obtain ⟨a, rfl⟩ := Int.eq_ofNat_of_zero_le h0
          obtain ⟨b, rfl⟩ := Int.eq_ofNat_of_zero_le (Int.le_trans h0 h1)
          have e3 : ((b : Int) - (a : Int)).toNat = b - a := by omega
          rw [e3, slicePick_run _ _ _ (by rw [List.size_toArray, hlen]; omega) (by omega)]
          simp
        | some k => exact h.elim
theorem snd_subT {value slice : Expr} {l : Addr} {vs : List Value} {xs : List PyData} {as : List Addr} {vk : Value} {k : Vx} {Kp : Vx → Prop} {m : Str → Option Value} {X : List Addr} {hF : Heap} {s : Shared} {ρ : Rho} {Q' : Value → Shared → Prop}
    (S : c.Sm m X hF s.heap ρ) (K : KeysOk c.scope.names ρ) (hl : IsTup s.heap l vs.toArray) (ra : ReadsAll hF vs xs as) (rk : Rd c.mg hF vk k) (h : subV (.tuple xs) k Kp)
    (hQ : ∀ v d hF' h' tk, c.G m X hF s.heap hF' h' ρ → Rd c.mg hF' v d → Kp d → Q' v { s with heap := h', toks := tk }) : c.W (subscriptTail value slice (.ref l) vk) Q' s := by
  have hlen := readsAll_length ra
  cases k with
  | dat d =>
    cases d with
    | int i =>
      obtain ⟨t, rfl⟩ := rd_int rk
      obtain ⟨h1, h2, h3, d, hd, hk⟩ := h
      obtain ⟨v, bs, hv, rv⟩ := readsAll_get ra hd
      have fin : Q' v s := hQ v (.dat d) hF s.heap s.toks (Go.refl S K) ⟨bs, rv⟩ hk
      have hlt : (if i < 0 then i + (xs.length : Int) else i).toNat < xs.length := (List.getElem?_eq_some_iff.mp hd).1
      refine subTail hl.typeIs slot_tuple_getitem.lookup (PyProof.Rows.getItem_tuple hl (by omega) (by omega) (j := (if i < 0 then i + (xs.length : Int) else i).toNat) ?_ (by simpa using hv) fin)
      rw [List.size_toArray, hlen]
      by_cases hi : i < 0
      · rw [if_pos hi] at hlt ⊢
        exact seqIndex_neg hi h3
      · rw [if_neg hi] at hlt ⊢
        unfold seqIndex?
        rw [if_neg hi]
        rw [if_pos (by simp only [Bool.and_eq_true, decide_eq_true_eq]; omega)]
    | _ => exact h.elim
  | fn f => exact h.elim
  | cut => exact h.elim
theorem snd_Subscript (O : c.Ok n) {v sl : Expr} {pos : Pos} (hv : SndE c v) (hs : SndE c sl) : SndE c (.Subscript v sl pos) := by
  intro ρ Q h m X hF s S K Q' hQ
  conv at h => whnf
  split at h
  · rename_i x hx
    unfold ownName at hx
    split at hx
    · rename_i y py
      split at hx
      · rename_i xs0 e0
        cases hx
        obtain ⟨a, us, as, hma, hp, _⟩ := S.slots _ _ e0
        refine Subscript_ (loadLocal O S K e0 (by intro q; cases q) hma (hs _ _ h m X hF s S K _ ?_))
        intro vk k ρ1 hF1 h1 tk1 g1 rk h
        obtain ⟨xs, e1, h⟩ := h
        obtain ⟨a', us', as', hma', hp', _, _, _, r'⟩ := g1.sim.slots _ _ e1
        rw [hma] at hma'; cases hma'
        exact snd_subL (c := c) (s := { s with heap := h1, toks := tk1 }) g1.sim g1.keys hp'.isList r' rk h fun v d hF' h' tk g r k => hQ v d ρ1 hF' h' tk (g1.trans g) r k
      · cases hx
    · cases hx
  · refine Subscript_ (hv _ _ h m X hF s S K _ ?_)
    intro vo o ρ1 hF1 h1 tk1 g1 ro h
    refine hs _ _ h m X hF1 _ g1.sim g1.keys _ ?_
    intro vk k ρ2 hF2 h2 tk2 g2 rk hk
    obtain ⟨d0, ho, hk⟩ := hk
    clear h
    subst ho
    have g := g1.trans g2
    cases d0 with
    | list xs =>
      obtain ⟨l, vs, as, rfl, hl, ra⟩ := rd_list ro
      exact snd_subL (c := c) (s := { s with heap := h2, toks := tk2 }) g2.sim g2.keys (stays_list g2.sim.keep (stays_list g2.grow hl)) (ReadsAll.keeps g2.grow ra) rk hk fun v d hF' h' tk g' r k => hQ v d ρ2 hF' h' tk (g.trans g') r k
    | tuple xs =>
      obtain ⟨l, vs, as, rfl, hl, ra⟩ := rd_tuple ro
      exact snd_subT (c := c) (s := { s with heap := h2, toks := tk2 }) g2.sim g2.keys (hl.keeps (fun b o e => g2.sim.keep b o (g2.grow b o e))) (ReadsAll.keeps g2.grow ra) rk hk fun v d hF' h' tk g' r k => hQ v d ρ2 hF' h' tk (g.trans g') r k
    | _ => exact hk.elim
/-! ## calls -/
theorem nameGlob (O : c.Ok n) {g : Str} {pg : Pos} {v : Value} {m : Str → Option Value} {X : List Addr} {hF : Heap} {s : Shared} {ρ : Rho} {Q' : Value → Shared → Prop} (S : c.Sm m X hF s.heap ρ) (K : KeysOk c.scope.names ρ) (e : got ρ g = some .glob)
    (hm : c.mg g = some v) (h : Q' v s) : c.W (eval (.Name g pg) c.env) Q' s := by
  have q := K g _ e
  exact Calls.Name_function_global O.hk q.2 (Calls.loadGlobal_global (env := c.env) (O.base.g.keeps fun b o e => S.keep b o (S.base b o e)) hm h) q.1
theorem nameBuiltin (O : c.Ok n) {g : Str} {pg : Pos} {v : Value} {m : Str → Option Value} {X : List Addr} {hF : Heap} {s : Shared} {ρ : Rho} {Q' : Value → Shared → Prop} (S : c.Sm m X hF s.heap ρ) (K : KeysOk c.scope.names ρ) (e : got ρ g = some .glob)
    (hm : c.mg g = none ∧ c.mb g = some v) (h : Q' v s) : c.W (eval (.Name g pg) c.env) Q' s := by
  have q := K g _ e
  have k : c.B.StaysIn s.heap := fun b o e => S.keep b o (S.base b o e)
  exact Calls.Name_function_global O.hk q.2 (Calls.loadGlobal_builtin (env := c.env) (O.base.g.keeps k) hm.1 (O.base.b.keeps k) hm.2 h) q.1
theorem callee_user {C : Ctx} {ρ : Rho} {g : Str} {Sf : SpecF} (h : callee C ρ g = .user Sf) : ∃ f, find1 C.fns f = some Sf ∧ (f = g ∧ got ρ g = some .glob ∨ got ρ g = some (.val (.fn f))) := by
  unfold callee at h
  split at h
  · rename_i e
    split at h
    · cases h
    · split at h
      · rename_i q; cases h; exact ⟨g, q, .inl ⟨rfl, e⟩⟩
      · split at h
        · cases h
        · split at h <;> cases h
  · rename_i f e
    split at h
    · rename_i q; cases h; exact ⟨f, q, .inr e⟩
    · cases h
  · cases h
theorem callee_mut {C : Ctx} {ρ : Rho} {g : Str} {Sf : SpecM} (h : callee C ρ g = .mut Sf) : find1 C.muts g = some Sf ∧ got ρ g = some .glob := by
  unfold callee at h
  split at h
  · rename_i e
    split at h
    · rename_i q; cases h; exact ⟨q, e⟩
    · split at h
      · cases h
      · split at h
        · cases h
        · split at h <;> cases h
  · split at h <;> cases h
  · cases h
theorem callee_len {C : Ctx} {ρ : Rho} {g : Str} (h : callee C ρ g = .len) : g = Str.ofString "len" ∧ got ρ g = some .glob := by
  unfold callee at h
  split at h
  · rename_i e
    split at h
    · cases h
    · split at h
      · cases h
      · split at h
        · rename_i q; exact ⟨eq_of_beq q, e⟩
        · split at h <;> cases h
  · split at h <;> cases h
  · cases h
theorem callee_min {C : Ctx} {ρ : Rho} {g : Str} (h : callee C ρ g = .min) : g = Str.ofString "min" ∧ got ρ g = some .glob := by
  unfold callee at h
  split at h
  · rename_i e
    split at h
    · cases h
    · split at h
      · cases h
      · split at h
        · cases h
        · split at h
          · rename_i q; exact ⟨eq_of_beq q, e⟩
          · cases h
  · split at h <;> cases h
  · cases h
theorem wpEs_star {C : Ctx} {e : Expr} {es : List Expr} {ρ : Rho} {Q : List Vx → Rho → Prop} {env : Env} (h : wpEs C (e :: es) ρ Q) : starEach (e :: es) env = (false, eval e env) :: starEach es env := by
  exact star_of (e := e) (by exact h)
theorem snd_user (O : c.Ok n) {Sf : SpecF} {g : Str} {pg pos : Pos} {args : List Expr} {ρ : Rho} {Q : Vx → Rho → Prop} (hs : SndEs c args) (hc : callee c.C ρ g = .user Sf) (hne : args ≠ []) (h : wpEs c.C args ρ fun vs ρ1 => ∃ r, Sf vs r ∧ Q r ρ1)
    {m : Str → Option Value} {X : List Addr} {hF : Heap} {s : Shared} (S : c.Sm m X hF s.heap ρ) (K : KeysOk c.scope.names ρ) {Q' : Value → Shared → Prop} (hQ : c.PostV m X hF s Q Q') : c.W (eval (.Call (.Name g pg) args [] pos) c.env) Q' s := by
  obtain ⟨f, hf, hg⟩ := callee_user hc
  obtain ⟨fa, o, fd, hm, hB, hd, con⟩ := O.fns _ (find1_mem hf)
  refine wpAny_Call_Name_kw ?_
  have body : c.W (callWith pos (.ref fa) [] (backTo pos (starEach args c.env)) (backToKw pos (keywordEach [] c.env))) Q' s := by
    refine callWith_function_kw (o := o) (fd := fd) ?_
    cases args with
    | nil => exact absurd rfl hne
    | cons e es =>
      rw [wpEs_star h]
      refine evalArgs_plain ?_
      have hs' := hs _ _ h pos m X hF s S K (fun vs s' => (s'.heap.get? fa = some o ∧ o.data = .func fd) ∧ c.W (call (.ref fa) ([] ++ vs)) Q' s') ?_
      · rw [wpEs_star h] at hs'; exact hs'
      intro vs ds ρ1 hF1 h1 tk1 g1 r1 h
      obtain ⟨r, hS, h⟩ := h
      refine ⟨⟨g1.sim.keep _ _ (g1.sim.base _ _ hB), hd⟩, ?_⟩
      refine con c.A _ hF1 _ ds r _ O.hh O.depth O.units g1.sim.base g1.sim.keep r1 hS ?_
      intro v h2 hF2 tk2 k1 k2 k3 off rv
      exact hQ _ _ _ _ _ _ (g1.trans (Go.grown g1.sim g1.keys k1 k2 k3 off)) rv h
  rcases hg with ⟨rfl, e⟩ | e
  · exact nameGlob O S K e hm body
  · obtain ⟨u, hu, q1, _⟩ := S.slots _ _ e
    have : u = .ref fa := by
      have := q1.symm.trans hm
      exact Option.some.inj this
    subst this
    exact loadLocal O S K e (by intro q; cases q) hu body
theorem snd_mut (O : c.Ok n) {Sf : SpecM} {g x : Str} {pg px pos : Pos} {rest : List Expr} {ρ : Rho} {Q : Vx → Rho → Prop} (hs : SndEs c rest) (hc : callee c.C ρ g = .mut Sf) {xs0 : List PyData} (e0 : got ρ x = some (.own xs0))
    (h : wpEs c.C rest ρ fun vs ρ1 => ∃ xs r ys, got ρ1 x = some (.own xs) ∧ Sf xs vs r ys ∧ Q r (put ρ1 x (.own ys)))
    {m : Str → Option Value} {X : List Addr} {hF : Heap} {s : Shared} (S : c.Sm m X hF s.heap ρ) (K : KeysOk c.scope.names ρ) {Q' : Value → Shared → Prop} (hQ : c.PostV m X hF s Q Q') : c.W (eval (.Call (.Name g pg) (.Name x px :: rest) [] pos) c.env) Q' s := by
  obtain ⟨hf, eg⟩ := callee_mut hc
  obtain ⟨fa, o, fd, hm, hB, hd, con⟩ := O.muts _ (find1_mem hf)
  obtain ⟨l, us0, as0, hml, _⟩ := S.slots _ _ e0
  refine wpAny_Call_Name_kw (nameGlob O S K eg hm ?_)
  refine callWith_function_kw (o := o) (fd := fd) ?_
  show wpAny _ _ (evalArgs _ true ((false, eval (.Name x px) c.env) :: backTo pos (starEach rest c.env)) []) _ _ _
  refine evalArgs_plain (Calls.spliced_cons (loadLocal O S K e0 (by intro q; cases q) hml ?_))
  refine hs _ _ h pos m X hF s S K _ ?_
  intro vs ds ρ1 hF1 h1 tk1 g1 r1 h
  obtain ⟨xs, r, ys, e1, hS, h⟩ := h
  refine ⟨⟨g1.sim.keep _ _ (g1.sim.base _ _ hB), hd⟩, ?_⟩
  obtain ⟨l', us, as, hml', hp, hn, hL, hX, ra⟩ := g1.sim.slots _ _ e1
  rw [hml] at hml'; cases hml'
  refine con c.A _ hF1 l us vs ds r xs ys as _ O.hh O.depth O.units g1.sim.base g1.sim.keep r1 hp hn ra hS ?_
  intro v h2 hF2 tk2 us' bs k1 hp' k2 k3 off rv ra'
  have S2 := g1.sim.setOwn e1 hml k1 hp' k2 k3 off ra'
  refine hQ _ _ _ _ _ _ (g1.trans ⟨S2, g1.keys.put e1 (by intro q; cases q) (by intro q; cases q), k2, fun b o q => (off b o q).imp id fun r => .inl (Nat.lt_of_lt_of_le g1.sim.lt r), fun b hb o q => k1 b o (fun r => hX (r ▸ hb)) q⟩) rv h
theorem snd_lenV {v : Value} {d : Vx} {Kp : Vx → Prop} {hF : Heap} {s : Shared} {Q' : Value → Shared → Prop} (k : hF.StaysIn s.heap) (r : Rd c.mg hF v d) (h : lenV d Kp) (hQ : ∀ i t tk, Kp (.dat (.int i)) → Q' (.int i t) { s with toks := tk }) : c.W (call (.builtin "len") [v]) Q' s := by
  unfold lenV at h
  split at h
  · obtain ⟨l, vs, as, rfl, hl, ra⟩ := rd_list r
    rename_i xs
    have e : vs.toArray.size = xs.length := by rw [List.size_toArray, readsAll_length ra]
    exact len_list (stays_list k hl) (by rw [e]; have := h.1; omega) (by rw [e]; exact hQ _ _ _ h.2)
  · exact h.elim
theorem snd_len_own (O : c.Ok n) {g x : Str} {pg px pos : Pos} {ρ : Rho} {Q : Vx → Rho → Prop} (hc : callee c.C ρ g = .len) {xs : List PyData} (e0 : got ρ x = some (.own xs)) (h : lenV (.dat (.list xs)) fun v => Q v ρ)
    {m : Str → Option Value} {X : List Addr} {hF : Heap} {s : Shared} (S : c.Sm m X hF s.heap ρ) (K : KeysOk c.scope.names ρ) {Q' : Value → Shared → Prop} (hQ : c.PostV m X hF s Q Q') : c.W (eval (.Call (.Name g pg) [.Name x px] [] pos) c.env) Q' s := by
  obtain ⟨rfl, eg⟩ := callee_len hc
  obtain ⟨l, us, as, hml, hp, _, _, _, ra⟩ := S.slots _ _ e0
  refine wpAny_Call_Name_kw (nameBuiltin O S K eg O.base.len ?_)
  refine Calls.callWith_builtin (args := [(false, eval (.Name x px) c.env)]) rfl (evalArgs_plain (Calls.spliced_cons (loadLocal O S K e0 (by intro q; cases q) hml (Calls.spliced_nil ?_))))
  have e : us.toArray.size = xs.length := by rw [List.size_toArray, readsAll_length ra]
  exact len_list hp.isList (by rw [e]; have := h.1; omega) (by rw [e]; exact hQ _ _ _ _ _ _ (Go.refl S K) (rdI _ _) h.2)
theorem snd_len (O : c.Ok n) {g : Str} {pg pos : Pos} {e : Expr} {ρ : Rho} {Q : Vx → Rho → Prop} (he : SndE c e) (hc : callee c.C ρ g = .len) (h : wpE c.C e ρ fun v ρ1 => lenV v fun r => Q r ρ1)
    {m : Str → Option Value} {X : List Addr} {hF : Heap} {s : Shared} (S : c.Sm m X hF s.heap ρ) (K : KeysOk c.scope.names ρ) {Q' : Value → Shared → Prop} (hQ : c.PostV m X hF s Q Q') : c.W (eval (.Call (.Name g pg) [e] [] pos) c.env) Q' s := by
  obtain ⟨rfl, eg⟩ := callee_len hc
  refine wpAny_Call_Name_kw (nameBuiltin O S K eg O.base.len ?_)
  have hst : starEach [e] c.env = [(false, eval e c.env)] := star_of h
  rw [hst]
  refine Calls.callWith_builtin (args := [(false, eval e c.env)]) rfl (evalArgs_plain (Calls.spliced_cons (he _ _ h m X hF s S K _ ?_)))
  intro v d ρ1 hF1 h1 tk1 g1 r1 h
  exact Calls.spliced_nil (snd_lenV g1.sim.keep r1 h fun i t tk hk => hQ _ _ _ _ _ _ g1 (rdI _ _) hk)
theorem any_star {pos : Pos} {env : Env} : ∀ {es : List Expr}, es.all noStar = true → (backTo pos (starEach es env)).any (·.1) = false
  | [], _ => rfl
  | e :: es, h => by
    rw [List.all_cons, Bool.and_eq_true] at h
    have ih := any_star (pos := pos) (env := env) h.2
    have e1 : starEach (e :: es) env = (false, eval e env) :: starEach es env := by
      cases e <;> first | rfl | (exact absurd h.1 (by simp [noStar]))
    rw [e1]
    show (false || (backTo pos (starEach es env)).any (·.1)) = false
    rw [ih]; rfl
theorem snd_min (O : c.Ok n) {g : Str} {pg pos : Pos} {args : List Expr} {ρ : Rho} {Q : Vx → Rho → Prop} (hs : SndEs c args) (hc : callee c.C ρ g = .min) (hne : args ≠ []) (hst : args.all noStar = true) (h : wpEs c.C args ρ fun vs ρ1 => minV vs fun v => Q v ρ1)
    {m : Str → Option Value} {X : List Addr} {hF : Heap} {s : Shared} (S : c.Sm m X hF s.heap ρ) (K : KeysOk c.scope.names ρ) {Q' : Value → Shared → Prop} (hQ : c.PostV m X hF s Q Q') : c.W (eval (.Call (.Name g pg) args [] pos) c.env) Q' s := by
  obtain ⟨rfl, eg⟩ := callee_min hc
  refine wpAny_Call_Name_kw (nameBuiltin O S K eg O.base.min ?_)
  cases args with
  | nil => exact absurd rfl hne
  | cons e es =>
    have hs' := hs _ _ h pos m X hF s S K (fun vs s' => c.W (call (.builtin "min") ([] ++ vs)) Q' s') ?_
    · show wpAny _ _ (callWith pos (.builtin "min") [] (backTo pos (starEach (e :: es) c.env)) []) _ _ _
      have hpl := any_star (pos := pos) (env := c.env) hst
      rw [wpEs_star h] at hs' hpl ⊢
      exact Calls.callWith_builtin hpl (evalArgs_plain hs')
    intro vs ds ρ1 hF1 h1 tk1 g1 r1 h
    unfold minV at h
    split at h
    · cases r1 with
      | cons q1 r1 =>
        cases r1 with
        | cons q2 r1 =>
          cases r1
          obtain ⟨t, rfl⟩ := rd_int q1
          obtain ⟨u, rfl⟩ := rd_int q2
          refine min_two_ints O.hh ?_
          intro h2 tk2 k
          have g2 := g1.trans (Go.same (p := c.p) (names := c.scope.names) g1.sim g1.keys k)
          split
          · rename_i q; rw [if_pos q] at h; exact hQ _ _ _ _ _ _ g2 (rdI _ _) h
          · rename_i q; rw [if_neg q] at h; exact hQ _ _ _ _ _ _ g2 (rdI _ _) h
    · exact h.elim
end
section
variable {c : Cfg} {n : Nat}
theorem snd_bits {o : Expr} {nm : Str} {apos pos : Pos} (ho : SndE c o) : SndE c (.Call (.Attribute o nm apos) [] [] pos) := by
  intro ρ Q h m X hF s S K Q' hQ
  conv at h => whnf
  obtain ⟨⟨pl, he⟩, rfl, h⟩ := h
  refine MethodCall_ (pl := pl c.env) (ho _ _ h m X hF s S K _ ?_) (he c.env)
  intro v d ρ1 hF1 h1 tk1 g1 r1 hk
  unfold asInt at hk
  split at hk
  · obtain ⟨t, rfl⟩ := rd_int r1
    exact getMethod_int_bit_length (callWith_method0 (call_int_bit_length (hQ _ _ _ _ _ _ g1 (rdI _ _) hk)))
  · exact hk.elim
noncomputable def AllE (c : Cfg) : List Expr → Prop
  | [] => True
  | e :: es => SndE c e ∧ AllE c es
noncomputable def AllT (c : Cfg) : List Expr → Prop
  | [] => True
  | e :: es => SndT c e ∧ AllT c es
theorem AllE.es : ∀ {es : List Expr}, AllE c es → SndEs c es
  | [], _ => snd_Es_nil
  | _ :: _, h => snd_Es_cons h.1 (AllE.es h.2)
theorem AllT.ts {op : BoolOp} : ∀ {es : List Expr}, AllT c es → SndTs c op es
  | [], _ => snd_Ts_nil
  | _ :: _, h => snd_Ts_cons h.1 (AllT.ts h.2)
theorem ownName_name {ρ : Rho} {a : Expr} {x : Str} (h : ownName ρ a = some x) : ∃ p, a = .Name x p := by
  cases a
  case Name y p =>
    have h : (match got ρ y with | some (.own _) => some y | _ => none) = some x := h
    generalize got ρ y = o at h
    rcases o with _ | s
    · cases h
    · cases s <;> first | (cases h; exact ⟨_, rfl⟩) | cases h
  all_goals cases h
theorem snd_CallName (O : c.Ok n) {g : Str} {pg pos : Pos} {args : List Expr} (hs : AllE c args) : SndE c (.Call (.Name g pg) args [] pos) := by
  intro ρ Q h m X hF s S K Q' hQ
  rcases args with _ | ⟨a, rest⟩
  · exact (show False from h).elim
  · replace h : callW c.C ρ g a rest (wpE c.C a) (wpEs c.C rest) Q := h
    delta callW at h
    generalize hc : callee c.C ρ g = cl at h
    cases cl with
    | user Sf => exact snd_user O hs.es hc (List.cons_ne_nil _ _) h S K hQ
    | «mut» Sf =>
      cases a
      case Name y py =>
        obtain ⟨⟨xs, e0⟩, h⟩ : (∃ xs, got ρ y = some (.own xs)) ∧ _ := h
        exact snd_mut O (AllE.es hs.2) hc e0 h S K hQ
      all_goals exact (show False from h).elim
    | len =>
      rcases rest with _ | ⟨a2, rest⟩
      · replace h : lenW ρ a [] (wpE c.C a) Q := h
        delta lenW at h
        dsimp only at h
        generalize hx : ownName ρ a = on at h
        cases on with
        | none => exact snd_len O hs.1 hc h S K hQ
        | some x =>
          obtain ⟨py, rfl⟩ := ownName_name hx
          obtain ⟨xs, e0, h⟩ := h
          exact snd_len_own O hc e0 h S K hQ
      · exact (show False from h).elim
    | min => exact snd_min O hs.es hc (List.cons_ne_nil _ _) h.1 h.2 S K hQ
    | bad => exact (show False from h).elim
theorem snd_Call (O : c.Ok n) {f : Expr} {args : List Expr} {kws : List Keyword} {pos : Pos} (hs : AllE c args) (ho : ∀ o nm apos, f = .Attribute o nm apos → SndE c o) : SndE c (.Call f args kws pos) := by
  cases kws with
  | cons k ks => intro ρ Q h; exact (show False from h).elim
  | nil =>
    cases f
    case Name g pg => exact snd_CallName O hs
    case Attribute o nm apos =>
      cases args with
      | nil => exact snd_bits (ho _ _ _ rfl)
      | cons a as => intro ρ Q h; exact (show False from h).elim
    all_goals (intro ρ Q h; exact (show False from h).elim)
theorem snd_BoolOp {op : BoolOp} {vs : List Expr} {pos : Pos} (hs : AllE c vs) : SndE c (.BoolOp op vs pos) := by
  intro ρ Q h m X hF s S K Q' hQ
  rcases op
  · rcases vs with _ | ⟨x, _ | ⟨y, _ | ⟨z, r⟩⟩⟩
    · exact (show False from h).elim
    · exact (show False from h).elim
    · exact snd_And hs.1 hs.2.1 _ _ h m X hF s S K _ hQ
    · exact (show False from h).elim
  · exact (show False from h).elim
theorem snd_CompareAny (O : c.Ok n) {l : Expr} {ops : List CmpOp} {cs : List Expr} {pos : Pos} (hl : SndE c l) (hs : AllE c cs) : SndE c (.Compare l ops cs pos) := by
  intro ρ Q h m X hF s S K Q' hQ
  rcases ops with _ | ⟨op, _ | ⟨_, _⟩⟩
  · exact (show False from h).elim
  · rcases cs with _ | ⟨r, _ | ⟨r2, b⟩⟩
    · exact (show False from h).elim
    · exact snd_Compare O hl hs.1 _ _ h m X hF s S K _ hQ
    · exact (show False from h).elim
  · exact (show False from h).elim
theorem snd_TCompareAny (O : c.Ok n) {l : Expr} {ops : List CmpOp} {cs : List Expr} {pos : Pos} (hl : SndE c l) (hs : AllE c cs) : SndT c (.Compare l ops cs pos) := by
  intro ρ Q h m X hF s whole S K Q' hQ
  rcases ops with _ | ⟨op, _ | ⟨_, _⟩⟩
  · exact (show False from h).elim
  · rcases cs with _ | ⟨r, _ | ⟨r2, b⟩⟩
    · exact (show False from h).elim
    · exact snd_TCompare O hl hs.1 _ _ h m X hF s whole S K _ hQ
    · exact (show False from h).elim
  · exact (show False from h).elim
mutual
theorem sndE (O : c.Ok n) : ∀ e : Expr, SndE c e
  | .BoolOp _ vs _ => snd_BoolOp (sndAll O vs)
  | .NamedExpr .. => fun _ _ h => (show False from h).elim
  | .BinOp l _ r _ => snd_BinOp (sndE O l) (sndE O r)
  | .UnaryOp _ x _ => snd_UnaryOp (sndE O x)
  | .Lambda .. => fun _ _ h => (show False from h).elim
  | .IfExp t b o _ => snd_IfExp (sndT O t) (sndE O b) (sndE O o)
  | .Dict .. => fun _ _ h => (show False from h).elim
  | .Set .. => fun _ _ h => (show False from h).elim
  | .ListComp .. => fun _ _ h => (show False from h).elim
  | .SetComp .. => fun _ _ h => (show False from h).elim
  | .DictComp .. => fun _ _ h => (show False from h).elim
  | .GeneratorExp .. => fun _ _ h => (show False from h).elim
  | .Await .. => fun _ _ h => (show False from h).elim
  | .Yield .. => fun _ _ h => (show False from h).elim
  | .YieldFrom .. => fun _ _ h => (show False from h).elim
  | .Compare l _ cs _ => snd_CompareAny O (sndE O l) (sndAll O cs)
  | .Call (.Attribute o _ _) args _ _ => snd_Call O (sndAll O args) (fun o' _ _ q => by cases q; exact sndE O o)
  | .Call f args _ _ => snd_Call O (sndAll O args) (fun o' nm apos q => by
      subst q
      intro ρ Q h m X hF s S K Q' hQ
      exact sndE O o' ρ Q h m X hF s S K Q' hQ)
  | .FormattedValue .. => fun _ _ h => (show False from h).elim
  | .JoinedStr .. => fun _ _ h => (show False from h).elim
  | .Constant .. => snd_Constant
  | .Attribute .. => fun _ _ h => (show False from h).elim
  | .Subscript v s _ => snd_Subscript O (sndE O v) (sndE O s)
  | .Starred .. => fun _ _ h => (show False from h).elim
  | .Name .. => snd_Name O
  | .List es _ => snd_List (sndAll O es).es
  | .Tuple es _ _ => snd_Tuple (sndAll O es).es
  | .Slice lo hi st _ => snd_Slice (sndO O lo) (sndO O hi) (sndO O st)
theorem sndAll (O : c.Ok n) : ∀ es : List Expr, AllE c es
  | [] => trivial
  | e :: es => ⟨sndE O e, sndAll O es⟩
theorem sndO (O : c.Ok n) : ∀ e : Option Expr, SndO c e
  | none => snd_O_none
  | some e => snd_O_some (sndE O e)
theorem sndT (O : c.Ok n) : ∀ e : Expr, SndT c e
  | .BoolOp _ vs _ => snd_TBool (sndAllT O vs).ts
  | .Compare l _ cs _ => snd_TCompareAny O (sndE O l) (sndAll O cs)
  | .NamedExpr .. => fun _ _ h => (show False from h).elim
  | .BinOp .. => fun _ _ h => (show False from h).elim
  | .UnaryOp .. => fun _ _ h => (show False from h).elim
  | .Lambda .. => fun _ _ h => (show False from h).elim
  | .IfExp .. => fun _ _ h => (show False from h).elim
  | .Dict .. => fun _ _ h => (show False from h).elim
  | .Set .. => fun _ _ h => (show False from h).elim
  | .ListComp .. => fun _ _ h => (show False from h).elim
  | .SetComp .. => fun _ _ h => (show False from h).elim
  | .DictComp .. => fun _ _ h => (show False from h).elim
  | .GeneratorExp .. => fun _ _ h => (show False from h).elim
  | .Await .. => fun _ _ h => (show False from h).elim
  | .Yield .. => fun _ _ h => (show False from h).elim
  | .YieldFrom .. => fun _ _ h => (show False from h).elim
  | .Call .. => fun _ _ h => (show False from h).elim
  | .FormattedValue .. => fun _ _ h => (show False from h).elim
  | .JoinedStr .. => fun _ _ h => (show False from h).elim
  | .Constant .. => fun _ _ h => (show False from h).elim
  | .Attribute .. => fun _ _ h => (show False from h).elim
  | .Subscript .. => fun _ _ h => (show False from h).elim
  | .Starred .. => fun _ _ h => (show False from h).elim
  | .Name .. => fun _ _ h => (show False from h).elim
  | .List .. => fun _ _ h => (show False from h).elim
  | .Tuple .. => fun _ _ h => (show False from h).elim
  | .Slice .. => fun _ _ h => (show False from h).elim
theorem sndAllT (O : c.Ok n) : ∀ es : List Expr, AllT c es
  | [] => trivial
  | e :: es => ⟨sndT O e, sndAllT O es⟩
end
end
/-! ## puts that commute -/
theorem put_comm {x y : Str} {s t : Slot} (hne : x ≠ y) : ∀ ρ : Rho, put (put ρ x s) y t = put (put ρ y t) x s
  | [] => rfl
  | (k, u) :: r => by
    by_cases e1 : (k == x) = true
    · have e2 : ¬ (k == y) = true := fun q => hne ((eq_of_beq e1).symm.trans (eq_of_beq q))
      simp only [put, if_pos e1, if_neg e2]
    · by_cases e2 : (k == y) = true
      · simp only [put, if_neg e1, if_pos e2]
      · simp only [put, if_neg e1, if_neg e2]
        rw [put_comm hne r]
noncomputable def putPs (ρ : Rho) (ps : List (Str × Vx)) : Rho := ps.foldl (fun ρ p => put ρ p.1 (.val p.2)) ρ
theorem putPs_put {x : Str} {s : Slot} : ∀ (ps : List (Str × Vx)) (ρ : Rho), (∀ p ∈ ps, p.1 ≠ x) → putPs (put ρ x s) ps = put (putPs ρ ps) x s
  | [], _, _ => rfl
  | p :: ps, ρ, h => by
    show putPs (put (put ρ x s) p.1 (.val p.2)) ps = put (putPs (put ρ p.1 (.val p.2)) ps) x s
    rw [put_comm (Ne.symm (h p (.head _))), putPs_put ps _ fun q hq => h q (.tail _ hq)]
theorem putPs_append (ρ : Rho) (ps qs : List (Str × Vx)) : putPs ρ (ps ++ qs) = putPs (putPs ρ ps) qs := by unfold putPs; rw [List.foldl_append]
theorem putPs_reverse : ∀ (ps : List (Str × Vx)) (ρ : Rho), (ps.map (·.1)).Nodup → putPs ρ ps.reverse = putPs ρ ps
  | [], _, _ => rfl
  | p :: ps, ρ, h => by
    rw [List.map_cons, List.nodup_cons] at h
    rw [List.reverse_cons, putPs_append, putPs_reverse ps ρ h.2]
    show put (putPs ρ ps) p.1 (.val p.2) = putPs (put ρ p.1 (.val p.2)) ps
    rw [putPs_put]
    intro q hq e
    exact h.1 (e ▸ List.mem_map_of_mem hq)
theorem putAll_ps : ∀ (xs : List Str) (vs : List Vx) (ρ : Rho), putAll ρ xs vs = putPs ρ (xs.zip vs)
  | [], _, _ => by unfold putAll; rfl
  | x :: xs, [], _ => by unfold putAll; rfl
  | x :: xs, v :: vs, ρ => by
    unfold putAll
    rw [putAll_ps xs vs]; rfl
theorem canPut_put {ρ : Rho} {x y : Str} {s : Slot} (h : canPut ρ y) (hs : s ≠ .glob) : canPut (put ρ x s) y := by
  unfold canPut at h ⊢
  by_cases e : y = x
  · subst e
    rw [got_put_self (canPut_isSome (by unfold canPut; exact h))]
    cases s <;> first | trivial | exact absurd rfl hs
  · rw [got_put_ne e]; exact h
noncomputable def FlRel (mg : Str → Option Value) (hF : Heap) : Flow → Fl → Prop
  | .next, .next => True
  | .brk, .brk => True
  | .cont, .cont => True
  | .ret v, .ret d => Rd mg hF v d
  | _, _ => False
noncomputable abbrev Cfg.PostS (c : Cfg) (X : List Addr) (hF : Heap) (s : Shared) (Q : Fl → Rho → Prop) (Q' : Flow → Shared → Prop) : Prop :=
  ∀ f fl m' ρ' hF' h' tk, c.G m' X hF s.heap hF' h' ρ' → FlRel c.mg hF' f fl → Q fl ρ' → Q' f { s with heap := h', toks := tk }
noncomputable def SndS (c : Cfg) (R : WpB) (st : Stmt) : Prop := ∀ (ρ : Rho) (Q : Fl → Rho → Prop), wpS c.C R st ρ Q → ∀ m X hF s, c.Sm m X hF s.heap ρ → KeysOk c.scope.names ρ → ∀ Q', c.PostS X hF s Q Q' → c.W (exec st c.env) Q' s
noncomputable def SndR (c : Cfg) (R : WpB) : Prop := ∀ (b : List Stmt) (ρ : Rho) (Q : Fl → Rho → Prop), R b ρ Q → ∀ m X hF s, c.Sm m X hF s.heap ρ → KeysOk c.scope.names ρ → ∀ Q', c.PostS X hF s Q Q' → c.W (execs b c.env) Q' s
section
variable {c : Cfg} {n : Nat}
theorem storeVal (O : c.Ok n) {x : Str} {ρ : Rho} {m : Str → Option Value} {X : List Addr} {hF : Heap} {s : Shared} {u : Value} {v : Vx} {Q' : Unit → Shared → Prop} (S : c.Sm m X hF s.heap ρ) (K : KeysOk c.scope.names ρ) (hp : canPut ρ x) (r : Rd c.mg hF u v)
    (hQ : ∀ m' h' tk, Heap.SameBut c.L s.heap h' → c.G m' X hF s.heap hF h' (put ρ x (.val v)) → Q' () { s with heap := h', toks := tk }) : c.W (storeName c.env x u) Q' s := by
  refine wpAny_storeName_local (K.local hp) S.ns (fun h' hn hs => hQ _ h' _ hs ⟨S.setVal r hn hs, K.putC hp (by intro q; cases q), fun _ _ e => e, fun _ _ e => .inl e, fun b hb o e => (hs.2 b fun q => S.xL (by rw [← show b = c.L from q]; exact hb)).trans e⟩) ?_
  show (c.scope.kind == .class || (c.scope.kind == .module && _)) = false
  rw [O.hk]; rfl
theorem storeNew (O : c.Ok n) {x : Str} {ρ : Rho} {m : Str → Option Value} {X : List Addr} {hF : Heap} {s : Shared} {a : Addr} {vs : List Value} {xs : List PyData} {as : List Addr} {Q' : Unit → Shared → Prop} (S : c.Sm m (a :: X) hF s.heap ρ) (K : KeysOk c.scope.names ρ) (hp : canPut ρ x)
    (hl : s.heap.PlainList a vs.toArray) (haL : c.L < a) (hpx : x ≠ c.C.px) (hx : a ∉ X) (r : ReadsAll hF vs xs as)
    (hQ : ∀ m' h' tk, Heap.SameBut c.L s.heap h' → c.G m' X hF s.heap hF h' (put ρ x (.own xs)) → Q' () { s with heap := h', toks := tk }) : c.W (storeName c.env x (.ref a)) Q' s := by
  refine wpAny_storeName_local (K.local hp) S.ns (fun h' hn hs => hQ _ h' _ hs ⟨S.setNew hl haL hpx hx r hn hs, K.putC hp (by intro q; cases q), fun _ _ e => e, fun _ _ e => .inl e, fun b hb o e => (hs.2 b fun q => S.xL (by rw [← show b = c.L from q]; exact .tail _ hb)).trans e⟩) ?_
  show (c.scope.kind == .class || (c.scope.kind == .module && _)) = false
  rw [O.hk]; rfl
/-- a value, or a new list under guard -/
structure Fresh (c : Cfg) (m : Str → Option Value) (X : List Addr) (hF h hF' h' : Heap) (ρ' : Rho) (a : Addr) (vs : List Value) (xs : List PyData) (as : List Addr) : Prop where
  sim : c.Sm m (a :: X) hF' h' ρ'
  keys : KeysOk c.scope.names ρ'
  grow : hF.StaysIn hF'
  off : ∀ b o, hF'.get? b = some o → hF.get? b = some o ∨ c.L < b ∨ b = c.p
  guarded : ∀ b ∈ X, ∀ o, h.get? b = some o → h'.get? b = some o
  haL : c.L < a
  hx : a ∉ X
  hl : h'.PlainList a vs.toArray
  r : ReadsAll hF' vs xs as
noncomputable def FreshOk (c : Cfg) (m : Str → Option Value) (X : List Addr) (hF h hF' h' : Heap) (ρ' : Rho) (u : Value) : Slot → Prop
  | .own xs => ∃ a vs as, u = .ref a ∧ Fresh c m X hF h hF' h' ρ' a vs xs as
  | .val v => c.G m X hF h hF' h' ρ' ∧ Rd c.mg hF' u v
  | _ => False
theorem freshList {ρ : Rho} {m : Str → Option Value} {X : List Addr} {hF0 h0 hF : Heap} {s : Shared} {vs : List Value} {xs : List PyData} {as : List Addr} (g : c.G m X hF0 h0 hF s.heap ρ) (r : ReadsAll hF vs xs as) :
    Fresh c m X hF0 h0 hF (s.heap.push { cls := .type "list", data := .seq vs.toArray }) ρ s.heap.objs.size vs xs as :=
  ⟨g.sim.guard (stays_push _ _) (Nat.le_refl _) (Heap.get?_push_size _ rfl), g.keys, g.grow, g.off, fun b hb o e => stays_push _ _ _ _ (g.guarded b hb o e), g.sim.lt, fun hm => by
    obtain ⟨o, e⟩ := g.sim.alive _ hm
    exact absurd (Heap.lt_size e) (Nat.lt_irrefl _), ⟨_, Heap.get?_push_size _ rfl⟩, r⟩
theorem sndF (O : c.Ok n) {e : Expr} {ρ : Rho} {Kf : Slot → Rho → Prop} (h : wpF c.C e ρ Kf) {m : Str → Option Value} {X : List Addr} {hF : Heap} {s : Shared} (S : c.Sm m X hF s.heap ρ) (K : KeysOk c.scope.names ρ) {Q' : Value → Shared → Prop}
    (hQ : ∀ u sl ρ' hF' h' tk, FreshOk c m X hF s.heap hF' h' ρ' u sl → Kf sl ρ' → Q' u { s with heap := h', toks := tk }) : c.W (eval e c.env) Q' s := by
  conv at h => whnf
  split at h
  · rename_i es pos
    refine List_ ((sndAll O es).es _ _ h pos m X hF s S K _ ?_)
    intro vs ds ρ1 hF1 h1 tk1 g1 r1 hk
    obtain ⟨xs, hx, hl, hk⟩ := hk
    obtain ⟨as, ra⟩ := r1.reads hx
    refine wpAny_newObj_type (hQ _ (.own xs) _ hF1 _ _ ⟨_, vs, as, rfl, freshList (s := { s with heap := h1, toks := tk1 }) g1 ra⟩ hk) ?_
    show vs.toArray.size ≤ sizeLine
    rw [List.size_toArray, readsAll_length ra, sizeLine_eq]; lia
  · rename_i l op r pos
    refine wpAny_BinOp (sndE O l _ _ h m X hF s S K _ ?_)
    intro va a ρ1 hF1 h1 tk1 g1 ra hk
    refine sndE O r _ _ hk m X hF1 _ g1.sim g1.keys _ ?_
    intro vb b ρ2 hF2 h2 tk2 g2 rb hk
    have g := g1.trans g2
    refine snd_binV (c := c) g2.sim g2.keys (ra.mono g2.grow) rb hk ?_ ?_
    · intro k t tk hk
      exact hQ _ (.val (.dat (.int k))) _ _ _ _ ⟨g, rdI _ _⟩ hk
    · intro xs vs as tk hk rl
      exact hQ _ (.own xs) _ hF2 _ _ ⟨_, vs, as, rfl, freshList (s := { s with heap := h2, toks := tk2 }) g rl⟩ hk
  · exact sndE O _ _ _ h m X hF s S K _ fun v d ρ' hF' h' tk g r hk => hQ v (.val d) ρ' hF' h' tk ⟨g, r⟩ hk
theorem swaps_of {e : Expr} {t : Option Expr} {l : Nat} {env : Env} {ρ : Rho} {C : Ctx} {Q : Vx → Rho → Prop} (h : wpE C e ρ Q) : swapsWith e t l env = pure false := by
  cases e <;> first | rfl | exact (show False from h).elim
theorem swaps_ofF {e : Expr} {t : Option Expr} {l : Nat} {env : Env} {ρ : Rho} {C : Ctx} {Q : Slot → Rho → Prop} (h : wpF C e ρ Q) : swapsWith e t l env = pure false := by
  cases e <;> first | rfl | exact swaps_of (C := C) (ρ := ρ) (Q := fun v ρ1 => Q (.val v) ρ1) h
theorem storeFresh (O : c.Ok n) {x : Str} {ρ : Rho} {m : Str → Option Value} {X : List Addr} {hF0 h0 hF : Heap} {s : Shared} {u : Value} {sl : Slot} {Q' : Unit → Shared → Prop} (f : FreshOk c m X hF0 h0 hF s.heap ρ u sl) (hp : canPut ρ x) (hpx : x ≠ c.C.px)
    (hQ : ∀ m' h' tk, c.G m' X hF0 h0 hF h' (put ρ x sl) → Q' () { s with heap := h', toks := tk }) : c.W (storeName c.env x u) Q' s := by
  cases sl with
  | own xs =>
    obtain ⟨a, vs, as, rfl, f⟩ := f
    exact storeNew O f.sim f.keys hp f.hl f.haL hpx f.hx f.r fun m' h' tk _ g => hQ m' h' tk ⟨g.sim, g.keys, f.grow, f.off, fun b hb o e => g.guarded b hb o (f.guarded b hb o e)⟩
  | val v =>
    obtain ⟨g0, r⟩ := f
    exact storeVal O g0.sim g0.keys hp r fun m' h' tk _ g => hQ m' h' tk ⟨g.sim, g.keys, g0.grow, g0.off, fun b hb o e => g.guarded b hb o (g0.guarded b hb o e)⟩
  | _ => exact f.elim
theorem snd_AssignName (O : c.Ok n) {R : WpB} {x : Str} {px pos : Pos} {e : Expr} : SndS c R (.Assign [.Name x px] e pos) := by
  intro ρ Q h m X hF s S K Q' hQ
  replace h : wpF c.C e ρ (fun s ρ1 => canPut ρ1 x ∧ x ≠ c.C.px ∧ Q .next (put ρ1 x s)) := h
  refine wpAny_Assign_Name (sndF O h S K ?_) (swaps_ofF h)
  intro u sl ρ1 hF1 h1 tk1 f hk
  exact storeFresh O f hk.1 hk.2.1 fun m' h' tk g => hQ .next .next m' _ _ h' tk g trivial hk.2.2
theorem snd_AssignSub (O : c.Ok n) {R : WpB} {x : Str} {px ps pos : Pos} {i e : Expr} : SndS c R (.Assign [.Subscript (.Name x px) i ps] e pos) := by
  intro ρ Q h m X hF s S K Q' hQ
  conv at h => whnf
  refine wpAny_Assign_Subscript (sndE O e _ _ h m X hF s S K _ ?_) (swaps_of h)
  intro v d ρ1 hF1 h1 tk1 g1 r1 hk
  obtain ⟨⟨ys, e1⟩, hk⟩ := hk
  obtain ⟨a, _, _, ha, _⟩ := g1.sim.slots _ _ e1
  refine loadLocal (s := { s with heap := h1, toks := tk1 }) O g1.sim g1.keys e1 (by intro q; cases q) ha ?_
  refine sndE O i _ _ hk m X hF1 _ g1.sim g1.keys _ ?_
  intro vk k ρ2 hF2 h2 tk2 g2 rk hk2
  clear hk
  obtain ⟨xs, d', j, e2, hd, hj, h0, hlt, hfit, hk⟩ := hk2
  subst hd hj
  obtain ⟨t, rfl⟩ := rd_int rk
  obtain ⟨a', us, as, ha', ⟨nn, hp⟩, hn, hL, hX, ra⟩ := g2.sim.slots _ _ e2
  rw [ha] at ha'; cases ha'
  obtain ⟨bs, rv⟩ := r1
  obtain ⟨cs, rs⟩ := readsAll_set (Reads.keeps g2.grow rv) j.toNat ra
  have hlen := readsAll_length ra
  have hup : ∀ b o, b ≠ a → h2.get? b = some o → (h2.update a (Obj.mapSeq (·.setIfInBounds j.toNat v))).get? b = some o := fun b o hb e => (Heap.get?_update_ne _ _ _ _ hb).trans e
  refine ki_setAt (s := { s with heap := h2, toks := tk2 }) hp h0 (by lia) (by rw [List.size_toArray, hlen]; lia) ?_
  have hpl : (h2.update a (Obj.mapSeq (·.setIfInBounds j.toNat v))).PlainList a (us.set j.toNat v).toArray := by
    refine ⟨nn, ?_⟩
    rw [Heap.get?_update_self _ hp (by rfl)]
    simp [Obj.mapSeq]
  have S3 := g2.sim.setOwn e2 ha hup hpl (fun _ _ e => e) (fun b o e => hup b o (fun q => by rw [q, hn] at e; cases e) (g2.sim.keep b o e)) (fun _ _ e => .inl e) rs
  exact hQ .next .next m _ hF2 _ tk2 ((g1.trans g2).trans ⟨S3, g2.keys.put e2 (by intro q; cases q) (by intro q; cases q), fun _ _ e => e, fun _ _ e => .inl e, fun b hb o e => hup b o (fun q => hX (q ▸ hb)) e⟩) trivial hk
theorem snd_AugAssign (O : c.Ok n) {R : WpB} {x : Str} {px pos : Pos} {op : Operator} {e : Expr} : SndS c R (.AugAssign (.Name x px) op e pos) := by
  intro ρ Q h m X hF s S K Q' hQ
  conv at h => whnf
  obtain ⟨a, e0, h⟩ := h
  obtain ⟨u, hu, r0⟩ := S.slots _ _ e0
  obtain ⟨t, rfl⟩ := rd_int r0
  have cp : canPut ρ x := by unfold canPut; rw [e0]; trivial
  have q := K.local cp
  refine wpAny_AugAssign_Name (wpAny_loadName_local O.hk q S.ns hu (sndE O e _ _ h m X hF s S K _ ?_))
  intro v d ρ1 hF1 h1 tk1 g1 r1 hk
  unfold asInt at hk
  split at hk
  · obtain ⟨u, rfl⟩ := rd_int r1
    refine snd_iopI hk.2 hk.1 ?_
    intro k t2 tk2 hq
    have cp1 : canPut ρ1 x := hq.1
    exact storeVal (s := { s with heap := h1, toks := tk2 }) O g1.sim g1.keys cp1 (rdI _ _) fun m' h' tk _ g => hQ .next .next m' _ _ h' tk ⟨g.sim, g.keys, fun b o e => g.grow b o (g1.grow b o e), fun b o e => (g.off b o e).elim (fun e => g1.off b o e) .inr, fun b hb o e => g.guarded b hb o (g1.guarded b hb o e)⟩ trivial hq.2
  · exact hk.elim
theorem snd_Append (O : c.Ok n) {R : WpB} {x nm : Str} {xp apos pc pos : Pos} {a : Expr} : SndS c R (.Expr (.Call (.Attribute (.Name x xp) nm apos) [a] [] pc) pos) := by
  intro ρ Q h m X hF s S K Q' hQ
  conv at h => whnf
  obtain ⟨⟨pl, he⟩, rfl, ⟨ys, e0⟩, h⟩ := h
  obtain ⟨l, us0, _, hl, ⟨nn, hp0⟩, _⟩ := S.slots _ _ e0
  refine wpAny_Expr_any (MethodCall_ (pl := pl c.env) (loadLocal O S K e0 (by intro q; cases q) hl ?_) (he c.env)) ?_ rfl
  · refine getMethod_list_append hp0 rfl rfl ?_
    have hst : starEach [a] c.env = [(false, eval a c.env)] := star_of h
    rw [hst]
    refine Calls.callWith_builtin (args := [(false, eval a c.env)]) rfl (evalArgs_plain (Calls.spliced_cons (sndE O a _ _ h m X hF s S K _ ?_)))
    intro v d ρ1 hF1 h1 tk1 g1 r1 hk
    refine Calls.spliced_nil ?_
    clear h
    obtain ⟨xs, d', e1, rfl, hsz, hk⟩ := hk
    obtain ⟨l', us, as, hl', hp, hn, hL, hX, ra⟩ := g1.sim.slots _ _ e1
    rw [hl] at hl'; cases hl'
    obtain ⟨bs, rv⟩ := r1
    obtain ⟨cs, rs⟩ := readsAll_append (.cons rv .nil) ra
    have hlen := readsAll_length ra
    refine wpAny_list_append_plain hp ?_ (by rw [List.size_toArray, hlen, sizeLine_eq]; lia)
    intro h' hp' hs'
    have e : us.toArray.push v = (us ++ [v]).toArray := by simp
    rw [e] at hp'
    have S3 := g1.sim.setOwn e1 hl (fun b o hb e => hs'.extBut b o hb e) hp' (fun _ _ e => e) (fun b o e => hs'.extBut b o (fun q => by rw [q, hn] at e; cases e) (g1.sim.keep b o e)) (fun _ _ e => .inl e) rs
    exact hQ .next .next m _ hF1 _ tk1 (g1.trans ⟨S3, g1.keys.put e1 (by intro q; cases q) (by intro q; cases q), fun _ _ e => e, fun _ _ e => .inl e, fun b hb o e => hs'.extBut b o (fun q => hX (q ▸ hb)) e⟩) trivial hk
  · show (c.scope.kind == .module && _) = false
    rw [O.hk]; rfl
theorem snd_ExprAny (O : c.Ok n) {R : WpB} {e : Expr} {pos : Pos} : SndS c R (.Expr e pos) := by
  intro ρ Q h m X hF s S K Q' hQ
  have h0 := h
  conv at h => whnf
  split at h
  · exact snd_Append O _ _ h0 m X hF s S K _ hQ
  · refine wpAny_Expr_any (sndE O e _ _ h m X hF s S K _ ?_) ?_ (swaps_of h)
    · intro v d ρ1 hF1 h1 tk1 g1 r1 hk
      exact hQ .next .next m _ _ _ _ g1 trivial hk
    · show (c.scope.kind == .module && _) = false
      rw [O.hk]; rfl
theorem snd_Return (O : c.Ok n) {R : WpB} {v : Option Expr} {pos : Pos} : SndS c R (.Return v pos) := by
  intro ρ Q h m X hF s S K Q' hQ
  conv at h => whnf
  cases v with
  | none => exact h.elim
  | some e =>
    refine wpAny_Return_some (sndE O e _ _ h m X hF s S K _ ?_)
    intro v d ρ1 hF1 h1 tk1 g1 r1 hk
    exact hQ (.ret v) (.ret d) m _ _ _ _ g1 r1 hk
theorem snd_Break {R : WpB} {pos : Pos} : SndS c R (.Break pos) := by
  intro ρ Q h m X hF s S K Q' hQ
  conv at h => whnf
  exact wpAny_Break (hQ .brk .brk m _ _ _ s.toks (Go.refl S K) trivial h)
/-! ## tuples unpacked -/
inductive Pend (c : Cfg) (hF : Heap) : List Value → List (Str × Vx) → Prop
  | nil : Pend c hF [] []
  | cons {u x v us ps} : Rd c.mg hF u v → Pend c hF us ps → Pend c hF (u :: us) ((x, v) :: ps)
theorem Pend.append {hF : Heap} {us vs : List Value} {ps qs : List (Str × Vx)} (a : Pend c hF us ps) (b : Pend c hF vs qs) : Pend c hF (us ++ vs) (ps ++ qs) := by
  induction a with
  | nil => exact b
  | cons r _ ih => exact .cons r ih
theorem Pend.reverse {hF : Heap} {us : List Value} {ps : List (Str × Vx)} (a : Pend c hF us ps) : Pend c hF us.reverse ps.reverse := by
  induction a with
  | nil => exact .nil
  | cons r _ ih => rw [List.reverse_cons, List.reverse_cons]; exact ih.append (.cons r .nil)
theorem Pend.of_rds {hF : Heap} {us : List Value} {vs : List Vx} (r : Rds c.mg hF us vs) : ∀ {xs : List Str}, xs.length = vs.length → Pend c hF us (xs.zip vs) := by
  induction r with
  | nil => intro xs _; cases xs <;> exact .nil
  | cons a _ ih =>
    intro xs hl
    cases xs with
    | nil => cases hl
    | cons x xs => exact .cons a (ih (by simpa using hl))
/-- stores of known values, one after another, and what follows them -/
theorem storeMany (O : c.Ok n) {X : List Addr} {hF : Heap} {ts2 : List (Value → Sem Unit)} {us2 : List Value} : ∀ (ts : List (Value → Sem Unit)) (us : List Value) (ps : List (Str × Vx)) (ρ : Rho) (m : Str → Option Value) (s : Shared) (Q' : Unit → Shared → Prop),
    ts.length = us.length → (∀ (i : Nat) t p, ts[i]? = some t → ps[i]? = some p → ∀ (u : Value) (Q : Unit → Shared → Prop) (s : Shared), c.W (storeName c.env p.1 u) Q s → c.W (t u) Q s) → Pend c hF us ps →
    c.Sm m X hF s.heap ρ → KeysOk c.scope.names ρ → (∀ p ∈ ps, canPut ρ p.1) →
    (∀ m' h' tk, c.G m' X hF s.heap hF h' (putPs ρ ps) → c.W (assignInOrder ts2 us2) Q' { s with heap := h', toks := tk }) → c.W (assignInOrder (ts ++ ts2) (us ++ us2)) Q' s
  | [], us, ps, ρ, m, s, Q', hl, _, hp, S, K, _, hQ => by
    cases us with
    | cons u us => cases hl
    | nil =>
      cases hp
      exact hQ m _ s.toks (Go.refl S K)
  | t :: ts, us, ps, ρ, m, s, Q', hl, ht, hp, S, K, hc, hQ => by
    cases hp with
    | nil => cases hl
    | @cons u x v us ps r hp =>
      show c.W (do holding (us ++ us2) (t u); assignInOrder (ts ++ ts2) (us ++ us2)) Q' s
      refine wpAny_bind (wpAny_holding (ht 0 t (x, v) rfl rfl u _ s (storeVal O S K (hc _ (.head _)) r ?_)))
      intro m' h' tk _ g
      refine storeMany O ts us ps _ m' _ Q' (by simpa using hl) (fun i t' p h1 h2 => ht (i + 1) t' p (by simpa using h1) (by simpa using h2)) hp g.sim g.keys (fun p hp => canPut_put (hc p (.tail _ hp)) (by intro q; cases q)) ?_
      intro m'' h'' tk' g'
      exact hQ m'' h'' tk' ⟨g'.sim, g'.keys, g'.grow, g'.off, fun b hb o e => g'.guarded b hb o (g.guarded b hb o e)⟩
end
theorem filterMap_names {ns : List Expr} {names : List Str} {f : Expr → Option Str} (hf : ∀ x p, f (.Name x p) = some x ∨ f (.Name x p) = none) : namesOf ns = some names → (ns.filterMap f).length = ns.length → ns.filterMap f = names := by
  induction ns generalizing names with
  | nil => intro h _; cases h; rfl
  | cons e r ih =>
    intro h hl
    cases e
    case Name x p =>
      unfold namesOf at h
      cases q : namesOf r with
      | none => rw [q] at h; cases h
      | some ys =>
        rw [q] at h; cases h
        rcases hf x p with e | e
        · rw [List.filterMap_cons, e] at hl ⊢
          simp only [List.length_cons, Nat.add_right_cancel_iff] at hl
          rw [ih q hl]
        · rw [List.filterMap_cons, e] at hl
          have := List.length_filterMap_le f r
          simp only [List.length_cons] at hl
          lia
    all_goals cases h
theorem swapped_cases {ns vs : List Expr} {k k2 : Nat} {p p2 : Pos} {names : List Str} {env : Env} (hn : namesOf ns = some names) (hc : vs.all (constantsAlone 8) = false) :
    swappedStores [.Tuple ns k p] (.Tuple vs k2 p2) env = pure none ∨ swappedStores [.Tuple ns k p] (.Tuple vs k2 p2) env = pure (some names) := by
  simp only [swappedStores]
  split
  · exact .inl rfl
  · split
    · exact .inl rfl
    · split
      · exact .inl rfl
      · split
        · exact .inl rfl
        · rename_i h1 h2 h3 h4
          rw [hc]
          right
          simp only [Bool.false_eq_true, if_false]
          refine congrArg (fun l => (pure (some l) : Sem (Option (List Str)))) (filterMap_names (fun x p => ?_) hn (bne_eq_false_iff_eq.mp (Bool.or_eq_false_iff.mp (Bool.not_eq_true _ ▸ h3)).1))
          dsimp only
          split
          · exact .inl rfl
          · exact .inr rfl
theorem star_ofF {e : Expr} {rest : List Expr} {ρ : Rho} {C : Ctx} {Q : Slot → Rho → Prop} {env : Env} (h : wpF C e ρ Q) : starEach (e :: rest) env = (false, eval e env) :: starEach rest env := by
  conv at h => whnf
  split at h
  · rfl
  · rfl
  · exact star_of h
theorem assign_names {ns : List Expr} {ys : List Str} {env : Env} : namesOf ns = some ys → (assignEach ns env).length = ys.length ∧ (assignEach ns env).findIdx? (·.1) = none ∧ ∀ (i : Nat) t, ((assignEach ns env).map (·.2))[i]? = some t → ∃ y p, ys[i]? = some y ∧ t = assign (.Name y p) env := by
  induction ns generalizing ys with
  | nil => intro h; cases h; exact ⟨rfl, rfl, fun i t e => by simp [assignEach] at e⟩
  | cons e r ih =>
    intro h
    cases e
    case Name x p =>
      unfold namesOf at h
      cases q : namesOf r with
      | none => rw [q] at h; cases h
      | some zs =>
        rw [q] at h; cases h
        obtain ⟨h1, h2, h3⟩ := ih q
        have e1 : assignEach (.Name x p :: r) env = (false, assign (.Name x p) env) :: assignEach r env := rfl
        rw [e1]
        refine ⟨by simp [h1], by simp [List.findIdx?_cons, h2], ?_⟩
        intro i t e
        cases i with
        | zero => simp at e; exact ⟨x, p, rfl, e.symm⟩
        | succ i => simp only [List.map_cons, List.getElem?_cons_succ] at e ⊢; exact h3 i t e
    all_goals cases h
section
variable {c : Cfg} {n : Nat}
theorem rds_of_reads {hF : Heap} : ∀ {vs : List Value} {xs : List PyData} {as : List Addr}, ReadsAll hF vs xs as → Rds c.mg hF vs (xs.map .dat)
  | _, _, _, .nil => .nil
  | _, _, _, .cons a b => .cons ⟨_, a⟩ (rds_of_reads b)
theorem zip_get {ys : List Str} {vs : List Vx} {i : Nat} {p : Str × Vx} (h : (ys.zip vs)[i]? = some p) : ys[i]? = some p.1 := by
  rw [List.getElem?_zip_eq_some] at h; exact h.1
theorem extBut_stays {h h' : Heap} (k : Heap.ExtBut h.objs.size h h') : h.StaysIn h' := fun b o e => k b o (Nat.ne_of_lt (Heap.lt_size e)) e
theorem snd_AssignTupV (O : c.Ok n) {R : WpB} {ns : List Expr} {k : Nat} {tp pos : Pos} {e : Expr} {ρ : Rho} {Q : Fl → Rho → Prop} (hnt : noTup e = true)
    (h : wpE c.C e ρ fun v ρ1 => ∃ ds ys, v = .dat (.tuple ds) ∧ namesOf ns = some ys ∧ ys.length = ds.length ∧ ys.Nodup ∧ (∀ x ∈ ys, canPut ρ1 x) ∧ Q .next (putAll ρ1 ys (ds.map .dat)))
    {m : Str → Option Value} {X : List Addr} {hF : Heap} {s : Shared} (S : c.Sm m X hF s.heap ρ) (K : KeysOk c.scope.names ρ) {Q' : Flow → Shared → Prop} (hQ : c.PostS X hF s Q Q') : c.W (exec (.Assign [.Tuple ns k tp] e pos) c.env) Q' s := by
  refine Assign_Tuple (sndE O e _ _ h m X hF s S K _ ?_) (show swapsWith e (some (.Tuple ns k tp)) pos.line c.env = pure false from swaps_of h) ?_
  · intro v d ρ1 hF1 h1 tk1 g1 r1 hk
    clear h
    obtain ⟨ds, ys, rfl, hn, hl, hnd, hc, hk⟩ := hk
    obtain ⟨t, vs, as, rfl, ht, ra⟩ := rd_tuple r1
    have ht1 : IsTup h1 t vs.toArray := ht.keeps g1.sim.keep
    obtain ⟨a1, a2, a3⟩ := assign_names (env := c.env) hn
    have hlen := readsAll_length ra
    refine wpAny_assign_Tuple (s := { s with heap := h1, toks := tk1 }) O.hh ht1 (by rw [a1, List.size_toArray, hlen, hl]) a2 ?_
    intro h2 hx
    have g2 := Go.same (p := c.p) (names := c.scope.names) g1.sim g1.keys (extBut_stays hx)
    have hst := storeMany (c := c) (ts2 := []) (us2 := []) O (X := X) (hF := hF1) ((assignEach ns c.env).map (·.2)) vs.toArray.toList (ys.zip (ds.map .dat)) ρ1 m { s with heap := h2, toks := tk1 } (fun _ => Q' .next)
      (by simp [a1, hl, hlen]) ?_ ?_ g2.sim g2.keys ?_ ?_
    · simpa using hst
    · intro i t p h3 h4 u Q s hs
      obtain ⟨y, pp, hy, rfl⟩ := a3 i t h3
      have := zip_get h4
      rw [hy] at this; cases this
      exact wpAny_assign_Name hs
    · simpa using Pend.of_rds (c := c) (rds_of_reads ra) (xs := ys) (by simp [hl])
    · intro p hp; exact hc _ (List.of_mem_zip hp).1
    · intro m' h' tk g
      have e := putAll_ps ys (ds.map .dat) ρ1
      rw [← e] at g
      exact wpAny_pure (hQ .next .next m' _ _ _ _ ⟨g.sim, g.keys, g1.grow, g1.off, fun b hb o e => g.guarded b hb o (g2.guarded b hb o (g1.guarded b hb o e))⟩ trivial hk)
  · cases e <;> first | rfl | cases hnt
theorem Fresh.after {m m' : Str → Option Value} {X : List Addr} {hF h hF1 h1 hF2 h2 : Heap} {ρ1 ρ2 : Rho} {a : Addr} {vs : List Value} {xs : List PyData} {as : List Addr} (f : Fresh c m X hF h hF1 h1 ρ1 a vs xs as) (g : c.G m' (a :: X) hF1 h1 hF2 h2 ρ2) : Fresh c m' X hF h hF2 h2 ρ2 a vs xs as :=
  ⟨g.sim, g.keys, fun b o e => g.grow b o (f.grow b o e), fun b o e => (g.off b o e).elim (fun e => f.off b o e) .inr, fun b hb o e => g.guarded b (.tail _ hb) o (f.guarded b hb o e), f.haL, f.hx, f.hl.at fun o e => g.guarded a (.head _) o e, ReadsAll.keeps g.grow f.r⟩
noncomputable def Xg (u : Value) (sl : Slot) (X : List Addr) : List Addr := match sl, u with
  | .own _, .ref a => a :: X
  | _, _ => X
theorem FreshOk.after {m m' : Str → Option Value} {X : List Addr} {hF h hF1 h1 hF2 h2 : Heap} {ρ1 ρ2 : Rho} {u : Value} {sl : Slot} (f : FreshOk c m X hF h hF1 h1 ρ1 u sl) (g : c.G m' (Xg u sl X) hF1 h1 hF2 h2 ρ2) : FreshOk c m' X hF h hF2 h2 ρ2 u sl := by
  cases sl with
  | own xs =>
    obtain ⟨a, vs, as, rfl, f⟩ := f
    exact ⟨a, vs, as, rfl, f.after g⟩
  | val v =>
    obtain ⟨g0, r⟩ := f
    exact ⟨⟨g.sim, g.keys, fun b o e => g.grow b o (g0.grow b o e), fun b o e => (g.off b o e).elim (fun e => g0.off b o e) .inr, fun b hb o e => g.guarded b hb o (g0.guarded b hb o e)⟩, r.mono g.grow⟩
  | _ => exact f.elim
theorem FreshOk.sim {m : Str → Option Value} {X : List Addr} {hF h hF1 h1 : Heap} {ρ1 : Rho} {u : Value} {sl : Slot} (f : FreshOk c m X hF h hF1 h1 ρ1 u sl) : c.Sm m (Xg u sl X) hF1 h1 ρ1 ∧ KeysOk c.scope.names ρ1 := by
  cases sl with
  | own xs =>
    obtain ⟨a, vs, as, rfl, f⟩ := f
    exact ⟨f.sim, f.keys⟩
  | val v => exact ⟨f.1.sim, f.1.keys⟩
  | _ => exact f.elim
theorem snd_AssignTupT (O : c.Ok n) {R : WpB} {ns es : List Expr} {e0 : Expr} {k k2 : Nat} {tp p2 pos : Pos} {ρ : Rho} {Q : Fl → Rho → Prop}
    (h : wpF c.C e0 ρ fun s0 ρ1 => wpEs c.C es ρ1 fun vs ρ2 => ∃ y ys, namesOf ns = some (y :: ys) ∧ ys.length = vs.length ∧ vs.length ≤ 1000 ∧ (y :: ys).Nodup ∧ y ≠ c.C.px ∧ (∀ x ∈ y :: ys, canPut ρ2 x) ∧
          (dats vs).isSome = true ∧ Q .next (putAll (put ρ2 y s0) ys vs)) (hc0 : (e0 :: es).all (constantsAlone 8) = false) (names : List Str) (hns : namesOf ns = some names)
    {m : Str → Option Value} {X : List Addr} {hF : Heap} {s : Shared} (S : c.Sm m X hF s.heap ρ) (K : KeysOk c.scope.names ρ) {Q' : Flow → Shared → Prop} (hQ : c.PostS X hF s Q Q') : c.W (exec (.Assign [.Tuple ns k tp] (.Tuple (e0 :: es) k2 p2) pos) c.env) Q' s := by
  -- the value, to the new tuple
  have value : ∀ Q1 : Value → Shared → Prop, (∀ u0 s0 us vs ρ2 hF0 h0 ρ0 hF2 h2 m t tk, FreshOk c m X hF s.heap hF2 h2 ρ2 u0 s0 → hF0 = hF → h0 = s.heap → ρ0 = ρ → Rds c.mg hF2 us vs → h2.IsTuple t (u0 :: us).toArray →
      (∃ y ys, namesOf ns = some (y :: ys) ∧ ys.length = vs.length ∧ vs.length ≤ 1000 ∧ (y :: ys).Nodup ∧ y ≠ c.C.px ∧ (∀ x ∈ y :: ys, canPut ρ2 x) ∧ (dats vs).isSome = true ∧ Q .next (putAll (put ρ2 y s0) ys vs)) →
      Q1 (.ref t) { s with heap := h2, toks := tk }) → c.W (eval (.Tuple (e0 :: es) k2 p2) c.env) Q1 s := by
    intro Q1 h1
    refine Tuple_ (spliced_more (sndF O h S K ?_) (star_ofF h))
    intro u0 s0 ρ1 hF1 hh1 tk1 f1 hk
    refine (sndAll O es).es _ _ hk p2 m (Xg u0 s0 X) hF1 _ f1.sim.1 f1.sim.2 _ ?_
    intro us vs ρ2 hF2 hh2 tk2 g2 r2 hk
    have f2 := f1.after g2
    have hlen := r2.length
    have hl0 : us.length ≤ 1000 := by obtain ⟨y, ys, _, _, q, _⟩ := hk; lia
    have g3 := Go.same (p := c.p) (names := c.scope.names) f2.sim.1 f2.sim.2 (stays_push hh2 { cls := .type "tuple", data := .seq (u0 :: us).toArray })
    refine wpAny_newObj_type (h1 u0 s0 us vs ρ2 hF s.heap ρ hF2 _ m _ tk2 (f2.after g3) rfl rfl rfl r2 ⟨_, Heap.get?_push_size _ rfl, rfl, _, rfl⟩ hk) ?_
    show (u0 :: us).toArray.size ≤ sizeLine
    rw [List.size_toArray, sizeLine_eq, List.length_cons]; lia
  rcases swapped_cases (k := k) (k2 := k2) (p := tp) (p2 := p2) (env := c.env) hns hc0 with hw | hw
  · refine Assign_Tuple (value _ ?_) rfl hw
    intro u0 s0 us vs ρ2 hF0 h0 ρ0 hF2 h2 m t tk f _ _ _ r ht hk
    obtain ⟨y, ys, hn, hl, _, hnd, hpx, hc, _, hk⟩ := hk
    obtain ⟨a1, a2, a3⟩ := assign_names (env := c.env) hn
    have hlen := r.length
    refine wpAny_assign_Tuple (s := { s with heap := h2, toks := tk }) O.hh ht (by rw [a1, List.size_toArray]; simp; lia) a2 ?_
    intro h3 hx
    have f3 := f.after (Go.same (p := c.p) (names := c.scope.names) f.sim.1 f.sim.2 (extBut_stays hx))
    cases hts : (assignEach ns c.env).map (·.2) with
    | nil => have := congrArg List.length hts; simp [a1] at this
    | cons t0 ts =>
      rw [hts] at a3
      have hl2 := congrArg List.length hts
      simp [a1] at hl2
      show c.W (do holding us (t0 u0); assignInOrder ts us) _ _
      obtain ⟨y', p', hy', rfl⟩ := a3 0 t0 rfl
      cases hy'
      refine wpAny_bind (wpAny_holding (wpAny_assign_Name (storeFresh (s := { s with heap := h3, toks := tk }) O f3 (hc _ (.head _)) hpx ?_)))
      intro m' h4 tk4 g4
      have hst := storeMany (c := c) (ts2 := []) (us2 := []) O (X := X) (hF := hF2) ts us (ys.zip vs) _ m' { s with heap := h4, toks := tk4 } (fun _ => Q' .next) (by lia) ?_ (Pend.of_rds r hl) g4.sim g4.keys ?_ ?_
      · simpa using hst
      · intro i t p h5 h6 u Q s hs
        obtain ⟨y2, pp, hy, rfl⟩ := a3 (i + 1) t (by simpa using h5)
        have := zip_get h6
        simp at hy
        rw [hy] at this; cases this
        exact wpAny_assign_Name hs
      · intro p hp
        refine canPut_put (hc _ (.tail _ (List.of_mem_zip hp).1)) ?_
        intro q; subst q; exact f3.elim
      · intro m'' h5 tk5 g5
        rw [← putAll_ps ys vs] at g5
        exact wpAny_pure (hQ .next .next m'' _ _ _ _ ⟨g5.sim, g5.keys, g4.grow, g4.off, fun b hb o e => g5.guarded b hb o (g4.guarded b hb o e)⟩ trivial hk)
  · refine Assign_Tuple_swapped (value _ ?_) rfl hw
    intro u0 s0 us vs ρ2 hF0 h0 ρ0 hF2 h2 m t tk f _ _ _ r ht hk
    obtain ⟨y, ys, hn, hl, _, hnd, hpx, hc, _, hk⟩ := hk
    rw [hn] at hns; cases hns
    have hlen := r.length
    have hsz : (y :: ys).length = (u0 :: us).toArray.size := by simp; lia
    rw [hsz]
    refine wpAny_unpackItems_tuple (s := { s with heap := h2, toks := tk }) O.hh ht ?_
    intro h3 hx
    have f3 := f.after (Go.same (p := c.p) (names := c.scope.names) f.sim.1 f.sim.2 (extBut_stays hx))
    have e1 : (y :: ys).reverse.map (fun n => bindName c.env n) = ys.reverse.map (fun n => bindName c.env n) ++ [bindName c.env y] := by simp
    have e2 : (u0 :: us).toArray.toList.reverse = us.reverse ++ [u0] := by simp
    rw [e1, e2]
    have hnd' := List.nodup_cons.mp hnd
    have hz : ((ys.zip vs).map (·.1)) = ys := by rw [List.map_fst_zip]; lia
    refine storeMany (c := c) O (X := Xg u0 s0 X) (hF := hF2) (ys.reverse.map fun n => bindName c.env n) us.reverse (ys.zip vs).reverse _ m { s with heap := h3, toks := tk } (fun _ => Q' .next) (by simp; lia) ?_ (Pend.of_rds r hl).reverse f3.sim.1 f3.sim.2 ?_ ?_
    · intro i t p h5 h6 u Q s hs
      have hi : i < (ys.zip vs).length := by have := (List.getElem?_eq_some_iff.mp h6).1; simpa using this
      have hzl : (ys.zip vs).length = ys.length := by simp; lia
      rw [List.getElem?_reverse hi] at h6
      have h7 := zip_get h6
      rw [List.getElem?_map, List.getElem?_reverse (by lia), ← hzl, h7] at h5
      cases h5
      exact wpAny_bindName hs
    · intro p hp
      exact hc _ (.tail _ (List.of_mem_zip (List.mem_reverse.mp hp)).1)
    · intro m' h4 tk4 g4
      rw [putPs_reverse _ _ (by rw [hz]; exact hnd'.2)] at g4
      have f4 := f3.after g4
      show c.W (do holding [] (bindName c.env y u0); assignInOrder [] []) _ _
      have cy : canPut (putPs ρ2 (ys.zip vs)) y := by
        have all : ∀ (ps : List (Str × Vx)) (ρ : Rho), canPut ρ y → canPut (putPs ρ ps) y := by
          intro ps
          induction ps with
          | nil => intro ρ h; exact h
          | cons p ps ih => intro ρ h; exact ih _ (canPut_put h (by intro q; cases q))
        exact all _ _ (hc _ (.head _))
      refine wpAny_bind (wpAny_holding (wpAny_bindName (storeFresh (s := { s with heap := h4, toks := tk4 }) O f4 cy hpx ?_)))
      intro m'' h5 tk5 g5
      rw [← putPs_put (ys.zip vs) ρ2 (fun p hp e => hnd'.1 (by rw [← e]; exact (List.of_mem_zip hp).1)), ← putAll_ps ys vs] at g5
      exact wpAny_pure (hQ .next .next m'' _ _ _ _ g5 trivial hk)
end
noncomputable def SndB (c : Cfg) (R : WpB) (b : List Stmt) : Prop := ∀ (ρ : Rho) (Q : Fl → Rho → Prop), wpSs c.C R b ρ Q → ∀ m X hF s, c.Sm m X hF s.heap ρ → KeysOk c.scope.names ρ → ∀ Q', c.PostS X hF s Q Q' → c.W (execs b c.env) Q' s
theorem Sim.turnOut {mg : Str → Option Value} {B : Heap} {p : Addr} {px : Str} {m : Str → Option Value} {X Y : List Addr} {L : Addr} {hF h h' : Heap} {ρ : Rho} (S : Sim mg B p px m (Y ++ X) L hF h ρ) (k1 : ∀ b o, b ∉ Y → h.get? b = some o → h'.get? b = some o) (hXY : ∀ b ∈ X, b ∉ Y) :
    Sim mg B p px m X L hF h' ρ := by
  obtain ⟨oL, es, ep, hL, r⟩ := S.ns
  have app : ∀ {b}, b ∈ Y → b ∈ Y ++ X := fun hb => List.mem_append.mpr (.inl hb)
  have app2 : ∀ {b}, b ∈ X → b ∈ Y ++ X := fun hb => List.mem_append.mpr (.inr hb)
  refine ⟨⟨oL, es, ep, k1 _ _ (fun q => S.xL (app q)) hL, r⟩, S.base, fun b o e => k1 b o (fun q => by rw [S.offX b (app q)] at e; cases e) (S.keep b o e), S.offL, fun b hb => S.offX b (app2 hb), fun hm => S.xL (app2 hm), fun b hb => let ⟨o, e⟩ := S.alive b (app2 hb); ⟨o, k1 _ _ (hXY b hb) e⟩, ?_, S.apart, S.own⟩
  intro y s q
  have p := S.slots y s q
  cases s with
  | val v => exact p
  | own ys =>
    obtain ⟨b, ws, bs, p1, p2, p3, p4, p5, p6⟩ := p
    exact ⟨b, ws, bs, p1, p2.at fun o e => k1 _ _ (fun r => p5 (app r)) e, p3, p4, fun r => p5 (app2 r), p6⟩
  | _ => trivial
structure Go2 (c : Cfg) (m : Str → Option Value) (X' X : List Addr) (hF h hF' h' : Heap) (ρ' : Rho) : Prop where
  sim : c.Sm m X' hF' h' ρ'
  keys : KeysOk c.scope.names ρ'
  grow : hF.StaysIn hF'
  off : ∀ b o, hF'.get? b = some o → hF.get? b = some o ∨ c.L < b ∨ b = c.p
  guarded : ∀ b ∈ X, ∀ o, h.get? b = some o → h'.get? b = some o
section
variable {c : Cfg} {n : Nat}
theorem Go2.then {m m' : Str → Option Value} {X' X : List Addr} {hF h hF1 h1 hF2 h2 : Heap} {ρ1 ρ2 : Rho} (a : Go2 c m X' X hF h hF1 h1 ρ1) (hX : ∀ b ∈ X, b ∈ X') (g : c.G m' X' hF1 h1 hF2 h2 ρ2) : Go2 c m' X' X hF h hF2 h2 ρ2 :=
  ⟨g.sim, g.keys, fun b o e => g.grow b o (a.grow b o e), fun b o e => (g.off b o e).elim (fun e => a.off b o e) .inr, fun b hb o e => g.guarded b (hX b hb) o (a.guarded b hb o e)⟩
theorem snd_If (O : c.Ok n) {R : WpB} {t : Expr} {b o : List Stmt} {pos : Pos} (hb : SndB c R b) (ho : SndB c R o) : SndS c R (.If t b o pos) := by
  intro ρ Q h m X hF s S K Q' hQ
  conv at h => whnf
  refine wpAny_If (sndT O t _ _ h m X hF s _ S K _ ?_)
  intro q ρ1 hF1 h1 tk1 g1 hk
  cases q with
  | true => exact hb _ _ (hk.1 rfl) m X hF1 _ g1.sim g1.keys _ fun f fl m' ρ' hF' h' tk g r k => hQ f fl m' ρ' hF' h' tk (g1.trans g) r k
  | false => exact ho _ _ (hk.2 rfl) m X hF1 _ g1.sim g1.keys _ fun f fl m' ρ' hF' h' tk g r k => hQ f fl m' ρ' hF' h' tk (g1.trans g) r k
theorem snd_B_nil {R : WpB} : SndB c R [] := by
  intro ρ Q h m X hF s S K Q' hQ
  conv at h => whnf
  exact wpAny_execs_nil (hQ .next .next m _ _ _ s.toks (Go.refl S K) trivial h)
theorem snd_B_cons {R : WpB} {st : Stmt} {rest : List Stmt} (h1 : SndS c R st) (h2 : SndB c R rest) : SndB c R (st :: rest) := by
  intro ρ Q h m X hF s S K Q' hQ
  conv at h => whnf
  refine wpAny_execs_cons (h1 _ _ h m X hF s S K _ ?_)
  intro f fl m' ρ' hF' h' tk g r hk
  cases f <;> cases fl <;> first | exact r.elim | skip
  · exact h2 _ _ hk m' X hF' _ g.sim g.keys _ fun f fl m'' ρ'' hF'' h'' tk' g' r k => hQ f fl m'' ρ'' hF'' h'' tk' (g.trans g') r k
  all_goals exact hQ _ _ m' ρ' hF' h' tk g r hk
theorem snd_While (O : c.Ok n) {R : WpB} {t : Expr} {b o : List Stmt} {pos : Pos} (hR : SndR c R) : SndS c R (.While t b o pos) := by
  intro ρ Q h m X hF s S K Q' hQ
  conv at h => whnf
  obtain ⟨rfl, N, h⟩ := h
  refine wpAny_While (codeAny_whileLoop (fun k s' => ∃ ρ' m' hF' h' tk, s' = { s with heap := h', toks := tk } ∧ c.G m' X hF s.heap hF' h' ρ' ∧ wpWh c.C R t b k ρ' Q) ?_ N ⟨ρ, m, hF, s.heap, s.toks, rfl, Go.refl S K, h⟩)
  rintro k s' ⟨ρ', m', hF', h', tk, rfl, g, hk⟩
  cases k with
  | zero => exact hk.elim
  | succ k =>
    have main : ∀ whole, c.W (isTrue t c.env whole) (fun q s2 => if q = true then c.W (execs b c.env) (fun f s₃ => match f with
            | .next | .cont => ∃ m, m < k + 1 ∧ ∃ ρ' m' hF' h' tk, s₃ = { s with heap := h', toks := tk } ∧ c.G m' X hF s.heap hF' h' ρ' ∧ wpWh c.C R t b m ρ' Q
            | .brk => Q' .next s₃
            | .ret v => Q' (.ret v) s₃) s2 else c.W (execs [] c.env) (fun f s₃ => Q' f s₃) s2) { s with heap := h', toks := tk } := by
      intro whole
      refine sndT O t _ _ hk m' X hF' _ _ g.sim g.keys _ ?_
      rintro q ρ1 hF1 h1 tk1 g1 hk
      cases q with
      | true =>
        refine hR b _ _ (hk.2 rfl) m' X hF1 _ g1.sim g1.keys _ ?_
        intro f fl m2 ρ2 hF2 h2 tk2 g2 r hk
        have gg := (g.trans g1).trans g2
        cases f <;> cases fl <;> first | exact r.elim | skip
        · exact ⟨k, Nat.lt_succ_self _, ρ2, m2, hF2, h2, tk2, rfl, gg, hk⟩
        · exact hQ .next .next m2 _ _ _ _ gg trivial hk
        · exact ⟨k, Nat.lt_succ_self _, ρ2, m2, hF2, h2, tk2, rfl, gg, hk⟩
        · exact hQ (.ret _) (.ret _) m2 _ _ _ _ gg r hk
      | false => exact wpAny_execs_nil (Q := fun f s₃ => Q' f s₃) (hQ .next .next m' _ _ _ _ (g.trans g1) trivial (hk.1 rfl))
    refine wpAny_mono (main _) (fun q s2 h2 => ?_) (fun _ _ e => e.elim)
    cases q with
    | true =>
      simp only [if_true] at h2 ⊢
      exact wpAny_mono h2 (fun f s3 h3 => by cases f <;> exact h3) (fun _ _ e => e.elim)
    | false =>
      simp only [Bool.false_eq_true, if_false] at h2 ⊢
      exact wpAny_mono h2 (fun _ _ e => e) (fun _ _ e => e.elim)
theorem forWalk (O : c.Ok n) {R : WpB} (hR : SndR c R) {x : Str} {px : Pos} {b : List Stmt} {I : Addr} {fp : List Addr} {N : Nat} {P : Nat → Value → Prop} {St : Nat → Heap → Prop} (W : Walks c.prog c.w c.A I fp [I] N P St) {hF : Heap}
    (hfp : ∀ q ∈ fp, q = I ∨ ∃ o, hF.get? q = some o) (hal : ∀ i h, St i h → ∃ o, h.get? I = some o) {ds : List PyData} (hN : ds.length = N)
    (hP : ∀ i v d, P i v → ds[i]? = some d → ∀ hF', hF.StaysIn hF' → Rd c.mg hF' v (.dat d)) {m : Str → Option Value} {X : List Addr} {ρ : Rho} {Q : Fl → Rho → Prop} {s : Shared} (hI : I ∉ X) (S : c.Sm m (I :: X) hF s.heap ρ) (K : KeysOk c.scope.names ρ) (hst : St 0 s.heap)
    (h : wpFor R b (.Name x px) ds ρ Q) {Rr : Result → Shared → Prop}
    (hQ : ∀ f fl m' ρ' hF' h' tk, c.G m' X hF s.heap hF' h' ρ' → FlRel c.mg hF' f fl → Q fl ρ' → Rr (.ok f) { s with heap := h', toks := tk }) : codeAny (model c.prog c.w) c.A (.forLoop (.Name x px) (.ref I) b [] c.env) Rr s := by
  have hX : ∀ q ∈ X, q ∈ I :: X := fun _ hq => .tail _ hq
  refine codeAny_forLoop (fun k s' => ∃ i m' ρ' hF' h' tk, s' = { s with heap := h', toks := tk } ∧ i ≤ N ∧ k = N - i ∧ Go2 c m' (I :: X) X hF s.heap hF' h' ρ' ∧ St i h' ∧ wpFor R b (.Name x px) (ds.drop i) ρ' Q) ?_ N
    ⟨0, m, ρ, hF, s.heap, s.toks, rfl, Nat.zero_le _, rfl, ⟨S, K, fun _ _ e => e, fun _ _ e => .inl e, fun _ _ _ e => e⟩, hst, h⟩
  rintro k s' ⟨i, m', ρ', hF', h', tk, rfl, hi, rfl, g, hst', hk⟩
  by_cases hlt : i < N
  · refine W.item i _ _ _ hlt hst' fun v h1 tk1 hPv hst1 hk1 => ?_
    have hk1' : ∀ q o, q ≠ I → h'.get? q = some o → h1.get? q = some o := fun q o hq e => hk1 q o (by simpa using hq) e
    have S1 : c.Sm m' (I :: X) hF' h1 ρ' := g.sim.turn (fun q o hq e => hk1' q o (fun e => hq (e ▸ .head _)) e) fun q hq => by
      rcases List.mem_cons.mp hq with rfl | hq
      · exact hal _ _ hst1
      · obtain ⟨o, e⟩ := g.sim.alive q (.tail _ hq)
        exact ⟨o, hk1' q o (fun e => hI (e ▸ hq)) e⟩
    have hd : ds[i]? = some ds[i] := List.getElem?_eq_getElem (by omega)
    have e1 : ds.drop i = ds[i] :: ds.drop (i + 1) := List.drop_eq_getElem_cons (by omega)
    rw [e1] at hk
    obtain ⟨cp, hk⟩ := hk
    refine wpAny_assign_Name (wpAny_mono (storeVal (s := { s with heap := h1, toks := tk1 }) (Q' := fun _ s2 => c.W (execs b c.env) (fun f s₃ => match f with
          | .next | .cont => ∃ m, m < N - i ∧ ∃ i m' ρ' hF' h' tk, s₃ = { s with heap := h', toks := tk } ∧ i ≤ N ∧ m = N - i ∧ Go2 c m' (I :: X) X hF s.heap hF' h' ρ' ∧ St i h' ∧ wpFor R b (.Name x px) (ds.drop i) ρ' Q
          | .brk => Rr (.ok .next) s₃
          | .ret v => Rr (.ok (.ret v)) s₃) s2) O S1 g.keys cp (hP i v _ hPv hd hF' g.grow) ?_) (fun _ s2 h2 => wpAny_mono h2 (fun f s3 h3 => by cases f <;> exact h3) (fun _ _ e => e.elim)) (fun _ _ e => e.elim))
    intro m2 h2 tk2 hs2 g2
    have fpk : ∀ q ∈ fp, ∀ o, h1.get? q = some o → h2.get? q = some o := fun q hq o e => (hs2.2 q (by
      rcases hfp q hq with rfl | ⟨o', e'⟩
      · exact fun e => S1.xL (e ▸ .head _)
      · intro e; rw [e] at e'; have := S1.offL; rw [g.grow _ _ e'] at this; cases this)).trans e
    have hst2 : St (i + 1) h2 := W.frame _ _ _ hst1 fpk
    have gg : Go2 c m2 (I :: X) X hF s.heap hF' h2 (put ρ' x (.val (.dat ds[i]))) :=
      ⟨g2.sim, g2.keys, g.grow, g.off, fun q hq o e => g2.guarded q (.tail _ hq) o (hk1' q o (fun e => hI (e ▸ hq)) (g.guarded q hq o e))⟩
    refine hR b _ _ hk m2 (I :: X) hF' _ g2.sim g2.keys _ ?_
    intro f fl m3 ρ3 hF3 h3 tk3 g3 r hk
    have g3' := gg.then hX g3
    have out : c.G m3 X hF s.heap hF3 h3 ρ3 := ⟨g3'.sim.unguard, g3'.keys, g3'.grow, g3'.off, g3'.guarded⟩
    have hst3 : St (i + 1) h3 := W.frame _ _ _ hst2 fun q hq o e => by
      rcases hfp q hq with rfl | ⟨o', e'⟩
      · exact g3.guarded _ (.head _) o e
      · have e1 := g3'.sim.keep _ _ (g3'.grow _ _ e')
        have e2 := gg.sim.keep _ _ (gg.grow _ _ e')
        rw [e] at e2; cases e2; exact e1
    cases f <;> cases fl <;> first | exact r.elim | skip
    · exact ⟨N - (i + 1), by omega, i + 1, m3, ρ3, hF3, h3, tk3, rfl, hlt, rfl, g3', hst3, hk⟩
    · exact hQ .next .next m3 _ _ _ _ out trivial hk
    · exact ⟨N - (i + 1), by omega, i + 1, m3, ρ3, hF3, h3, tk3, rfl, hlt, rfl, g3', hst3, hk⟩
    · exact hQ (.ret _) (.ret _) m3 _ _ _ _ out r hk
  · have hin : i = N := by omega
    subst hin
    rw [List.drop_eq_nil_of_le (by omega)] at hk
    refine W.done _ _ _ hst' fun h1 tk1 hk1 => wpAny_execs_nil ?_
    have S1 : c.Sm m' X hF' h1 ρ' := Sim.turnOut (Y := [I]) g.sim hk1 fun q hq hm => hI (List.mem_singleton.mp hm ▸ hq)
    exact hQ .next .next m' _ _ _ _ ⟨S1, g.keys, g.grow, g.off, fun q hq o e => hk1 q o (fun hm => hI (List.mem_singleton.mp hm ▸ hq)) (g.guarded q hq o e)⟩ trivial hk
end
theorem rangeSize_up (a b : Int) : Builtin.Range.rangeSize a b 1 = ((b - a).toNat : Int) := by
  rw [PySem.rangeSize_one]; split <;> lia
theorem rangeSize_down (a b : Int) : Builtin.Range.rangeSize a b (-1) = ((a - b).toNat : Int) := by
  unfold Builtin.Range.rangeSize
  rw [if_neg (by decide)]
  split
  · rw [show (-(-1 : Int)) = 1 from rfl, Int.ediv_one]; lia
  · lia
theorem small_up {a b : Int} (ha : okI a) (hb : okI b) : Builtin.Range.small a b 1 = true := PySem.small_one (by have := ha.1; lia) (by have := ha.2; lia) (by have := hb.1; lia) (by have := hb.2; lia)
theorem small_down {a b : Int} (ha : okI a) (hb : okI b) : Builtin.Range.small a b (-1) = true := by
  obtain ⟨a1, a2⟩ := ha
  obtain ⟨b1, b2⟩ := hb
  unfold Builtin.Range.small
  rw [rangeSize_down]
  simp only [Builtin.Range.rangeFitsLong, Bool.and_eq_true, Bool.or_eq_true, decide_eq_true_eq, beq_iff_eq, show ¬ ((-1 : Int) > 0) by decide, if_false]
  refine ⟨⟨⟨⟨⟨?_, ?_⟩, ?_, ?_⟩, ?_⟩, ?_, ?_⟩, ?_⟩ <;> lia
section
variable {c : Cfg} {n : Nat}
/-- a loop over the ints of a range: from the range's object on -/
theorem forRange (O : c.Ok n) {R : WpB} (hR : SndR c R) {x : Str} {px : Pos} {b : List Stmt} {r : Addr} {a e st : Int} {t u v : Tok} {N : Nat} {m : Str → Option Value} {X : List Addr} {hF : Heap} {ρ : Rho} {Q : Fl → Rho → Prop} {s : Shared}
    (S : c.Sm m X hF s.heap ρ) (K : KeysOk c.scope.names ρ) (hr : IsRange s.heap r a e st t u v) (hsm : Builtin.Range.small a e st = true) (hN : Builtin.Range.rangeSize a e st = (N : Int))
    (h : wpFor R b (.Name x px) (rangeL a N st) ρ Q) {Q' : Flow → Shared → Prop} (hQ : c.PostS X hF s Q Q') {E : Value → Shared → Prop} :
    wpAny (model c.prog c.w) c.A (pyIter (.ref r)) (fun it s₂ => codeAny (model c.prog c.w) c.A (.forLoop (.Name x px) it b [] c.env) (fun r s' => match r with | .ok f => Q' f s' | .error e => E e s') s₂) (fun _ _ => False) s := by
  refine wpAny_pyIter_range hr hsm ?_
  have W := Walks.range (prog := c.prog) (w := c.w) (A := c.A) O.hh s.heap.objs.size a st N
  have g0 := S.guard (stays_push s.heap { cls := .type "range_iterator", data := .fields #[rawInt a, rawInt (Builtin.Range.rangeSize a e st), rawInt st] }) (Nat.le_refl _) (Heap.get?_push_size _ rfl)
  refine forWalk (s := { s with heap := s.heap.push { cls := .type "range_iterator", data := .fields #[rawInt a, rawInt (Builtin.Range.rangeSize a e st), rawInt st] } }) O hR W (hF := hF) (ds := rangeL a N st) (fun q hq => .inl (List.mem_singleton.mp hq)) (fun i h hs => ⟨_, hs⟩) (by simp [rangeL]) ?_ ?_ g0 K ?_ h ?_
  · rintro i v d ⟨t, rfl⟩ hd hF' _
    unfold rangeL at hd
    rw [List.getElem?_map] at hd
    cases hi : (List.range N)[i]? with
    | none => rw [hi] at hd; cases hd
    | some j =>
      rw [hi] at hd; cases hd
      have : j = i := by
        obtain ⟨h1, h2⟩ := List.getElem?_eq_some_iff.mp hi
        simpa using h2.symm
      subst this
      exact rdI _ _
  · intro hm
    obtain ⟨o, e⟩ := S.alive _ hm
    exact absurd (Heap.lt_size e) (Nat.lt_irrefl _)
  · show IsRangeIter _ _ _ _ _
    rw [hN]
    simpa using Heap.get?_push_size s.heap (o := { cls := .type "range_iterator", data := .fields #[rawInt a, rawInt (N : Int), rawInt st] }) rfl
  · intro f fl m' ρ' hF' h' tk g rr hk
    exact hQ f fl m' ρ' hF' h' tk ⟨g.sim, g.keys, g.grow, g.off, fun q hq o e => g.guarded q hq o (stays_push _ _ _ _ e)⟩ rr hk
/-- a loop over a list -/
theorem forList (O : c.Ok n) {R : WpB} (hR : SndR c R) {x : Str} {px : Pos} {b : List Stmt} {v : Value} {xs : List PyData} {m : Str → Option Value} {X : List Addr} {hF : Heap} {ρ : Rho} {Q : Fl → Rho → Prop} {s : Shared}
    (S : c.Sm m X hF s.heap ρ) (K : KeysOk c.scope.names ρ) (rv : Rd c.mg hF v (.dat (.list xs))) (h : wpFor R b (.Name x px) xs ρ Q) {Q' : Flow → Shared → Prop} (hQ : c.PostS X hF s Q Q') {E : Value → Shared → Prop} :
    wpAny (model c.prog c.w) c.A (pyIter v) (fun it s₂ => codeAny (model c.prog c.w) c.A (.forLoop (.Name x px) it b [] c.env) (fun r s' => match r with | .ok f => Q' f s' | .error e => E e s') s₂) (fun _ _ => False) s := by
  obtain ⟨l, vs, as, rfl, hl, ra⟩ := rd_list rv
  have hls := stays_list S.keep hl
  have hlen := readsAll_length ra
  obtain ⟨ol, hol, rest⟩ := id hl
  refine wpAny_pyIter_list hls ?_
  have hlt : l < s.heap.objs.size := Heap.lt_size (S.keep _ _ hol)
  have W := Walks.list (prog := c.prog) (w := c.w) (A := c.A) O.hh s.heap.objs.size l (Nat.ne_of_lt hlt) vs.toArray
  have g0 := S.guard (stays_push s.heap { cls := .type "list_iterator", data := .fields #[.ref l, .int 0 0] }) (Nat.le_refl _) (Heap.get?_push_size _ rfl)
  refine forWalk (s := { s with heap := s.heap.push { cls := .type "list_iterator", data := .fields #[.ref l, .int 0 0] } }) O hR W (hF := hF) (ds := xs) (fun q hq => ?_) (fun i h hs => let ⟨o, e, _⟩ := hs.1; ⟨o, e⟩) (by simp [hlen]) ?_ ?_ g0 K ?_ h ?_
  · rcases List.mem_cons.mp hq with rfl | hq
    · exact .inl rfl
    · rw [List.mem_singleton.mp hq]; exact .inr ⟨ol, hol⟩
  · intro i v d hv hd hF' k
    obtain ⟨v', bs, h1, h2⟩ := readsAll_get ra hd
    have : vs[i]? = some v := by simpa using hv
    rw [this] at h1; cases h1
    exact ⟨bs, Reads.keeps k h2⟩
  · intro hm
    obtain ⟨o, e⟩ := S.alive _ hm
    exact absurd (Heap.lt_size e) (Nat.lt_irrefl _)
  · exact ⟨⟨_, Heap.get?_push_size _ rfl, rfl, rfl⟩, hls.push _⟩
  · intro f fl m' ρ' hF' h' tk g rr hk
    exact hQ f fl m' ρ' hF' h' tk ⟨g.sim, g.keys, g.grow, g.off, fun q hq o e => g.guarded q hq o (stays_push _ _ _ _ e)⟩ rr hk
theorem enumD_drop : ∀ (xs : List PyData) (k i : Nat), (enumD k xs).drop i = enumD (k + i) (xs.drop i)
  | [], k, i => by simp [enumD]
  | x :: xs, k, 0 => by simp
  | x :: xs, k, i + 1 => by
    show (enumD (k + 1) xs).drop i = _
    rw [enumD_drop xs (k + 1) i]
    simp only [List.drop_succ_cons]
    congr 1; lia
/-- a loop over enumerate(list) -/
theorem forEnum (O : c.Ok n) {R : WpB} (hR : SndR c R) {xi xv : Str} {pi pv pt : Pos} {k0 : Nat} {b : List Stmt} {l : Addr} {vs : List Value} {as : List Addr} {xs : List PyData} {e it : Addr} {m : Str → Option Value} {X : List Addr} {hF : Heap} {ρ : Rho} {Q : Fl → Rho → Prop} {s : Shared}
    (S : c.Sm m ([e, it] ++ X) hF s.heap ρ) (K : KeysOk c.scope.names ρ) (hl : hF.IsList l vs.toArray) (ra : ReadsAll hF vs xs as) (heX : e ∉ X) (hiX : it ∉ X) (hei : e ≠ it) (he : IsEnum s.heap e it 0 .none) (hit : s.heap.IsListIter it l 0)
    (h : wpFor R b (.Tuple [.Name xi pi, .Name xv pv] k0 pt) (enumD 0 xs) ρ Q) {Rr : Result → Shared → Prop}
    (hQ : ∀ f fl m' ρ' hF' h' tk, c.G m' X hF s.heap hF' h' ρ' → FlRel c.mg hF' f fl → Q fl ρ' → Rr (.ok f) { s with heap := h', toks := tk }) :
    codeAny (model c.prog c.w) c.A (.forLoop (.Tuple [.Name xi pi, .Name xv pv] k0 pt) (.ref e) b [] c.env) Rr s := by
  have hlen := readsAll_length ra
  have hX : ∀ q ∈ X, q ∈ [e, it] ++ X := fun _ hq => List.mem_append.mpr (.inr hq)
  have he' : e ∈ [e, it] ++ X := .head _
  have hi' : it ∈ [e, it] ++ X := .tail _ (.head _)
  obtain ⟨ol, hol, _⟩ := id hl
  have hle : ∀ {hF' : Heap}, hF.StaysIn hF' → hF'.get? e = none → l ≠ e := fun k q r => by rw [← r, k _ _ hol] at q; cases q
  refine codeAny_forLoop_any (fun k s' => ∃ (i : Nat) (old : Value) (m' : Str → Option Value) (ρ' : Rho) (hF' h' : Heap) (tk : Nat), s' = { s with heap := h', toks := tk } ∧ i ≤ xs.length ∧ k = xs.length - i ∧ Go2 c m' ([e, it] ++ X) X hF s.heap hF' h' ρ' ∧
    IsEnum h' e it (i : Int) old ∧ h'.IsListIter it l i ∧ wpFor R b (.Tuple [.Name xi pi, .Name xv pv] k0 pt) (enumD i (xs.drop i)) ρ' Q) ?_ xs.length
    ⟨0, .none, m, ρ, hF, s.heap, s.toks, rfl, Nat.zero_le _, rfl, ⟨S, K, fun _ _ e => e, fun _ _ e => .inl e, fun _ _ _ e => e⟩, he, hit, by simpa using h⟩
  rintro k s' ⟨i, old, m', ρ', hF', h', tk, rfl, hi, rfl, g, heN, hitN, hk⟩
  have hls : h'.IsList l vs.toArray := stays_list g.sim.keep (stays_list g.grow hl)
  by_cases hlt : i < xs.length
  · have hd : xs[i]? = some xs[i] := List.getElem?_eq_getElem hlt
    obtain ⟨v, bs, hv, rv⟩ := readsAll_get ra hd
    have e1 : xs.drop i = xs[i] :: xs.drop (i + 1) := List.drop_eq_getElem_cons hlt
    rw [e1] at hk
    obtain ⟨d1, d2, hd12, hne, c1, c2, hk⟩ := hk
    cases hd12
    refine wpAny_pyNext_enum_item (s := { s with heap := h', toks := tk }) heN hitN hls (x := v) (by simpa using hv) hei ?_
    intro h1 heo hit1 ht1 hz1 hk1
    have ht1 : h1.get? h'.objs.size = some { cls := .type "tuple", data := .seq #[.int i tk, v] } := ht1
    have S1 : c.Sm m' ([e, it] ++ X) hF' h1 ρ' := g.sim.turn (fun q o hq x => hk1 q o (fun r => hq (r ▸ he')) (fun r => hq (r ▸ hi')) x) fun q hq => by
      by_cases q1 : q = e
      · subst q1; exact ⟨_, heo⟩
      · by_cases q2 : q = it
        · subst q2; obtain ⟨o, x, _⟩ := hit1; exact ⟨o, x⟩
        · obtain ⟨o, x⟩ := g.sim.alive q hq; exact ⟨o, hk1 q o q1 q2 x⟩
    refine wpAny_letOwnedTupleGo_enum (s := { s with heap := h1, toks := tk + 1 }) heo ?_
    intro h2 he2 hs2
    have hs2 : Heap.SameBut e h1 h2 := hs2
    have S2 : c.Sm m' ([e, it] ++ X) hF' h2 ρ' := S1.turn (fun q o hq x => (hs2.2 q (fun r => hq (r ▸ he'))).trans x) fun q hq => by
      by_cases q1 : q = e
      · subst q1; exact ⟨_, he2⟩
      · obtain ⟨o, x⟩ := S1.alive q hq; exact ⟨o, (hs2.2 q q1).trans x⟩
    have hte : h'.objs.size ≠ e := fun r => by have := Heap.lt_size heN; rw [← r] at this; exact absurd this (Nat.lt_irrefl _)
    have hit2 : h2.IsListIter it l (i + 1) := hit1.extBut hs2.extBut (Ne.symm hei)
    refine wpAny_assign_Tuple (s := { s with heap := h2, toks := tk + 1 }) O.hh (t := h'.objs.size) (items := #[.int i tk, v]) ⟨_, (hs2.2 _ hte).trans ht1, rfl, _, rfl⟩ rfl rfl ?_
    intro h3 hx3
    have k3 : h2.StaysIn h3 := extBut_stays hx3
    have g3 := Go.same (p := c.p) (names := c.scope.names) S2 g.keys k3
    have rv' : Rd c.mg hF' v (.dat xs[i]) := ⟨bs, Reads.keeps g.grow rv⟩
    show wpAny _ _ (do holding [v] (assign (.Name xi pi) c.env (.int i tk)); do holding [] (assign (.Name xv pv) c.env v); pure ()) _ _ _
    refine wpAny_bind (wpAny_holding (wpAny_assign_Name (wpAny_mono (storeVal (s := { s with heap := h3, toks := tk + 1 }) O g3.sim g3.keys c1 (rdI (i : Int) tk) (Q' := fun _ s4 => ∃ m4 h4 tk4, s4 = { s with heap := h4, toks := tk4 } ∧ Heap.SameBut c.L h3 h4 ∧ c.G m4 ([e, it] ++ X) hF' h3 hF' h4 (put ρ' xi (.val (.dat (.int i)))))
      (fun m4 h4 tk4 hs4 g4 => ⟨m4, h4, tk4, rfl, hs4, g4⟩)) ?_ (fun _ _ e => e.elim))))
    rintro _ _ ⟨m4, h4, tk4, rfl, hs4, g4⟩
    refine wpAny_bind (wpAny_holding (wpAny_assign_Name (wpAny_mono (storeVal (s := { s with heap := h4, toks := tk4 }) O g4.sim g4.keys (canPut_put c2 (by intro q; cases q)) rv' (Q' := fun _ s5 => ∃ m5 h5 tk5, s5 = { s with heap := h5, toks := tk5 } ∧ Heap.SameBut c.L h4 h5 ∧ c.G m5 ([e, it] ++ X) hF' h4 hF' h5 (put (put ρ' xi (.val (.dat (.int i)))) xv (.val (.dat xs[i]))))
      (fun m5 h5 tk5 hs5 g5 => ⟨m5, h5, tk5, rfl, hs5, g5⟩)) ?_ (fun _ _ e => e.elim))))
    rintro _ _ ⟨m5, h5, tk5, rfl, hs5, g5⟩
    refine wpAny_pure ?_
    have gg : Go2 c m5 ([e, it] ++ X) X hF s.heap hF' h5 (put (put ρ' xi (.val (.dat (.int i)))) xv (.val (.dat xs[i]))) :=
      ⟨g5.sim, g5.keys, g.grow, g.off, fun q hq o x => g5.guarded q (hX q hq) o (g4.guarded q (hX q hq) o (k3 _ _ ((hs2.2 q (fun r => heX (r ▸ hq))).trans (hk1 q o (fun r => heX (r ▸ hq)) (fun r => hiX (r ▸ hq)) (g.guarded q hq o x)))))⟩
    have he5 : IsEnum h5 e it ((i + 1 : Nat) : Int) v := by
      have : ((i + 1 : Nat) : Int) = (i : Int) + 1 := by push_cast; rfl
      rw [this]
      exact g5.guarded e he' _ (g4.guarded e he' _ (k3 _ _ he2))
    have hit5 : h5.IsListIter it l (i + 1) := by
      obtain ⟨o, x, y⟩ := hit2
      exact ⟨o, g5.guarded it hi' _ (g4.guarded it hi' _ (k3 _ _ x)), y⟩
    refine wpAny_mono (hR b _ _ hk m5 ([e, it] ++ X) hF' { s with heap := h5, toks := tk5 } g5.sim g5.keys (fun f s₃ => match f with
          | .next | .cont => ∃ m, m < xs.length - i ∧ ∃ (i : Nat) (old : Value) (m' : Str → Option Value) (ρ' : Rho) (hF' h' : Heap) (tk : Nat), s₃ = { s with heap := h', toks := tk } ∧ i ≤ xs.length ∧ m = xs.length - i ∧ Go2 c m' ([e, it] ++ X) X hF s.heap hF' h' ρ' ∧
              IsEnum h' e it (i : Int) old ∧ h'.IsListIter it l i ∧ wpFor R b (.Tuple [.Name xi pi, .Name xv pv] k0 pt) (enumD i (xs.drop i)) ρ' Q
          | .brk => Rr (.ok .next) s₃
          | .ret v => Rr (.ok (.ret v)) s₃) ?_) (fun f s3 h3 => by cases f <;> exact h3) (fun _ _ e => e.elim)
    intro f fl m6 ρ6 hF6 h6 tk6 g6 r hk
    have g6' := gg.then hX g6
    have out : c.G m6 X hF s.heap hF6 h6 ρ6 := ⟨g6'.sim.unguard.unguard, g6'.keys, g6'.grow, g6'.off, g6'.guarded⟩
    have he6 : IsEnum h6 e it ((i + 1 : Nat) : Int) v := g6.guarded e he' _ he5
    have hit6 : h6.IsListIter it l (i + 1) := by
      obtain ⟨o, x, y⟩ := hit5
      exact ⟨o, g6.guarded it hi' _ x, y⟩
    cases f <;> cases fl <;> first | exact r.elim | skip
    · exact ⟨xs.length - (i + 1), by lia, i + 1, v, m6, ρ6, hF6, h6, tk6, rfl, hlt, rfl, g6', he6, hit6, hk⟩
    · exact hQ .next .next m6 _ _ _ _ out trivial hk
    · exact ⟨xs.length - (i + 1), by lia, i + 1, v, m6, ρ6, hF6, h6, tk6, rfl, hlt, rfl, g6', he6, hit6, hk⟩
    · exact hQ (.ret _) (.ret _) m6 _ _ _ _ out r hk
  · have hin : i = xs.length := by lia
    subst hin
    rw [List.drop_eq_nil_of_le (Nat.le_refl _)] at hk
    refine wpAny_pyNext_enum_end (s := { s with heap := h', toks := tk }) O.hh heN hitN hls (by simp [hlen]) ?_
    intro h1 hx1
    have hx1 : Heap.ExtBut it h' h1 := hx1
    refine wpAny_execs_nil ?_
    have S1 : c.Sm m' X hF' h1 ρ' := Sim.turnOut (Y := [e, it]) g.sim (fun q o hq x => hx1 q o (fun r => hq (r ▸ .tail _ (.head _))) x) fun q hq hm => by
      rcases List.mem_cons.mp hm with rfl | hm
      · exact heX hq
      · exact hiX (List.mem_singleton.mp hm ▸ hq)
    exact hQ .next .next m' _ _ _ _ ⟨S1, g.keys, g.grow, g.off, fun q hq o x => hx1 q o (fun r => hiX (r ▸ hq)) (g.guarded q hq o x)⟩ trivial hk
end
theorem iterOf_range {ρ : Rho} {it : Expr} {args : List Expr} (h : iterOf ρ it = .range args) : ∃ pg pos, it = .Call (.Name (Str.ofString "range") pg) args [] pos ∧ got ρ (Str.ofString "range") = some .glob := by
  unfold iterOf at h
  split at h
  · rename_i g pg as pos
    split at h
    · rename_i e
      split at h
      · rename_i q; cases h; have := eq_of_beq q; subst this; exact ⟨pg, pos, rfl, e⟩
      · split at h
        · split at h <;> cases h
        · cases h
    · cases h
  · cases h
theorem iterOf_enum {ρ : Rho} {it e : Expr} (h : iterOf ρ it = .enum e) : ∃ pg pos, it = .Call (.Name (Str.ofString "enumerate") pg) [e] [] pos ∧ got ρ (Str.ofString "enumerate") = some .glob := by
  unfold iterOf at h
  split at h
  · rename_i g pg as pos
    split at h
    · rename_i eg
      split at h
      · cases h
      · split at h
        · rename_i q
          split at h
          · cases h; have := eq_of_beq q; subst this; exact ⟨pg, pos, rfl, eg⟩
          · cases h
        · cases h
    · cases h
  · cases h
section
variable {mg : Str → Option Value} {B : Heap} {p : Addr} {px : Str} {m : Str → Option Value} {X : List Addr} {L : Addr} {hF h h' : Heap} {ρ : Rho}
theorem Sim.guardAt {a : Addr} (S : Sim mg B p px m X L hF h ρ) (hn : hF.get? a = none) (aL : a ≠ L) (al : ∃ o, h.get? a = some o) (ow : ∀ y ys b, got ρ y = some (.own ys) → m y = some (.ref b) → b ≠ a) : Sim mg B p px m (a :: X) L hF h ρ := by
  refine ⟨S.ns, S.base, S.keep, S.offL, fun b hb => ?_, fun hm => ?_, fun b hb => ?_, ?_, S.apart, S.own⟩
  · rcases List.mem_cons.mp hb with rfl | hb
    · exact hn
    · exact S.offX b hb
  · rcases List.mem_cons.mp hm with q | hm
    · exact aL q.symm
    · exact S.xL hm
  · rcases List.mem_cons.mp hb with rfl | hb
    · exact al
    · exact S.alive b hb
  · intro y s q
    have p := S.slots y s q
    cases s with
    | val v => exact p
    | own ys =>
      obtain ⟨b, ws, bs, p1, p2, p3, p4, p5, p6⟩ := p
      refine ⟨b, ws, bs, p1, p2, p3, p4, fun r => ?_, p6⟩
      rcases List.mem_cons.mp r with r | r
      · exact ow y ys b q p1 r
      · exact p5 r
    | _ => trivial
/-- two new objects under guard -/
theorem Sim.guard2 {a1 a2 : Addr} (S : Sim mg B p px m X L hF h ρ) (k1 : h.StaysIn h') (h1 : h.objs.size ≤ a1) (h2 : h.objs.size ≤ a2) (o1 : ∃ o, h'.get? a1 = some o) (o2 : ∃ o, h'.get? a2 = some o) : Sim mg B p px m (a1 :: a2 :: X) L hF h' ρ := by
  have S0 : Sim mg B p px m X L hF h' ρ := S.grow k1 (fun _ _ e => e) (fun b o e => k1 _ _ (S.keep b o e)) fun b o e => .inl e
  have none_of : ∀ {a : Addr}, h.objs.size ≤ a → hF.get? a = none := fun {a} ha => by
    cases q : hF.get? a with
    | none => rfl
    | some o => exact absurd (Heap.lt_size (S.keep _ _ q)) (Nat.not_lt.mpr ha)
  have neL : ∀ {a : Addr}, h.objs.size ≤ a → a ≠ L := fun {a} ha q => absurd S.ns.lt (Nat.not_lt.mpr (q ▸ ha))
  have ow : ∀ {a : Addr}, h.objs.size ≤ a → ∀ y ys b, got ρ y = some (.own ys) → m y = some (.ref b) → b ≠ a := fun {a} ha y ys b q r e => by
    obtain ⟨b', _, _, p1, ⟨_, p2⟩, _⟩ := S.slots y _ q
    rw [r] at p1; cases p1
    exact absurd (Heap.lt_size p2) (Nat.not_lt.mpr (e ▸ ha))
  exact (S0.guardAt (none_of h2) (neL h2) o2 (ow h2)).guardAt (none_of h1) (neL h1) o1 (ow h1)
end
section
variable {c : Cfg} {n : Nat}
theorem Cfg.PostS.after {X : List Addr} {hF hF1 : Heap} {s : Shared} {h1 : Heap} {tk1 : Nat} {Q : Fl → Rho → Prop} {Q' : Flow → Shared → Prop} {m : Str → Option Value} {ρ1 : Rho} (hQ : c.PostS X hF s Q Q') (g1 : c.G m X hF s.heap hF1 h1 ρ1) : c.PostS X hF1 { s with heap := h1, toks := tk1 } Q Q' :=
  fun f fl m' ρ' hF' h' tk g r k => hQ f fl m' ρ' hF' h' tk (g1.trans g) r k
theorem snd_For (O : c.Ok n) {R : WpB} (hR : SndR c R) {tgt it : Expr} {b o : List Stmt} {pos : Pos} : SndS c R (.For tgt it b o pos) := by
  intro ρ Q h m X hF s S K Q' hQ
  conv at h => whnf
  obtain ⟨rfl, h⟩ := h
  split at h
  · rename_i args hit
    obtain ⟨hnm, hne, hst, h⟩ := h
    obtain ⟨pg, pc, rfl, eg⟩ := iterOf_range hit
    cases tgt
    case Name x px =>
      refine wpAny_For ?_ (by intro _; rfl)
      refine wpAny_Call_Name_kw (nameBuiltin O S K eg O.base.range ?_)
      cases args with
      | nil => exact absurd rfl hne
      | cons e es =>
        have hs' := (sndAll O (e :: es)).es _ _ h pc m X hF s S K (fun vs s' => c.W (call (.type "range") ([] ++ vs)) (fun xv s₁ => wpAny (model c.prog c.w) c.A (pyIter xv) (fun it s₂ => codeAny (model c.prog c.w) c.A (.forLoop (.Name x px) it b [] c.env) (fun r s' => match r with | .ok f => Q' f s' | .error e => cameBackBy (model c.prog c.w) c.A c.env (fun _ _ => False) e s') s₂) (fun _ _ => False) s₁) s') ?_
        · have hpl := any_star (pos := pc) (env := c.env) hst
          show wpAny _ _ (callWith pc (.type "range") [] (backTo pc (starEach (e :: es) c.env)) []) _ _ _
          rw [wpEs_star h] at hs' hpl ⊢
          exact PySem.callWith_type hpl (evalArgs_plain hs')
        intro vs ds ρ1 hF1 h1 tk1 g1 r1 hk
        have fin : ∀ (a e st : Int) (t u v : Tok) (tk : Nat) (N : Nat), Builtin.Range.small a e st = true → Builtin.Range.rangeSize a e st = (N : Int) → wpFor R b (.Name x px) (rangeL a N st) ρ1 Q →
            wpAny (model c.prog c.w) c.A (pyIter (.ref h1.objs.size)) (fun it s₂ => codeAny (model c.prog c.w) c.A (.forLoop (.Name x px) it b [] c.env) (fun r s' => match r with | .ok f => Q' f s' | .error e => cameBackBy (model c.prog c.w) c.A c.env (fun _ _ => False) e s') s₂) (fun _ _ => False)
              { s with heap := h1.push { cls := .type "range", data := .fields #[.int a t, .int e u, .int st v] }, toks := tk } := by
          intro a e st t u v tk N hsm hN hk
          have g2 := Go.same (p := c.p) (px := c.C.px) (names := c.scope.names) g1.sim g1.keys (stays_push h1 { cls := .type "range", data := .fields #[.int a t, .int e u, .int st v] })
          exact forRange (s := { s with heap := h1.push { cls := .type "range", data := .fields #[.int a t, .int e u, .int st v] }, toks := tk }) O hR g2.sim g2.keys (IsRange.new h1 a e st t u v) hsm hN hk (Cfg.PostS.after hQ (g1.trans g2))
        unfold rangeV at hk
        split at hk
        · cases r1 with
          | cons q1 r1 =>
            cases r1
            obtain ⟨t, rfl⟩ := rd_int q1
            refine PySem.call_range_1 (fin _ _ _ _ _ _ _ _ (small_up ⟨by decide, by decide⟩ hk.1) ?_ hk.2)
            rw [rangeSize_up]; simp
        · cases r1 with
          | cons q1 r1 =>
            cases r1 with
            | cons q2 r1 =>
              cases r1
              obtain ⟨t, rfl⟩ := rd_int q1
              obtain ⟨u, rfl⟩ := rd_int q2
              exact PySem.call_range_2 (fin _ _ _ _ _ _ _ _ (small_up hk.1 hk.2.1) (rangeSize_up _ _) hk.2.2)
        · cases r1 with
          | cons q1 r1 =>
            cases r1 with
            | cons q2 r1 =>
              cases r1 with
              | cons q3 r1 =>
                cases r1
                obtain ⟨t, rfl⟩ := rd_int q1
                obtain ⟨u, rfl⟩ := rd_int q2
                obtain ⟨v, rfl⟩ := rd_int q3
                obtain ⟨k1, k2, rfl, hk⟩ := hk
                exact PySem.call_range_3 (by decide) (fin _ _ _ _ _ _ _ _ (small_down k1 k2) (rangeSize_down _ _) hk) (.inl (PyProof.noPylong_small (by decide)))
        · exact hk.elim
    all_goals cases hnm
  · rename_i e hit
    obtain ⟨hpr, h⟩ := h
    obtain ⟨pg, pc, rfl, eg⟩ := iterOf_enum hit
    have shape : ∃ xi pi xv pv k pt, tgt = .Tuple [.Name xi pi, .Name xv pv] k pt := by
      unfold isPr at hpr
      split at hpr
      · exact ⟨_, _, _, _, _, _, rfl⟩
      · cases hpr
    obtain ⟨xi, pi, xv, pv, k, pt, rfl⟩ := shape
    refine wpAny_For ?_ (by intro _; rfl)
    refine wpAny_Call_Name_kw (nameBuiltin O S K eg O.base.enumerate ?_)
    have hst : starEach [e] c.env = [(false, eval e c.env)] := star_of h
    show wpAny _ _ (callWith pc (.type "enumerate") [] (backTo pc (starEach [e] c.env)) []) _ _ _
    rw [hst]
    refine PySem.callWith_type (args := [(false, eval e c.env)]) rfl (evalArgs_plain (Calls.spliced_cons (sndE O e _ _ h m X hF s S K _ ?_)))
    intro v d ρ1 hF1 h1 tk1 g1 r1 hk
    refine Calls.spliced_nil ?_
    clear h
    obtain ⟨xs, rfl, hk⟩ := hk
    obtain ⟨l, vs, as, rfl, hl, ra⟩ := rd_list r1
    refine call_enumerate_list (s := { s with heap := h1, toks := tk1 }) (stays_list g1.sim.keep hl) ?_
    intro h2 he hit2 hz k2
    have hz : h2.objs.size = h1.objs.size + 2 := hz
    refine wpAny_pyIter_enum (s := { s with heap := h2, toks := tk1 }) he ?_
    obtain ⟨oi, hoi, _⟩ := id hit2
    have S2 : c.Sm m ([h1.objs.size + 1, h1.objs.size] ++ X) hF1 h2 ρ1 := g1.sim.guard2 k2 (Nat.le_succ _) (Nat.le_refl _) ⟨_, he⟩ ⟨_, hoi⟩
    have off : ∀ a, h1.objs.size ≤ a → a ∉ X := fun a ha hm => by
      obtain ⟨o, e⟩ := g1.sim.alive _ hm
      exact absurd (Heap.lt_size e) (Nat.not_lt.mpr ha)
    refine forEnum (s := { s with heap := h2, toks := tk1 }) O hR S2 g1.keys hl ra (off _ (Nat.le_succ _)) (off _ (Nat.le_refl _)) (Nat.ne_of_gt (Nat.lt_succ_self _)) he hit2 hk ?_
    intro f fl m' ρ' hF' h' tk g r hk
    exact hQ f fl m' ρ' hF' h' tk ⟨g.sim, g.keys, fun b o e => g.grow b o (g1.grow b o e), fun b o e => (g.off b o e).elim (fun e => g1.off b o e) .inr, fun q hq o e => g.guarded q hq o (k2 _ _ (g1.guarded q hq o e))⟩ r hk
  · obtain ⟨hnm, h⟩ := h
    cases tgt
    case Name x px =>
      refine wpAny_For (sndE O it _ _ h m X hF s S K _ ?_) ?_
      · intro v d ρ1 hF1 h1 tk1 g1 r1 hk
        clear h
        obtain ⟨xs, rfl, hk⟩ := hk
        exact forList (s := { s with heap := h1, toks := tk1 }) O hR g1.sim g1.keys r1 hk (Cfg.PostS.after hQ g1)
      · intro x
        cases it <;> first | rfl | exact (show False from h).elim
    all_goals cases hnm
theorem snd_Assign (O : c.Ok n) {R : WpB} {ts : List Expr} {e : Expr} {pos : Pos} : SndS c R (.Assign ts e pos) := by
  intro ρ Q h m X hF s S K Q' hQ
  have h0 := h
  conv at h => whnf
  split at h
  · exact snd_AssignName O _ _ h0 m X hF s S K _ hQ
  · split at h
    · rename_i ns k tp e0 es k2 p2
      obtain ⟨⟨hc, hn⟩, h⟩ := h
      obtain ⟨names, hn⟩ := Option.isSome_iff_exists.mp hn
      exact snd_AssignTupT (R := R) O h hc names hn S K hQ
    · exact snd_AssignTupV (R := R) O h.1 h.2 S K hQ
  · exact snd_AssignSub O _ _ h0 m X hF s S K _ hQ
  · exact h.elim
theorem snd_AugAny (O : c.Ok n) {R : WpB} {t e : Expr} {op : Operator} {pos : Pos} : SndS c R (.AugAssign t op e pos) := by
  intro ρ Q h m X hF s S K Q' hQ
  have h0 := h
  conv at h => whnf
  split at h
  · exact snd_AugAssign O _ _ h0 m X hF s S K _ hQ
  · exact h.elim
mutual
theorem sndS (O : c.Ok n) {R : WpB} (hR : SndR c R) : ∀ st : Stmt, SndS c R st
  | .FunctionDef .. => fun _ _ h => (show False from h).elim
  | .AsyncFunctionDef .. => fun _ _ h => (show False from h).elim
  | .ClassDef .. => fun _ _ h => (show False from h).elim
  | .Return .. => snd_Return O
  | .Delete .. => fun _ _ h => (show False from h).elim
  | .Assign .. => snd_Assign O
  | .TypeAlias .. => fun _ _ h => (show False from h).elim
  | .AugAssign .. => snd_AugAny O
  | .AnnAssign .. => fun _ _ h => (show False from h).elim
  | .For .. => snd_For O hR
  | .AsyncFor .. => fun _ _ h => (show False from h).elim
  | .While .. => snd_While O hR
  | .If _ b o _ => snd_If O (sndB O hR b) (sndB O hR o)
  | .With .. => fun _ _ h => (show False from h).elim
  | .AsyncWith .. => fun _ _ h => (show False from h).elim
  | .Match .. => fun _ _ h => (show False from h).elim
  | .Raise .. => fun _ _ h => (show False from h).elim
  | .Try .. => fun _ _ h => (show False from h).elim
  | .TryStar .. => fun _ _ h => (show False from h).elim
  | .Assert .. => fun _ _ h => (show False from h).elim
  | .Import .. => fun _ _ h => (show False from h).elim
  | .ImportFrom .. => fun _ _ h => (show False from h).elim
  | .Global .. => fun _ _ h => (show False from h).elim
  | .Nonlocal .. => fun _ _ h => (show False from h).elim
  | .Expr .. => snd_ExprAny O
  | .Pass .. => fun _ _ h => (show False from h).elim
  | .Break .. => snd_Break
  | .Continue .. => fun _ _ h => (show False from h).elim
theorem sndB (O : c.Ok n) {R : WpB} (hR : SndR c R) : ∀ b : List Stmt, SndB c R b
  | [] => snd_B_nil
  | st :: rest => snd_B_cons (sndS O hR st) (sndB O hR rest)
end
theorem sndR (O : c.Ok n) : ∀ k : Nat, SndR c (wpR c.C k)
  | 0 => fun _ _ _ h => h.elim
  | k + 1 => fun b => sndB O (sndR O k) b
end
/-! ## a def's contract out of its body's condition -/
theorem nodup_rev {l : List Str} (h : l.Nodup) : l.reverse.Nodup := by
  unfold List.Nodup at h ⊢
  rw [List.pairwise_reverse]
  exact h.imp Ne.symm
noncomputable def base0 : List (Str × NameKind) → Rho
  | [] => []
  | (x, .local) :: r => (x, .unset) :: base0 r
  | (x, .globalImplicit) :: r => (x, .glob) :: base0 r
  | _ :: r => base0 r
noncomputable def kindsOk (names : List (Str × NameKind)) : Bool := names.all fun q => (q.2 == .local || q.2 == .globalImplicit) && !(q.1 == ("__debug__" : Str))
theorem base0_keys : ∀ {names : List (Str × NameKind)}, kindsOk names = true → KeysOk names (base0 names) ∧ ∀ x s, got (base0 names) x = some s → s = .unset ∨ s = .glob
  | [], _ => ⟨fun _ _ e => (by cases e), fun _ _ e => (by cases e)⟩
  | (y, k) :: r, h => by
    unfold kindsOk at h
    rw [List.all_cons, Bool.and_eq_true] at h
    obtain ⟨h1, h2⟩ := h
    obtain ⟨ih1, ih2⟩ := base0_keys (names := r) h2
    rw [Bool.and_eq_true] at h1
    have hdbg : (y == ("__debug__" : Str)) = false := by simpa using h1.2
    have hk : k = .local ∨ k = .globalImplicit := by simpa using h1.1
    have key : ∀ (t : Slot), (t = .unset ∧ k = .local ∨ t = .glob ∧ k = .globalImplicit) → base0 ((y, k) :: r) = (y, t) :: base0 r → KeysOk ((y, k) :: r) (base0 ((y, k) :: r)) ∧ ∀ x s, got (base0 ((y, k) :: r)) x = some s → s = .unset ∨ s = .glob := by
      intro t ht e
      rw [e]
      refine ⟨fun x s q => ?_, fun x s q => ?_⟩
      · unfold got at q
        by_cases hxy : (y == x) = true
        · rw [if_pos hxy] at q
          have hx := eq_of_beq hxy
          subst hx
          cases q
          refine ⟨hdbg, ?_⟩
          rw [List.lookup_cons]
          rcases ht with ⟨rfl, rfl⟩ | ⟨rfl, rfl⟩ <;> simp
        · rw [if_neg hxy] at q
          have := ih1 x s q
          have hyx : (x == y) = false := by
            cases z : (x == y) with
            | false => rfl
            | true => rw [eq_of_beq z] at hxy; simp at hxy
          refine ⟨this.1, ?_⟩
          rw [List.lookup_cons, hyx]
          exact this.2
      · unfold got at q
        by_cases hxy : (y == x) = true
        · rw [if_pos hxy] at q; cases q
          rcases ht with ⟨rfl, _⟩ | ⟨rfl, _⟩
          · exact .inl rfl
          · exact .inr rfl
        · rw [if_neg hxy] at q; exact ih2 x s q
    rcases hk with rfl | rfl
    · exact key .unset (.inl ⟨rfl, rfl⟩) rfl
    · exact key .glob (.inr ⟨rfl, rfl⟩) rfl
theorem got_putPs {x : Str} {s : Slot} : ∀ {ps : List (Str × Vx)} {ρ : Rho}, got (putPs ρ ps) x = some s → (∃ v, (x, v) ∈ ps ∧ s = .val v) ∨ got ρ x = some s
  | [], _, h => .inr h
  | (y, v) :: ps, ρ, h => by
    rcases got_putPs (ps := ps) (ρ := put ρ y (.val v)) h with ⟨u, hm, e⟩ | h
    · exact .inl ⟨u, .tail _ hm, e⟩
    · rcases got_put h with ⟨rfl, rfl⟩ | ⟨_, h⟩
      · exact .inl ⟨v, .head _, rfl⟩
      · exact .inr h
theorem keys_putPs {names : List (Str × NameKind)} : ∀ {ps : List (Str × Vx)} {ρ : Rho}, KeysOk names ρ → (∀ p ∈ ps, canPut ρ p.1) → KeysOk names (putPs ρ ps)
  | [], _, K, _ => K
  | (y, v) :: ps, ρ, K, h => keys_putPs (ps := ps) (K.putC (h _ (.head _)) (by intro q; cases q)) fun p hp => canPut_put (h p (.tail _ hp)) (by intro q; cases q)
theorem lookup_mem {x : Str} {v : Value} : ∀ {l : List (Str × Value)}, (l.map (·.1)).Nodup → (x, v) ∈ l → l.lookup x = some v
  | (y, u) :: r, hn, hm => by
    rw [List.map_cons, List.nodup_cons] at hn
    rw [List.lookup_cons]
    rcases List.mem_cons.mp hm with e | hm
    · cases e; simp
    · have : (x == y) = false := by
        cases z : (x == y) with
        | false => rfl
        | true => exact absurd (List.mem_map_of_mem (f := Prod.fst) hm) (by rw [show x = y from eq_of_beq z]; exact hn.1)
      rw [this]
      exact lookup_mem hn.2 hm
theorem rds_zip {mg : Str → Option Value} {h : Heap} {x : Str} {d : Vx} {vs : List Value} {ds : List Vx} (r : Rds mg h vs ds) : ∀ {ps : List Str}, (x, d) ∈ ps.zip ds → ∃ v, (x, v) ∈ ps.zip vs ∧ Rd mg h v d := by
  induction r with
  | nil => intro ps hm; simp at hm
  | cons a _ ih =>
    intro ps hm
    cases ps with
    | nil => simp at hm
    | cons y ps =>
      rw [List.zip_cons_cons] at hm ⊢
      rcases List.mem_cons.mp hm with e | hm
      · cases e; exact ⟨_, .head _, a⟩
      · obtain ⟨v, h1, h2⟩ := ih hm; exact ⟨v, .tail _ h1, h2⟩
noncomputable def FnAt (mg : Str → Option Value) (B : Heap) (d : DefRec) : Prop := ∃ a o pm code doc, mg d.name = some (.ref a) ∧ B.get? a = some o ∧ o.data = .func (docDef d.name d.params d.body d.scope pm code doc) ∧ B.CodeRec code d.name
/-- what is asked of the def's own words; all of it is read off the text -/
structure DefOk (d : DefRec) (ps : List Str) : Prop where
  bind : ∀ (pm code doc : Value) (vs : List Value), vs.length = ps.length → bindArgs (docDef d.name d.params d.body d.scope pm code doc) ⟨vs, []⟩ = pure (ps.zip vs)
  nodup : ps.Nodup
  loc : ∀ x ∈ ps, d.scope.names.lookup x = some .local
  kinds : kindsOk d.scope.names = true
  co : d.scope.isCoroutine = false
  gen : d.scope.isGenerator = false
  kind : d.scope.kind = .function
theorem noCell {names : List (Str × NameKind)} (h : kindsOk names = true) : ∀ x ∈ names, x.2 ≠ .cell := by
  intro x hx e
  have := List.all_eq_true.mp h x hx
  rw [e] at this
  simp at this
theorem got_base {names : List (Str × NameKind)} {x : Str} (hk : kindsOk names = true) (h : names.lookup x = some .local) : got (base0 names) x = some .unset := by
  induction names with
  | nil => cases h
  | cons q r ih =>
    obtain ⟨y, k⟩ := q
    have hk0 := hk
    unfold kindsOk at hk
    rw [List.all_cons, Bool.and_eq_true] at hk
    rw [List.lookup_cons] at h
    have hk1 : k = .local ∨ k = .globalImplicit := by
      have := hk.1
      rw [Bool.and_eq_true] at this
      simpa using this.1
    cases z : (x == y) with
    | true =>
      rw [z] at h
      have e : x = y := eq_of_beq z
      subst e
      simp at h; subst h
      show got ((x, .unset) :: base0 r) x = _
      unfold got; simp
    | false =>
      rw [z] at h
      have e : ¬ (y == x) = true := fun q => by rw [eq_of_beq q] at z; simp at z
      rcases hk1 with rfl | rfl
      · show got ((y, .unset) :: base0 r) x = _
        unfold got; rw [if_neg e]; exact ih hk.2 h
      · show got ((y, .glob) :: base0 r) x = _
        unfold got; rw [if_neg e]; exact ih hk.2 h
noncomputable def retIs (r : Vx) (fl : Fl) : Prop := match fl with
  | .ret v => v = r
  | .next => r = .dat .none
  | _ => False
section
variable {prog : Program} {w : World} {mg mb : Str → Option Value} {B : Heap}
theorem fnOk_of (base : BaseOk mg mb B) {d : DefRec} {ps : List Str} (D : DefOk d ps) (F : FnAt mg B d) {C : Ctx} {n k : Nat} (hf : ∀ q ∈ C.fns, FnOk prog w mg B n q.1 q.2) (hm : ∀ q ∈ C.muts, MutOk prog w mg B n q.1 q.2)
    {S : SpecF} (h : ∀ ds r, S ds r → ds.length = ps.length ∧ wpSs C (wpR C k) d.body (putPs (base0 d.scope.names) (ps.zip ds)) fun fl _ => retIs r fl) : FnOk prog w mg B (n + 1) d.name S := by
  obtain ⟨fa, o, pm, code, doc, hma, hB, hd, hcd⟩ := F
  refine ⟨fa, o, _, hma, hB, hd, ?_⟩
  intro A s hF vs ds r Q hh hdep hun hBF hFs hr hS hQ
  obtain ⟨hl, hw⟩ := h ds r hS
  have hBs : B.StaysIn s.heap := fun b o e => hFs b o (hBF b o e)
  have hlen : vs.length = ps.length := hr.length.trans hl
  have hmap : (ps.zip vs).map (·.1) = ps := by rw [List.map_fst_zip]; lia
  refine wpAny_call (call_plain (by lia) (hBs _ _ hB) hd (base.nolimit.keeps hBs) (hcd.keeps hBs) (D.bind pm code doc vs hlen) (fun x hx => D.loc _ (List.of_mem_zip hx).1) (fun h₁ F => ?_) D.co D.gen D.kind (noCell D.kinds))
  let c : Cfg := { prog := prog, w := w, mg := mg, mb := mb, B := B, A := A.deeper (envOf d.name d.scope s.heap.objs.size fa code), p := s.heap.objs.size, name := d.name, scope := d.scope, L := s.heap.objs.size, a := fa, cd := code, C := C }
  have O : c.Ok n := ⟨base, D.kind, hh, by show A.depth + 1 + n < _; lia, by show A.units + 3 + 4 * n + 70 < _; lia, hf, hm⟩
  let X : List Addr := (List.range s.heap.objs.size).filter fun b => (s.heap.get? b).isSome && (hF.get? b).isNone
  have hX : ∀ {b}, b ∈ X ↔ (∃ o, s.heap.get? b = some o) ∧ hF.get? b = none := by
    intro b
    constructor
    · intro hb
      have := (List.mem_filter.mp hb).2
      rw [Bool.and_eq_true] at this
      exact ⟨Option.isSome_iff_exists.mp this.1, Option.isNone_iff_eq_none.mp this.2⟩
    · rintro ⟨⟨o, e⟩, q⟩
      refine List.mem_filter.mpr ⟨List.mem_range.mpr (Heap.lt_size e), ?_⟩
      rw [e, q]; rfl
  have K0 := base0_keys D.kinds
  have cps : ∀ x ∈ ps, canPut (base0 d.scope.names) x := fun x hx => by
    unfold canPut; rw [got_base D.kinds (D.loc x hx)]; trivial
  have S0 : c.Sm (fun x => (ps.zip vs).reverse.lookup x) X hF h₁ (putPs (base0 d.scope.names) (ps.zip ds)) := by
    refine ⟨F.ns, hBF, fun b o e => F.keep b o (hFs b o e), ?_, fun b hb => (hX.mp hb).2, fun hm => ?_, fun b hb => ?_, ?_, ?_, ?_⟩
    · cases q : hF.get? c.L with
      | none => rfl
      | some o => exact absurd (Heap.lt_size (hFs _ _ q)) (Nat.lt_irrefl _)
    · obtain ⟨⟨o, e⟩, _⟩ := hX.mp hm
      exact absurd (Heap.lt_size e) (Nat.lt_irrefl _)
    · obtain ⟨⟨o, e⟩, _⟩ := hX.mp hb
      exact ⟨o, F.keep _ _ e⟩
    · intro x sl e
      rcases got_putPs e with ⟨v, hv, rfl⟩ | e
      · obtain ⟨u, hu, ru⟩ := rds_zip hr hv
        refine ⟨u, lookup_mem ?_ (List.mem_reverse.mpr hu), ru⟩
        rw [List.map_reverse, hmap]
        exact nodup_rev D.nodup
      · rcases K0.2 x sl e with rfl | rfl <;> trivial
    · intro x y xs ys a q1
      rcases got_putPs q1 with ⟨v, hv, q⟩ | q1
      · cases q
      · rcases K0.2 x _ q1 with q | q <;> cases q
    · intro x xs a q1
      rcases got_putPs q1 with ⟨v, hv, q⟩ | q1
      · cases q
      · rcases K0.2 x _ q1 with q | q <;> cases q
  have K1 : KeysOk c.scope.names (putPs (base0 d.scope.names) (ps.zip ds)) := keys_putPs K0.1 fun p hp => cps _ (List.of_mem_zip hp).1
  have done := sndB O (sndR O k) d.body _ _ hw _ X hF { s with heap := h₁, toks := s.toks + (ps.zip vs).length } S0 K1 (fun fl s' => Q (match fl with | .ret v => v | _ => .none) s') ?_
  · exact wpAny_mono done (fun fl s' x => x) (fun _ _ e => e.elim)
  intro f fl m' ρ' hF' h' tk g rr hk
  have stay : s.heap.StaysIn h' := by
    intro b o e
    cases q : hF.get? b with
    | some o' =>
      have := hFs _ _ q
      rw [e] at this; cases this
      exact g.sim.keep _ _ (g.grow _ _ q)
    | none => exact g.guarded b (hX.mpr ⟨⟨o, e⟩, q⟩) o (F.keep _ _ e)
  have off : ∀ b o, hF'.get? b = some o → hF.get? b = some o ∨ s.heap.objs.size ≤ b := fun b o e => by
    rcases g.off b o e with q | q | q
    · exact .inl q
    · exact .inr (Nat.le_of_lt q)
    · exact .inr (Nat.le_of_eq q.symm)
  cases f <;> cases fl <;> first | exact rr.elim | exact hk.elim | skip
  · have hk : r = .dat .none := hk
    subst hk
    exact hQ _ _ _ _ stay g.grow g.sim.keep off ⟨_, .none⟩
  · have hk : _ = r := hk
    subst hk
    exact hQ _ _ _ _ stay g.grow g.sim.keep off rr
theorem mutOk_of (base : BaseOk mg mb B) {d : DefRec} {p0 : Str} {ps : List Str} (D : DefOk d (p0 :: ps)) (F : FnAt mg B d) {C : Ctx} {n k : Nat} (hpx : C.px = p0) (hf : ∀ q ∈ C.fns, FnOk prog w mg B n q.1 q.2) (hm : ∀ q ∈ C.muts, MutOk prog w mg B n q.1 q.2)
    {S : SpecM} (h : ∀ xs ds r ys, S xs ds r ys → ds.length = ps.length ∧ wpSs C (wpR C k) d.body (put (putPs (base0 d.scope.names) (ps.zip ds)) p0 (.own xs)) fun fl ρ => retIs r fl ∧ got ρ p0 = some (.own ys)) : MutOk prog w mg B (n + 1) d.name S := by
  obtain ⟨fa, o, pm, code, doc, hma, hB, hd, hcd⟩ := F
  refine ⟨fa, o, _, hma, hB, hd, ?_⟩
  intro A s hF l us vs ds r xs ys as Q hh hdep hun hBF hFs hr hpl hFl hra hS hQ
  obtain ⟨hl, hw⟩ := h xs ds r ys hS
  have hBs : B.StaysIn s.heap := fun b o e => hFs b o (hBF b o e)
  have hlen : vs.length = ps.length := hr.length.trans hl
  have hlen1 : (Value.ref l :: vs).length = (p0 :: ps).length := by simp [hlen]
  have hmap : (ps.zip vs).map (·.1) = ps := by rw [List.map_fst_zip]; lia
  have hnd := List.nodup_cons.mp D.nodup
  refine wpAny_call (call_plain (by lia) (hBs _ _ hB) hd (base.nolimit.keeps hBs) (hcd.keeps hBs) (D.bind pm code doc (.ref l :: vs) hlen1) (fun x hx => D.loc _ (List.of_mem_zip hx).1) (fun h₁ F => ?_) D.co D.gen D.kind (noCell D.kinds))
  let c : Cfg := { prog := prog, w := w, mg := mg, mb := mb, B := B, A := A.deeper (envOf d.name d.scope s.heap.objs.size fa code), p := l, name := d.name, scope := d.scope, L := s.heap.objs.size, a := fa, cd := code, C := C }
  have O : c.Ok n := ⟨base, D.kind, hh, by show A.depth + 1 + n < _; lia, by show A.units + 3 + 4 * n + 70 < _; lia, hf, hm⟩
  let X : List Addr := (List.range s.heap.objs.size).filter fun b => (s.heap.get? b).isSome && (hF.get? b).isNone && !(b == l)
  have hX : ∀ {b}, b ∈ X ↔ (∃ o, s.heap.get? b = some o) ∧ hF.get? b = none ∧ b ≠ l := by
    intro b
    constructor
    · intro hb
      have := (List.mem_filter.mp hb).2
      rw [Bool.and_eq_true, Bool.and_eq_true] at this
      exact ⟨Option.isSome_iff_exists.mp this.1.1, Option.isNone_iff_eq_none.mp this.1.2, by simpa using this.2⟩
    · rintro ⟨⟨o, e⟩, q, hb⟩
      refine List.mem_filter.mpr ⟨List.mem_range.mpr (Heap.lt_size e), ?_⟩
      rw [e, q]; simpa using hb
  obtain ⟨nl, hl0⟩ := id hpl
  have hlL : l ≠ s.heap.objs.size := Nat.ne_of_lt (Heap.lt_size hl0)
  have K0 := base0_keys D.kinds
  have cps : ∀ x ∈ p0 :: ps, canPut (base0 d.scope.names) x := fun x hx => by
    unfold canPut; rw [got_base D.kinds (D.loc x hx)]; trivial
  have mp0 : ((p0 :: ps).zip (Value.ref l :: vs)).reverse.lookup p0 = some (.ref l) := by
    refine lookup_mem ?_ (List.mem_reverse.mpr (.head _))
    rw [List.map_reverse, List.zip_cons_cons, List.map_cons, hmap]
    exact nodup_rev D.nodup
  have S0 : c.Sm (fun x => ((p0 :: ps).zip (Value.ref l :: vs)).reverse.lookup x) X hF h₁ (put (putPs (base0 d.scope.names) (ps.zip ds)) p0 (.own xs)) := by
    refine ⟨F.ns, hBF, fun b o e => F.keep b o (hFs b o e), ?_, fun b hb => (hX.mp hb).2.1, fun hm => ?_, fun b hb => ?_, ?_, ?_, ?_⟩
    · cases q : hF.get? c.L with
      | none => rfl
      | some o => exact absurd (Heap.lt_size (hFs _ _ q)) (Nat.lt_irrefl _)
    · obtain ⟨⟨o, e⟩, _⟩ := hX.mp hm
      exact absurd (Heap.lt_size e) (Nat.lt_irrefl _)
    · obtain ⟨⟨o, e⟩, _⟩ := hX.mp hb
      exact ⟨o, F.keep _ _ e⟩
    · intro x sl e
      rcases got_put e with ⟨rfl, rfl⟩ | ⟨hx, e⟩
      · exact ⟨l, us, as, mp0, hpl.at fun o e => F.keep _ _ e, hFl, hlL, fun hm => (hX.mp hm).2.2 rfl, hra⟩
      rcases got_putPs e with ⟨v, hv, rfl⟩ | e
      · obtain ⟨u, hu, ru⟩ := rds_zip hr hv
        refine ⟨u, lookup_mem ?_ (List.mem_reverse.mpr (by rw [List.zip_cons_cons]; exact .tail _ hu)), ru⟩
        rw [List.map_reverse, List.zip_cons_cons, List.map_cons, hmap]
        exact nodup_rev D.nodup
      · rcases K0.2 x sl e with rfl | rfl <;> trivial
    · intro x y zs ys a q1 q2 r1 r2
      have one : ∀ x zs, got (put (putPs (base0 d.scope.names) (ps.zip ds)) p0 (.own xs)) x = some (.own zs) → x = p0 := by
        intro x zs q
        rcases got_put q with ⟨e, _⟩ | ⟨_, q⟩
        · exact e
        · rcases got_putPs q with ⟨v, hv, q⟩ | q
          · cases q
          · rcases K0.2 x _ q with q | q <;> cases q
      rw [one x zs q1, one y ys q2]
    · intro x zs a q1 r1
      rcases got_put q1 with ⟨rfl, _⟩ | ⟨_, q⟩
      · right
        rw [mp0] at r1; cases r1
        exact ⟨rfl, hpx.symm⟩
      · rcases got_putPs q with ⟨v, hv, q⟩ | q
        · cases q
        · rcases K0.2 x _ q with q | q <;> cases q
  have K1 : KeysOk c.scope.names (put (putPs (base0 d.scope.names) (ps.zip ds)) p0 (.own xs)) := by
    refine (keys_putPs K0.1 fun p hp => cps _ (.tail _ (List.of_mem_zip hp).1)).putC ?_ (by intro q; cases q)
    have all : ∀ (qs : List (Str × Vx)) (ρ : Rho), canPut ρ p0 → canPut (putPs ρ qs) p0 := by
      intro qs
      induction qs with
      | nil => intro ρ h; exact h
      | cons p qs ih => intro ρ h; exact ih _ (canPut_put h (by intro q; cases q))
    exact all _ _ (cps p0 (.head _))
  have done := sndB O (sndR O k) d.body _ _ hw _ X hF { s with heap := h₁, toks := s.toks + ((p0 :: ps).zip (Value.ref l :: vs)).length } S0 K1 (fun fl s' => Q (match fl with | .ret v => v | _ => .none) s') ?_
  · exact wpAny_mono done (fun fl s' x => x) (fun _ _ e => e.elim)
  intro f fl m' ρ' hF' h' tk g rr hk
  obtain ⟨hk, ho⟩ := hk
  obtain ⟨a, us', bs, ha, hp', hn', _, _, ra'⟩ := g.sim.slots _ _ ho
  have e : a = l := by
    rcases g.sim.own _ _ _ ho ha with ⟨_, q⟩ | ⟨q, _⟩
    · exact absurd hpx.symm q
    · exact q
  subst e
  have stay : ∀ b o, b ≠ a → s.heap.get? b = some o → h'.get? b = some o := by
    intro b o hb e
    cases q : hF.get? b with
    | some o' =>
      have := hFs _ _ q
      rw [e] at this; cases this
      exact g.sim.keep _ _ (g.grow _ _ q)
    | none => exact g.guarded b (hX.mpr ⟨⟨o, e⟩, q, hb⟩) o (F.keep _ _ e)
  have off : ∀ b o, hF'.get? b = some o → hF.get? b = some o ∨ s.heap.objs.size ≤ b := fun b o e => by
    rcases g.off b o e with q | q | q
    · exact .inl q
    · exact .inr (Nat.le_of_lt q)
    · have q : b = a := q
      subst q
      rw [hn'] at e; cases e
  cases f <;> cases fl <;> first | exact rr.elim | exact hk.elim | skip
  · have hk : r = .dat .none := hk
    subst hk
    exact hQ _ _ _ _ _ _ stay hp' g.grow g.sim.keep off ⟨_, .none⟩ ra'
  · have hk : _ = r := hk
    subst hk
    exact hQ _ _ _ _ _ _ stay hp' g.grow g.sim.keep off rr ra'
theorem FnOk.up {n n' : Nat} {f : Str} {S : SpecF} (h : n ≤ n') (x : FnOk prog w mg B n f S) : FnOk prog w mg B n' f S := by
  obtain ⟨a, o, fd, h1, h2, h3, con⟩ := x
  exact ⟨a, o, fd, h1, h2, h3, fun A s hF vs ds r Q q1 q2 q3 => con A s hF vs ds r Q q1 (by lia) (by lia)⟩
theorem MutOk.up {n n' : Nat} {f : Str} {S : SpecM} (h : n ≤ n') (x : MutOk prog w mg B n f S) : MutOk prog w mg B n' f S := by
  obtain ⟨a, o, fd, h1, h2, h3, con⟩ := x
  exact ⟨a, o, fd, h1, h2, h3, fun A s hF l us vs ds r xs ys as Q q1 q2 q3 => con A s hF l us vs ds r xs ys as Q q1 (by lia) (by lia)⟩
end
/-! ## rules, one a form -/
section
variable {C : Ctx} {R : WpB} {ρ ρ' : Rho} {Q : Vx → Rho → Prop} {x g : Str} {p q : Pos}
theorem E_int {i : Int} {k : Nat} (h : Q (.dat (.int i)) ρ) : wpE C (.Constant (.int i) k p) ρ Q := h
theorem E_bool {b : Bool} {k : Nat} (h : Q (.dat (.bool b)) ρ) : wpE C (.Constant (.bool b) k p) ρ Q := h
theorem E_val {v : Vx} (e : got ρ x = some (.val v)) (h : Q v ρ) : wpE C (.Name x p) ρ Q := by show nameV C ρ x Q; delta nameV; rw [e]; exact h
theorem E_own {xs : List PyData} (e : got ρ x = some (.own xs)) (e2 : put ρ x (.val (.dat (.list xs))) = ρ') (h : Q (.dat (.list xs)) ρ') : wpE C (.Name x p) ρ Q := by show nameV C ρ x Q; delta nameV; rw [e]; subst e2; exact h
theorem E_glob {S : SpecF} (e : got ρ x = some .glob) (f : find1 C.fns x = some S) (h : Q (.fn x) ρ) : wpE C (.Name x p) ρ Q := by show nameV C ρ x Q; delta nameV; rw [e]; exact ⟨by rw [f]; rfl, h⟩
theorem E_bin {l r : Expr} {op : Operator} (h : wpE C l ρ fun a ρ1 => wpE C r ρ1 fun b ρ2 => binV op a b fun v => Q v ρ2) : wpE C (.BinOp l op r p) ρ Q := h
theorem E_not {e : Expr} (h : wpE C e ρ fun a ρ1 => unV .Not a fun v => Q v ρ1) : wpE C (.UnaryOp .Not e p) ρ Q := h
theorem E_neg {e : Expr} (h : wpE C e ρ fun a ρ1 => unV .USub a fun v => Q v ρ1) : wpE C (.UnaryOp .USub e p) ρ Q := h
theorem U_neg {i : Int} {K : Vx → Prop} (h : K (.dat (.int (-i)))) : unV .USub (.dat (.int i)) K := .inl ⟨rfl, h⟩
theorem E_if {t b o : Expr} (h : wpT C t ρ fun c ρ1 => (c = true → wpE C b ρ1 Q) ∧ (c = false → wpE C o ρ1 Q)) : wpE C (.IfExp t b o p) ρ Q := h
theorem E_and {a b : Expr} (h : wpE C a ρ fun v ρ1 => ∃ c, v = .dat (.bool c) ∧ (c = true → wpE C b ρ1 Q) ∧ (c = false → Q v ρ1)) : wpE C (.BoolOp .And [a, b] p) ρ Q := h
theorem E_cmp {l r : Expr} {op : CmpOp} (hn : noSet r = true) (h : wpE C l ρ fun a ρ1 => wpE C r ρ1 fun b ρ2 => cmpV op a b fun c => Q (.dat (.bool c)) ρ2) : wpE C (.Compare l [op] [r] p) ρ Q := ⟨hn, h⟩
theorem E_tup {es : List Expr} {k : Nat} (h : wpEs C es ρ fun vs ρ1 => ∃ ds, dats vs = some ds ∧ ds.length ≤ 1000 ∧ Q (.dat (.tuple ds)) ρ1) : wpE C (.Tuple es k p) ρ Q := h
theorem E_list {es : List Expr} (h : wpEs C es ρ fun vs ρ1 => ∃ ds, dats vs = some ds ∧ ds.length ≤ 1000 ∧ Q (.dat (.list ds)) ρ1) : wpE C (.List es p) ρ Q := h
theorem E_slice {lo hi st : Option Expr} (h : wpO C lo ρ fun a ρ1 => wpO C hi ρ1 fun b ρ2 => wpO C st ρ2 fun c ρ3 => Q (.cut a b c) ρ3) : wpE C (.Slice lo hi st p) ρ Q := h
theorem O_none {K : Option Int → Rho → Prop} (h : K none ρ) : wpO C none ρ K := h
theorem O_some {e : Expr} {K : Option Int → Rho → Prop} (h : wpE C e ρ fun v ρ1 => optInt v fun i => K i ρ1) : wpO C (some e) ρ K := h
theorem O_int {i : Int} {K : Option Int → Prop} (h : K (some i)) : optInt (.dat (.int i)) K := h
theorem Es_nil {K : List Vx → Rho → Prop} (h : K [] ρ) : wpEs C [] ρ K := h
theorem Es_cons {e : Expr} {es : List Expr} {K : List Vx → Rho → Prop} (h : wpE C e ρ fun v ρ1 => wpEs C es ρ1 fun vs ρ2 => K (v :: vs) ρ2) : wpEs C (e :: es) ρ K := h
theorem X_dats {vs : List Vx} {ds : List PyData} {P : List PyData → Prop} (h : dats vs = some ds) (h2 : ds.length ≤ 1000) (k : P ds) : ∃ ds, dats vs = some ds ∧ ds.length ≤ 1000 ∧ P ds := ⟨ds, h, h2, k⟩
theorem E_subOwn {s : Expr} {xs0 : List PyData} (e : got ρ x = some (.own xs0)) (h : wpE C s ρ fun k ρ1 => ∃ xs, got ρ1 x = some (.own xs) ∧ subV (.list xs) k fun d => Q d ρ1) : wpE C (.Subscript (.Name x q) s p) ρ Q := by
  conv => whnf
  have : ownName ρ (.Name x q) = some x := by simp only [ownName, e]
  rw [this]; exact h
theorem E_subVal {s : Expr} {v : Vx} (e : got ρ x = some (.val v)) (h : wpE C s ρ fun k ρ2 => ∃ d0, v = .dat d0 ∧ subV d0 k fun d => Q d ρ2) : wpE C (.Subscript (.Name x q) s p) ρ Q := by
  conv => whnf
  have : ownName ρ (.Name x q) = none := by simp only [ownName, e]
  rw [this]
  exact E_val e h
theorem E_sub {b s : Expr} (hb : ownName ρ b = none) (h : wpE C b ρ fun o ρ1 => wpE C s ρ1 fun k ρ2 => ∃ d0, o = .dat d0 ∧ subV d0 k fun d => Q d ρ2) : wpE C (.Subscript b s p) ρ Q := by
  conv => whnf
  rw [hb]; exact h
theorem X_own {xs : List PyData} {P : List PyData → Prop} (e : got ρ x = some (.own xs)) (h : P xs) : ∃ xs, got ρ x = some (.own xs) ∧ P xs := ⟨xs, e, h⟩
theorem X_dat {d : PyData} {P : PyData → Prop} (h : P d) : ∃ d0, Vx.dat d = .dat d0 ∧ P d0 := ⟨d, rfl, h⟩
theorem X_list {xs : List PyData} {P : List PyData → Prop} (h : P xs) : ∃ d0, Vx.dat (.list xs) = .dat (.list d0) ∧ P d0 := ⟨xs, rfl, h⟩
theorem X_bool {b : Bool} {P : Bool → Prop} (h : P b) : ∃ c, Vx.dat (.bool b) = .dat (.bool c) ∧ P c := ⟨b, rfl, h⟩
theorem E_user {S : SpecF} {args : List Expr} (e : callee C ρ g = .user S) (hne : args ≠ []) (h : wpEs C args ρ fun vs ρ1 => ∃ r, S vs r ∧ Q r ρ1) : wpE C (.Call (.Name g q) args [] p) ρ Q := by
  cases args with
  | nil => exact absurd rfl hne
  | cons a rest => show callW C ρ g a rest (wpE C a) (wpEs C rest) Q; delta callW; rw [e]; exact h
theorem E_mut {S : SpecM} {rest : List Expr} {xs0 : List PyData} (e : callee C ρ g = .mut S) (e0 : got ρ x = some (.own xs0)) (h : wpEs C rest ρ fun vs ρ1 => ∃ xs r ys, got ρ1 x = some (.own xs) ∧ S xs vs r ys ∧ Q r (put ρ1 x (.own ys))) {px : Pos} : wpE C (.Call (.Name g q) (.Name x px :: rest) [] p) ρ Q := by
  show callW C ρ g (.Name x px) rest (wpE C (.Name x px)) (wpEs C rest) Q; delta callW; rw [e]; exact ⟨⟨xs0, e0⟩, h⟩
theorem X_mut {S : SpecM} {vs : List Vx} {xs ys : List PyData} {r : Vx} {ρ2 : Rho} (e : got ρ x = some (.own xs)) (hS : S xs vs r ys) (e2 : put ρ x (.own ys) = ρ2) (h : Q r ρ2) : ∃ xs r ys, got ρ x = some (.own xs) ∧ S xs vs r ys ∧ Q r (put ρ x (.own ys)) := ⟨xs, r, ys, e, hS, by rw [e2]; exact h⟩
theorem E_lenOwn {xs : List PyData} (e : callee C ρ g = .len) (e0 : got ρ x = some (.own xs)) (hl : xs.length < 2 ^ 60) (h : Q (.dat (.int xs.length)) ρ) {px : Pos} : wpE C (.Call (.Name g q) [.Name x px] [] p) ρ Q := by
  show callW C ρ g (.Name x px) [] (wpE C (.Name x px)) (wpEs C []) Q; delta callW; rw [e]
  show lenW ρ (.Name x px) [] (wpE C (.Name x px)) Q; delta lenW; dsimp only
  have : ownName ρ (.Name x px) = some x := by simp only [ownName, e0]
  rw [this]; exact ⟨xs, e0, hl, h⟩
theorem E_len {a : Expr} (e : callee C ρ g = .len) (ha : ownName ρ a = none) (h : wpE C a ρ fun v ρ1 => lenV v fun r => Q r ρ1) : wpE C (.Call (.Name g q) [a] [] p) ρ Q := by
  show callW C ρ g a [] (wpE C a) (wpEs C []) Q; delta callW; rw [e]
  show lenW ρ a [] (wpE C a) Q; delta lenW; dsimp only; rw [ha]; exact h
theorem X_len {xs : List PyData} {K : Vx → Prop} (hl : xs.length < 2 ^ 60) (h : K (.dat (.int xs.length))) : lenV (.dat (.list xs)) K := ⟨hl, h⟩
theorem E_min {args : List Expr} (e : callee C ρ g = .min) (hne : args ≠ []) (hs : args.all noStar = true) (h : wpEs C args ρ fun vs ρ1 => minV vs fun v => Q v ρ1) : wpE C (.Call (.Name g q) args [] p) ρ Q := by
  cases args with
  | nil => exact absurd rfl hne
  | cons a rest => show callW C ρ g a rest (wpE C a) (wpEs C rest) Q; delta callW; rw [e]; exact ⟨hs, h⟩
theorem X_min {a b : Int} {K : Vx → Prop} (h : K (.dat (.int (if b < a then b else a)))) : minV [.dat (.int a), .dat (.int b)] K := h
theorem E_bits {o : Expr} {nm : Str} {apos : Pos} (hm : MethOk o nm apos [] p) (hn : nm = Str.ofString "bit_length") (h : wpE C o ρ fun v ρ1 => asInt v fun i => Q (.dat (.int (Builtin.Int.intBits i))) ρ1) : wpE C (.Call (.Attribute o nm apos) [] [] p) ρ Q := by
  exact ⟨hm, hn, h⟩
theorem X_asInt {i : Int} {K : Int → Prop} (h : K i) : asInt (.dat (.int i)) K := h
/-! operators -/
variable {K : Vx → Prop} {a b : Int}
theorem B_add (h : K (.dat (.int (a + b)))) : binV .Add (.dat (.int a)) (.dat (.int b)) K := h
theorem B_sub (h : K (.dat (.int (a - b)))) : binV .Sub (.dat (.int a)) (.dat (.int b)) K := h
theorem B_mul (h1 : a.natAbs < 2 ^ 62) (h : K (.dat (.int (a * b)))) : binV .Mult (.dat (.int a)) (.dat (.int b)) K := ⟨h1, h⟩
theorem B_div (h1 : 0 < b) (h2 : b < 2 ^ 62) (h : K (.dat (.int (a / b)))) : binV .FloorDiv (.dat (.int a)) (.dat (.int b)) K := ⟨h1, h2, h⟩
theorem B_mod (h1 : 0 < b) (h : K (.dat (.int (a % b)))) : binV .Mod (.dat (.int a)) (.dat (.int b)) K := ⟨h1, h⟩
theorem B_and (k : Nat) (h1 : b = 2 ^ k - 1) (h : K (.dat (.int (a % 2 ^ k)))) : binV .BitAnd (.dat (.int a)) (.dat (.int b)) K := ⟨k, h1, h⟩
theorem B_or (h1 : ∃ (k : Nat) (h : Int), 0 ≤ h ∧ ((a = h * 2 ^ k ∧ 0 ≤ b ∧ b < 2 ^ k) ∨ (b = h * 2 ^ k ∧ 0 ≤ a ∧ a < 2 ^ k))) (h : K (.dat (.int (a + b)))) : binV .BitOr (.dat (.int a)) (.dat (.int b)) K := ⟨h1, h⟩
theorem B_shl (h1 : 0 ≤ b) (h2 : b ≤ 1000000) (h3 : a.natAbs < 2 ^ 64) (h : K (.dat (.int (a * 2 ^ b.toNat)))) : binV .LShift (.dat (.int a)) (.dat (.int b)) K := ⟨h1, h2, h3, h⟩
theorem B_shr (h1 : 0 ≤ b) (h : K (.dat (.int (a / 2 ^ b.toNat)))) : binV .RShift (.dat (.int a)) (.dat (.int b)) K := ⟨h1, h⟩
theorem B_pow (h1 : 0 ≤ b) (h2 : b ≤ 1000000) (h3 : a.natAbs < 2 ^ 64) (h : K (.dat (.int (a ^ b.toNat)))) : binV .Pow (.dat (.int a)) (.dat (.int b)) K := ⟨h1, h2, h3, h⟩
theorem B_cat {xs ys : List PyData} (h1 : xs.length + ys.length ≤ 1000000) (h : K (.dat (.list (xs ++ ys)))) : binV .Add (.dat (.list xs)) (.dat (.list ys)) K := ⟨rfl, h1, h⟩
theorem B_rep {d : PyData} (h0 : 0 ≤ b) (h1 : b ≤ 1000000) (h : K (.dat (.list (List.replicate b.toNat d)))) : binV .Mult (.dat (.list [d])) (.dat (.int b)) K := ⟨rfl, d, rfl, h0, h1, h⟩
variable {KB : Bool → Prop}
theorem C_lt (h : KB (decide (a < b))) : cmpV .Lt (.dat (.int a)) (.dat (.int b)) KB := h
theorem C_le (h : KB (decide (a ≤ b))) : cmpV .LtE (.dat (.int a)) (.dat (.int b)) KB := h
theorem C_gt (h : KB (decide (b < a))) : cmpV .Gt (.dat (.int a)) (.dat (.int b)) KB := h
theorem C_ge (h : KB (decide (b ≤ a))) : cmpV .GtE (.dat (.int a)) (.dat (.int b)) KB := h
theorem C_eq (h : KB (decide (a = b))) : cmpV .Eq (.dat (.int a)) (.dat (.int b)) KB := h
theorem C_ne (h : KB (decide (a ≠ b))) : cmpV .NotEq (.dat (.int a)) (.dat (.int b)) KB := by
  have e : (!decide (a = b)) = decide (a ≠ b) := by by_cases q : a = b <;> simp [q]
  show KB (!decide (a = b)); rw [e]; exact h
theorem C_eqB {c d : Bool} (h : KB (decide (c = d))) : cmpV .Eq (.dat (.bool c)) (.dat (.bool d)) KB := by
  refine ⟨rfl, rfl, ?_⟩
  have e : PyData.eqv (.bool c) (.bool d) = decide (c = d) := by cases c <;> cases d <;> rfl
  simp only [e]; exact h
theorem C_neB {c d : Bool} (h : KB (decide (c ≠ d))) : cmpV .NotEq (.dat (.bool c)) (.dat (.bool d)) KB := by
  refine ⟨rfl, rfl, ?_⟩
  have e : (!PyData.eqv (.bool c) (.bool d)) = decide (c ≠ d) := by cases c <;> cases d <;> rfl
  simp only [e]; exact h
theorem br {p : Prop} [Decidable p] {P Q : Prop} (h1 : p → P) (h2 : ¬ p → Q) : (decide p = true → P) ∧ (decide p = false → Q) := ⟨fun h => h1 (of_decide_eq_true h), fun h => h2 (of_decide_eq_false h)⟩
theorem brN {p : Prop} [Decidable p] {P Q : Prop} (h1 : p → P) (h2 : ¬ p → Q) : (decide p = false → Q) ∧ (decide p = true → P) := ⟨fun h => h2 (of_decide_eq_false h), fun h => h1 (of_decide_eq_true h)⟩
theorem brB {c : Bool} {P Q : Prop} (h1 : c = true → P) (h2 : c = false → Q) : (c = true → P) ∧ (c = false → Q) := ⟨h1, h2⟩
/-! tests -/
theorem T_bool {op : BoolOp} {vs : List Expr} {K : Bool → Rho → Prop} (h : wpTs C op vs ρ K) : wpT C (.BoolOp op vs p) ρ K := h
theorem T_cmp {l r : Expr} {op : CmpOp} {K : Bool → Rho → Prop} (hn : noSet r = true) (h : wpE C l ρ fun a ρ1 => wpE C r ρ1 fun b ρ2 => cmpV op a b fun c => K c ρ2) : wpT C (.Compare l [op] [r] p) ρ K := ⟨hn, h⟩
theorem Ts_nilA {K : Bool → Rho → Prop} (h : K true ρ) : wpTs C .And [] ρ K := h
theorem Ts_nilO {K : Bool → Rho → Prop} (h : K false ρ) : wpTs C .Or [] ρ K := h
theorem Ts_and {e : Expr} {es : List Expr} {K : Bool → Rho → Prop} (h : wpT C e ρ fun b ρ1 => (b = false → K false ρ1) ∧ (b = true → wpTs C .And es ρ1 K)) : wpTs C .And (e :: es) ρ K := h
theorem Ts_or {e : Expr} {es : List Expr} {K : Bool → Rho → Prop} (h : wpT C e ρ fun b ρ1 => (b = true → K true ρ1) ∧ (b = false → wpTs C .Or es ρ1 K)) : wpTs C .Or (e :: es) ρ K := h
/-! statements -/
variable {KS : Fl → Rho → Prop}
theorem S_nil (h : KS .next ρ) : wpSs C R [] ρ KS := h
theorem S_cons {st : Stmt} {rest : List Stmt} (h : wpS C R st ρ fun fl ρ1 => match fl with | .next => wpSs C R rest ρ1 KS | fl => KS fl ρ1) : wpSs C R (st :: rest) ρ KS := h
theorem S_ret {e : Expr} (h : wpE C e ρ fun v ρ1 => KS (.ret v) ρ1) : wpS C R (.Return (some e) p) ρ KS := h
theorem S_brk (h : KS .brk ρ) : wpS C R (.Break p) ρ KS := h
theorem S_if {t : Expr} {b o : List Stmt} (h : wpT C t ρ fun c ρ1 => (c = true → wpSs C R b ρ1 KS) ∧ (c = false → wpSs C R o ρ1 KS)) : wpS C R (.If t b o p) ρ KS := h
theorem S_asg {e : Expr} {px : Pos} (h : wpF C e ρ fun s ρ1 => canPut ρ1 x ∧ x ≠ C.px ∧ KS .next (put ρ1 x s)) : wpS C R (.Assign [.Name x px] e p) ρ KS := h
theorem X_put {s : Slot} {ρ2 : Rho} (h1 : canPut ρ x) (h2 : x ≠ C.px) (e : put ρ x s = ρ2) (h : KS .next ρ2) : canPut ρ x ∧ x ≠ C.px ∧ KS .next (put ρ x s) := ⟨h1, h2, by rw [e]; exact h⟩
theorem F_list {es : List Expr} {K : Slot → Rho → Prop} (h : wpEs C es ρ fun vs ρ1 => ∃ ds, dats vs = some ds ∧ ds.length ≤ 1000 ∧ K (.own ds) ρ1) : wpF C (.List es p) ρ K := h
theorem F_bin {l r : Expr} {op : Operator} {K : Slot → Rho → Prop} (h : wpE C l ρ fun a ρ1 => wpE C r ρ1 fun b ρ2 => binV op a b fun v => K (slotOf v) ρ2) : wpF C (.BinOp l op r p) ρ K := h
noncomputable def notFresh : Expr → Bool
  | .List .. => false
  | .BinOp .. => false
  | _ => true
theorem F_val {e : Expr} {K : Slot → Rho → Prop} (hn : notFresh e = true) (h : wpE C e ρ fun v ρ1 => K (.val v) ρ1) : wpF C e ρ K := by
  cases e <;> first | exact h | cases hn
theorem S_tup {e0 : Expr} {es ns : List Expr} {k k2 : Nat} {p2 p3 : Pos} (h1 : (e0 :: es).all (constantsAlone 8) = false) (h2 : (namesOf ns).isSome = true)
    (h : wpF C e0 ρ fun s0 ρ1 => wpEs C es ρ1 fun vs ρ2 => ∃ y ys, namesOf ns = some (y :: ys) ∧ ys.length = vs.length ∧ vs.length ≤ 1000 ∧ (y :: ys).Nodup ∧ y ≠ C.px ∧ (∀ x ∈ y :: ys, canPut ρ2 x) ∧
          (dats vs).isSome = true ∧ KS .next (putAll (put ρ2 y s0) ys vs)) : wpS C R (.Assign [.Tuple ns k p2] (.Tuple (e0 :: es) k2 p3) p) ρ KS := ⟨⟨h1, h2⟩, h⟩
theorem X_tup {ns : List Expr} {vs : List Vx} {s0 : Slot} {y : Str} {ys : List Str} {ρ2 : Rho} (h1 : namesOf ns = some (y :: ys)) (h2 : ys.length = vs.length) (h3 : vs.length ≤ 1000) (h4 : (y :: ys).Nodup) (h5 : y ≠ C.px) (h6 : ∀ x ∈ y :: ys, canPut ρ x) (h7 : (dats vs).isSome = true)
    (e : putAll (put ρ y s0) ys vs = ρ2) (h : KS .next ρ2) : ∃ y ys, namesOf ns = some (y :: ys) ∧ ys.length = vs.length ∧ vs.length ≤ 1000 ∧ (y :: ys).Nodup ∧ y ≠ C.px ∧ (∀ x ∈ y :: ys, canPut ρ x) ∧
          (dats vs).isSome = true ∧ KS .next (putAll (put ρ y s0) ys vs) := ⟨y, ys, h1, h2, h3, h4, h5, h6, h7, by rw [e]; exact h⟩
theorem S_tupV {e : Expr} {ns : List Expr} {k : Nat} {p2 : Pos} (hn : noTup e = true)
    (h : wpE C e ρ fun v ρ1 => ∃ ds ys, v = .dat (.tuple ds) ∧ namesOf ns = some ys ∧ ys.length = ds.length ∧ ys.Nodup ∧ (∀ x ∈ ys, canPut ρ1 x) ∧ KS .next (putAll ρ1 ys (ds.map .dat))) : wpS C R (.Assign [.Tuple ns k p2] e p) ρ KS := by
  cases e <;> first | exact ⟨hn, h⟩ | cases hn
theorem X_tupV {ns : List Expr} {ds : List PyData} {ys : List Str} {ρ2 : Rho} (h1 : namesOf ns = some ys) (h2 : ys.length = ds.length) (h4 : ys.Nodup) (h6 : ∀ x ∈ ys, canPut ρ x)
    (e : putAll ρ ys (ds.map .dat) = ρ2) (h : KS .next ρ2) : ∃ ds0 ys, Vx.dat (.tuple ds) = .dat (.tuple ds0) ∧ namesOf ns = some ys ∧ ys.length = ds0.length ∧ ys.Nodup ∧ (∀ x ∈ ys, canPut ρ x) ∧ KS .next (putAll ρ ys (ds0.map .dat)) :=
  ⟨ds, ys, rfl, h1, h2, h4, h6, by rw [e]; exact h⟩
theorem S_set {e i : Expr} {px p2 : Pos} (h : wpE C e ρ fun v ρ1 => (∃ ys, got ρ1 x = some (.own ys)) ∧ wpE C i ρ1 fun k ρ2 => ∃ xs d j, got ρ2 x = some (.own xs) ∧ v = .dat d ∧ k = .dat (.int j) ∧ 0 ≤ j ∧ j < xs.length ∧ j < 2 ^ 62 ∧ KS .next (put ρ2 x (.own (xs.set j.toNat d)))) :
    wpS C R (.Assign [.Subscript (.Name x px) i p2] e p) ρ KS := h
theorem X_has {xs : List PyData} {P : Prop} (e : got ρ x = some (.own xs)) (h : P) : (∃ ys, got ρ x = some (.own ys)) ∧ P := ⟨⟨xs, e⟩, h⟩
theorem X_set {xs : List PyData} {d : PyData} {j : Int} {ρ2 : Rho} (e : got ρ x = some (.own xs)) (h0 : 0 ≤ j) (h1 : j < xs.length) (h2 : j < 2 ^ 62) (e2 : put ρ x (.own (xs.set j.toNat d)) = ρ2) (h : KS .next ρ2) :
    ∃ xs d' j', got ρ x = some (.own xs) ∧ Vx.dat d = .dat d' ∧ Vx.dat (.int j) = .dat (.int j') ∧ 0 ≤ j' ∧ j' < xs.length ∧ j' < 2 ^ 62 ∧ KS .next (put ρ x (.own (xs.set j'.toNat d'))) := ⟨xs, d, j, e, rfl, rfl, h0, h1, h2, by rw [e2]; exact h⟩
theorem S_aug {e : Expr} {op : Operator} {px : Pos} {i : Int} (e0 : got ρ x = some (.val (.dat (.int i)))) (ho : op ≠ .LShift ∧ op ≠ .FloorDiv ∧ op ≠ .BitAnd ∧ op ≠ .Mult ∧ op ≠ .Pow)
    (h : wpE C e ρ fun v ρ1 => asInt v fun b => binV op (.dat (.int i)) (.dat (.int b)) fun k => canPut ρ1 x ∧ asInt k fun k => KS .next (put ρ1 x (.val (.dat (.int k))))) : wpS C R (.AugAssign (.Name x px) op e p) ρ KS := by
  refine ⟨i, e0, ?_⟩
  have e1 : (fun (v : Vx) (ρ1 : Rho) => asInt v fun b => binV op (.dat (.int i)) (.dat (.int b)) fun k => canPut ρ1 x ∧ asInt k fun k => KS .next (put ρ1 x (.val (.dat (.int k))))) =
      fun v ρ1 => asInt v fun b => (op ≠ .LShift ∧ op ≠ .FloorDiv ∧ op ≠ .BitAnd ∧ op ≠ .Mult ∧ op ≠ .Pow) ∧ binI op i b fun k => canPut ρ1 x ∧ KS .next (put ρ1 x (.val (.dat (.int k)))) := by
    funext v ρ1
    cases v with
    | dat d =>
      cases d with
      | int b => exact propext ⟨fun hv => ⟨ho, hv⟩, fun hv => hv.2⟩
      | _ => rfl
    | _ => rfl
  exact e1 ▸ h
theorem X_aug {i : Int} {ρ2 : Rho} (h1 : canPut ρ x) (e : put ρ x (.val (.dat (.int i))) = ρ2) (h : KS .next ρ2) : canPut ρ x ∧ asInt (.dat (.int i)) fun k => KS .next (put ρ x (.val (.dat (.int k)))) := ⟨h1, by show KS .next (put ρ x _); rw [e]; exact h⟩
theorem S_app {a : Expr} {nm : Str} {xp apos pc : Pos} {ys : List PyData} (hm : MethOk (.Name x xp) nm apos [a] pc) (hn : nm = Str.ofString "append") (e : got ρ x = some (.own ys))
    (h : wpE C a ρ fun v ρ1 => ∃ xs d, got ρ1 x = some (.own xs) ∧ v = .dat d ∧ xs.length ≤ 1000000 ∧ KS .next (put ρ1 x (.own (xs ++ [d])))) : wpS C R (.Expr (.Call (.Attribute (.Name x xp) nm apos) [a] [] pc) p) ρ KS := by
  exact ⟨hm, hn, ⟨ys, e⟩, h⟩
theorem X_app {xs : List PyData} {d : PyData} {ρ2 : Rho} (e : got ρ x = some (.own xs)) (hl : xs.length ≤ 1000000) (e2 : put ρ x (.own (xs ++ [d])) = ρ2) (h : KS .next ρ2) : ∃ xs d', got ρ x = some (.own xs) ∧ Vx.dat d = .dat d' ∧ xs.length ≤ 1000000 ∧ KS .next (put ρ x (.own (xs ++ [d']))) :=
  ⟨xs, d, e, rfl, hl, by rw [e2]; exact h⟩
theorem S_expr {f : Str} {pf : Pos} {args : List Expr} {pc : Pos} (h : wpE C (.Call (.Name f pf) args [] pc) ρ fun _ ρ1 => KS .next ρ1) : wpS C R (.Expr (.Call (.Name f pf) args [] pc) p) ρ KS := h
theorem S_while {t : Expr} {b : List Stmt} (h : ∃ n, wpWh C R t b n ρ KS) : wpS C R (.While t b [] p) ρ KS := ⟨rfl, h⟩
theorem S_range {tgt it : Expr} {args : List Expr} {b : List Stmt} (e : iterOf ρ it = .range args) (h1 : isNm tgt = true) (h2 : args ≠ []) (h3 : args.all noStar = true) (h : wpEs C args ρ fun vs ρ1 => rangeV vs fun xs => wpFor R b tgt xs ρ1 KS) : wpS C R (.For tgt it b [] p) ρ KS := by
  refine ⟨rfl, ?_⟩; rw [e]; exact ⟨h1, h2, h3, h⟩
theorem S_enum {tgt it e0 : Expr} {b : List Stmt} (e : iterOf ρ it = .enum e0) (h1 : isPr tgt = true) (h : wpE C e0 ρ fun v ρ1 => ∃ xs, v = .dat (.list xs) ∧ wpFor R b tgt (enumD 0 xs) ρ1 KS) : wpS C R (.For tgt it b [] p) ρ KS := by
  refine ⟨rfl, ?_⟩; rw [e]; exact ⟨h1, h⟩
theorem S_for {tgt it : Expr} {b : List Stmt} (e : iterOf ρ it = .plain) (h1 : isNm tgt = true) (h : wpE C it ρ fun v ρ1 => ∃ xs, v = .dat (.list xs) ∧ wpFor R b tgt xs ρ1 KS) : wpS C R (.For tgt it b [] p) ρ KS := by
  refine ⟨rfl, ?_⟩; rw [e]; exact ⟨h1, h⟩
theorem X_r1 {n : Int} {K : List PyData → Prop} (h1 : okI n) (h : K (rangeL 0 n.toNat 1)) : rangeV [.dat (.int n)] K := ⟨h1, h⟩
theorem X_r2 {a b : Int} {K : List PyData → Prop} (h1 : okI a) (h2 : okI b) (h : K (rangeL a (b - a).toNat 1)) : rangeV [.dat (.int a), .dat (.int b)] K := ⟨h1, h2, h⟩
theorem X_r3 {a b : Int} {K : List PyData → Prop} (h1 : okI a) (h2 : okI b) (h : K (rangeL a (a - b).toNat (-1))) : rangeV [.dat (.int a), .dat (.int b), .dat (.int (-1))] K := ⟨h1, h2, rfl, h⟩
end
noncomputable def recI (i : Nat) : DefRec := match PySem.Challenge.pw_xm0407_01.main.body.drop i with
  | .FunctionDef name args body _ _ _ scope _ _ pos :: _ => ⟨name, args, body, scope, pos⟩
  | _ => ⟨⟨#[]⟩, ⟨[], [], none, [], [], none, []⟩, [], default, default⟩
theorem ofString_ne {a b : String} (h : a ≠ b) : Str.ofString a ≠ Str.ofString b := fun e => h (ofString_inj e)
theorem canPut_of {ρ : Rho} {x : Str} {s : Slot} (e : got ρ x = some s) (h : s ≠ .glob) : canPut ρ x := by
  unfold canPut; rw [e]; cases s <;> first | trivial | exact absurd rfl h
noncomputable abbrev IL (ns : List Int) : List PyData := ns.map .int
theorem B_mask {a : Int} {w : Nat} {K : Vx → Prop} (h : K (.dat (.int (a % 2 ^ w)))) : binV .BitAnd (.dat (.int a)) (.dat (.int (2 ^ w - 1))) K := B_and w rfl h
theorem B_shrN {a : Int} {w : Nat} {K : Vx → Prop} (h : K (.dat (.int (a / 2 ^ w)))) : binV .RShift (.dat (.int a)) (.dat (.int (w : Int))) K := B_shr (Int.natCast_nonneg _) (by rw [Int.toNat_natCast]; exact h)
theorem B_one {w : Nat} {K : Vx → Prop} (hw : w ≤ 1000) (h : K (.dat (.int (2 ^ w)))) : binV .LShift (.dat (.int 1)) (.dat (.int (w : Int))) K := B_shl (Int.natCast_nonneg _) (by lia) (by decide) (by rw [Int.toNat_natCast, Int.one_mul]; exact h)
theorem B_pow2 {w : Nat} {K : Vx → Prop} (hw : w ≤ 1000) (h : K (.dat (.int (2 ^ w)))) : binV .Pow (.dat (.int 2)) (.dat (.int (w : Int))) K := B_pow (Int.natCast_nonneg _) (by lia) (by decide) (by rw [Int.toNat_natCast]; exact h)
theorem I_item {ns : List Int} {i : Int} {K : Vx → Prop} (h0 : 0 ≤ i) (h1 : i < ns.length) (h2 : ns.length ≤ 1000000) (h : K (.dat (.int (ns.getD i.toNat 0)))) : subV (.list (IL ns)) (.dat (.int i)) K := by
  refine ⟨by lia, by lia, by simp; lia, .int (ns.getD i.toNat 0), ?_, h⟩
  rw [if_neg (by lia), List.getElem?_map, List.getD_eq_getElem?_getD, List.getElem?_eq_getElem (by lia)]
  rfl
theorem I_last {ns : List Int} {K : Vx → Prop} (h1 : 0 < ns.length) (h2 : ns.length ≤ 1000000) (h : K (.dat (.int (ns.getD (ns.length - 1) 0)))) : subV (.list (IL ns)) (.dat (.int (-1))) K := by
  refine ⟨by lia, by lia, by simp; lia, .int (ns.getD (ns.length - 1) 0), ?_, h⟩
  have e : (if (-1 : Int) < 0 then (-1 : Int) + (IL ns).length else -1).toNat = ns.length - 1 := by rw [if_pos (by decide)]; simp; lia
  rw [e, List.getElem?_map, List.getD_eq_getElem?_getD, List.getElem?_eq_getElem (by lia)]
  rfl
theorem I_t0 {a : PyData} {r : List PyData} {K : Vx → Prop} (h : K (.dat a)) : subV (.tuple (a :: r)) (.dat (.int 0)) K := ⟨by decide, by decide, by simp; lia, a, by simp, h⟩
theorem I_t1 {a b : PyData} {r : List PyData} {K : Vx → Prop} (h : K (.dat b)) : subV (.tuple (a :: b :: r)) (.dat (.int 1)) K := ⟨by decide, by decide, by simp; lia, b, by simp, h⟩
theorem I_upto {ns : List Int} {b : Int} {K : Vx → Prop} (h2 : ns.length ≤ 1000000) (h0 : 0 ≤ b) (h1 : b ≤ ns.length) (h : K (.dat (.list (IL (ns.take b.toNat))))) : subV (.list (IL ns)) (.cut none (some b) none) K :=
  ⟨by simpa using h2, h0, by simpa using h1, by rw [← List.map_take]; exact h⟩
theorem I_all {ns : List Int} {K : Vx → Prop} (h2 : ns.length ≤ 1000000) (h : K (.dat (.list (IL ns)))) : subV (.list (IL ns)) (.cut none none none) K := ⟨by simpa using h2, h⟩
theorem I_rev {ns : List Int} {K : Vx → Prop} (h2 : ns.length ≤ 1000000) (h : K (.dat (.list (IL ns.reverse)))) : subV (.list (IL ns)) (.cut none none (some (-1))) K := ⟨by simpa using h2, rfl, by rw [← List.map_reverse]; exact h⟩
theorem I_mid {ns : List Int} {a b : Int} {K : Vx → Prop} (h2 : ns.length ≤ 1000000) (h0 : 0 ≤ a) (h1 : a ≤ b) (h3 : b ≤ ns.length) (h : K (.dat (.list (IL ((ns.drop a.toNat).take (b - a).toNat))))) : subV (.list (IL ns)) (.cut (some a) (some b) none) K :=
  ⟨by simpa using h2, h0, h1, by simpa using h3, by rw [← List.map_drop, ← List.map_take]; exact h⟩
theorem X_lenI {ns : List Int} {K : Vx → Prop} (hl : ns.length ≤ 1000000) (h : K (.dat (.int ns.length))) : lenV (.dat (.list (IL ns))) K := X_len (by simp; lia) (by simpa using h)
theorem E_lenOwnI {C : Ctx} {ρ : Rho} {g x : Str} {q p px : Pos} {Q : Vx → Rho → Prop} {ns : List Int} (e : callee C ρ g = .len) (e0 : got ρ x = some (.own (IL ns))) (hl : ns.length ≤ 1000000) (h : Q (.dat (.int ns.length)) ρ) : wpE C (.Call (.Name g q) [.Name x px] [] p) ρ Q :=
  E_lenOwn e e0 (by simp; lia) (by simpa using h)
/-! ## numbers and their limbs -/
noncomputable def val (B : Int) : List Int → Int
  | [] => 0
  | x :: xs => x + B * val B xs
noncomputable def Rg (B : Int) (ns : List Int) : Prop := ∀ x ∈ ns, 0 ≤ x ∧ x < B
theorem val_append (B : Int) : ∀ (xs ys : List Int), val B (xs ++ ys) = val B xs + B ^ xs.length * val B ys
  | [], ys => by simp [val]
  | x :: xs, ys => by
    rw [List.cons_append, val, val, val_append B xs ys, List.length_cons, Int.pow_succ]; grind
theorem val_snoc (B : Int) (xs : List Int) (x : Int) : val B (xs ++ [x]) = val B xs + x * B ^ xs.length := by
  rw [val_append, val, val]; grind
theorem val_rep (B : Int) : ∀ n, val B (List.replicate n 0) = 0
  | 0 => rfl
  | n + 1 => by rw [List.replicate_succ, val, val_rep B n]; grind
theorem Rg.nil {B : Int} : Rg B [] := fun _ h => by cases h
theorem Rg.cons {B x : Int} {xs : List Int} (h0 : 0 ≤ x) (h1 : x < B) (h : Rg B xs) : Rg B (x :: xs) := fun y hy => by
  rcases List.mem_cons.mp hy with rfl | hy
  · exact ⟨h0, h1⟩
  · exact h y hy
theorem Rg.append {B : Int} {xs ys : List Int} (h : Rg B xs) (h' : Rg B ys) : Rg B (xs ++ ys) := fun y hy => by
  rcases List.mem_append.mp hy with hy | hy
  · exact h y hy
  · exact h' y hy
theorem Rg.snoc {B x : Int} {xs : List Int} (h : Rg B xs) (h0 : 0 ≤ x) (h1 : x < B) : Rg B (xs ++ [x]) := h.append (Rg.nil.cons h0 h1)
theorem Rg.rep {B : Int} (hB : 0 < B) (n : Nat) : Rg B (List.replicate n 0) := fun y hy => by
  rw [(List.mem_replicate.mp hy).2]; exact ⟨Int.le_refl _, hB⟩
theorem Rg.take {B : Int} {xs : List Int} (h : Rg B xs) (n : Nat) : Rg B (xs.take n) := fun y hy => h y (List.mem_of_mem_take hy)
theorem Rg.drop {B : Int} {xs : List Int} (h : Rg B xs) (n : Nat) : Rg B (xs.drop n) := fun y hy => h y (List.mem_of_mem_drop hy)
theorem Rg.set {B x : Int} {xs : List Int} (h : Rg B xs) (n : Nat) (h0 : 0 ≤ x) (h1 : x < B) : Rg B (xs.set n x) := fun y hy => by
  rcases List.mem_or_eq_of_mem_set hy with hy | rfl
  · exact h y hy
  · exact ⟨h0, h1⟩
theorem Rg.getD {B : Int} {xs : List Int} (h : Rg B xs) (hB : 0 < B) (n : Nat) : 0 ≤ xs.getD n 0 ∧ xs.getD n 0 < B := by
  rw [List.getD_eq_getElem?_getD]
  cases e : xs[n]? with
  | none => exact ⟨Int.le_refl _, hB⟩
  | some y => exact h y (List.mem_of_getElem? e)
theorem pow_pos' {B : Int} (hB : 0 < B) (n : Nat) : 0 < B ^ n := Int.pow_pos hB
theorem val_bounds {B : Int} (hB : 0 < B) : ∀ {xs : List Int}, Rg B xs → 0 ≤ val B xs ∧ val B xs < B ^ xs.length
  | [], _ => by simp [val]
  | x :: xs, h => by
    have ih := val_bounds hB (xs := xs) fun y hy => h y (.tail _ hy)
    have hx := h x (.head _)
    rw [val, List.length_cons, Int.pow_succ]
    refine ⟨Int.add_nonneg hx.1 (Int.mul_nonneg (Int.le_of_lt hB) ih.1), ?_⟩
    have h1 : B * (val B xs + 1) ≤ B * B ^ xs.length := Int.mul_le_mul_of_nonneg_left ih.2 (Int.le_of_lt hB)
    grind
theorem val_take_succ {B : Int} : ∀ (ns : List Int) (i : Nat), i < ns.length → val B (ns.take (i + 1)) = val B (ns.take i) + ns.getD i 0 * B ^ i
  | x :: xs, 0, _ => by simp [val]
  | x :: xs, i + 1, h => by
    have ih := val_take_succ (B := B) xs i (by simpa using h)
    rw [List.take_succ_cons, List.take_succ_cons, val, val, ih, List.getD_cons_succ, Int.pow_succ]; grind
theorem val_split (B : Int) (ns : List Int) (k : Nat) (hk : k ≤ ns.length) : val B ns = val B (ns.take k) + B ^ k * val B (ns.drop k) := by
  conv => lhs; rw [← List.take_append_drop k ns]
  rw [val_append, List.length_take, Nat.min_eq_left hk]
theorem val_drop {B : Int} : ∀ (ns : List Int) (i : Nat), i < ns.length → val B (ns.drop i) = ns.getD i 0 + B * val B (ns.drop (i + 1))
  | x :: xs, 0, _ => by simp [val]
  | x :: xs, i + 1, h => by
    have ih := val_drop (B := B) xs i (by simpa using h)
    rw [List.drop_succ_cons, ih, List.drop_succ_cons, List.getD_cons_succ]
theorem val_set {B : Int} : ∀ (ns : List Int) (i : Nat) (x : Int), i < ns.length → val B (ns.set i x) = val B ns + (x - ns.getD i 0) * B ^ i
  | y :: ys, 0, x, _ => by simp [val]; grind
  | y :: ys, i + 1, x, h => by
    have ih := val_set (B := B) ys i x (by simpa using h)
    rw [List.set_cons_succ, val, val, ih, List.getD_cons_succ, Int.pow_succ]; grind
theorem getD_set_self {ns : List Int} {i : Nat} {x : Int} (h : i < ns.length) : (ns.set i x).getD i 0 = x := by
  rw [List.getD_eq_getElem?_getD, List.getElem?_set_self h]; rfl
theorem getD_set_ne {ns : List Int} {i j : Nat} {x : Int} (h : i ≠ j) : (ns.set i x).getD j 0 = ns.getD j 0 := by
  rw [List.getD_eq_getElem?_getD, List.getElem?_set_ne h, List.getD_eq_getElem?_getD]
theorem limbs_dec {w n : Nat} (h : ¬(n = 0 ∨ w = 0)) : n / 2 ^ w < n := Nat.div_lt_self (by lia) (Nat.one_lt_two_pow (by lia))
/-- the limbs of a number -/
noncomputable def limbs (w : Nat) (n : Nat) : List Int := if h : n = 0 ∨ w = 0 then [] else ((n % 2 ^ w : Nat) : Int) :: limbs w (n / 2 ^ w)
  termination_by n
  decreasing_by exact limbs_dec h
theorem limbs_zero (w : Nat) : limbs w 0 = [] := by unfold limbs; simp
theorem limbs_pos {w n : Nat} (hw : 0 < w) (hn : 0 < n) : limbs w n = ((n % 2 ^ w : Nat) : Int) :: limbs w (n / 2 ^ w) := by
  rw [limbs, dif_neg (by lia)]
theorem pw (w : Nat) : ((2 ^ w : Nat) : Int) = 2 ^ w := by rw [Int.natCast_pow]; rfl
theorem two_le_pow {w : Nat} (hw : 0 < w) : 2 ≤ 2 ^ w := Nat.one_lt_two_pow (by lia)
theorem limbs_val {w : Nat} (hw : 0 < w) (n : Nat) : val (2 ^ w) (limbs w n) = n := by
  induction n using Nat.strongRecOn with
  | ind n ih =>
    by_cases h : n = 0
    · subst h; rw [limbs_zero]; rfl
    · rw [limbs_pos hw (by lia), val, ih _ (Nat.div_lt_self (by lia) (two_le_pow hw))]
      have := Nat.mod_add_div n (2 ^ w)
      have e : ((n % 2 ^ w : Nat) : Int) + ((2 ^ w * (n / 2 ^ w) : Nat) : Int) = n := by exact_mod_cast this
      rw [Int.natCast_mul, Int.natCast_pow] at e
      exact e
theorem limbs_rg {w : Nat} (hw : 0 < w) (n : Nat) : Rg (2 ^ w) (limbs w n) := by
  induction n using Nat.strongRecOn with
  | ind n ih =>
    by_cases h : n = 0
    · subst h; rw [limbs_zero]; exact Rg.nil
    · rw [limbs_pos hw (by lia)]
      refine Rg.cons (Int.natCast_nonneg _) ?_ (ih _ (Nat.div_lt_self (by lia) (two_le_pow hw)))
      have h2 : n % 2 ^ w < 2 ^ w := Nat.mod_lt _ (by have := two_le_pow hw; lia)
      have : ((n % 2 ^ w : Nat) : Int) < ((2 ^ w : Nat) : Int) := by exact_mod_cast h2
      rwa [Int.natCast_pow] at this
/-- no nought on top -/
noncomputable def Top (ns : List Int) : Prop := ∀ x, ns.getLast? = some x → x ≠ 0
theorem limbs_top {w : Nat} (hw : 0 < w) (n : Nat) : Top (limbs w n) := by
  induction n using Nat.strongRecOn with
  | ind n ih =>
    by_cases h : n = 0
    · subst h; rw [limbs_zero]; intro x hx; cases hx
    · rw [limbs_pos hw (by lia)]
      intro x hx
      by_cases h2 : n / 2 ^ w = 0
      · rw [h2, limbs_zero] at hx
        have hx : ((n % 2 ^ w : Nat) : Int) = x := by simpa using hx
        have := Nat.mod_add_div n (2 ^ w)
        rw [h2] at this
        lia
      · rw [limbs_pos hw (Nat.pos_of_ne_zero h2), List.getLast?_cons_cons, ← limbs_pos hw (Nat.pos_of_ne_zero h2)] at hx
        exact ih _ (Nat.div_lt_self (by lia) (two_le_pow hw)) x hx
theorem limbs_uniq {w : Nat} (hw : 0 < w) : ∀ {ns : List Int}, Rg (2 ^ w) ns → Top ns → ns = limbs w (val (2 ^ w) ns).toNat
  | [], _, _ => by rw [val]; exact (limbs_zero w).symm
  | x :: xs, h, ht => by
    have hB : (0 : Int) < 2 ^ w := pow_pos' (by decide) w
    have ih := limbs_uniq hw (ns := xs) (fun y hy => h y (.tail _ hy)) (fun y hy => ht y (by
      cases xs with
      | nil => cases hy
      | cons z zs => rw [List.getLast?_cons_cons]; exact hy))
    have hx := h x (.head _)
    have hb := val_bounds hB (xs := xs) fun y hy => h y (.tail _ hy)
    have hne : val (2 ^ w) (x :: xs) ≠ 0 := by
      intro e
      rw [val] at e
      have h1 : 0 ≤ 2 ^ w * val (2 ^ w) xs := Int.mul_nonneg (Int.le_of_lt hB) hb.1
      have hx0 : x = 0 := by lia
      have hv : val (2 ^ w) xs = 0 := by
        rcases Int.mul_eq_zero.mp (show (2 ^ w : Int) * val (2 ^ w) xs = 0 by lia) with h | h
        · lia
        · exact h
      rw [hv] at ih
      have : xs = [] := by rw [ih]; exact limbs_zero w
      subst this
      exact ht x rfl hx0
    have hp : 0 < (val (2 ^ w) (x :: xs)).toNat := by
      have := (val_bounds hB h).1
      lia
    rw [limbs_pos hw hp]
    have e0 : (((val (2 ^ w) (x :: xs)).toNat : Nat) : Int) = x + 2 ^ w * val (2 ^ w) xs := by rw [Int.toNat_of_nonneg (val_bounds hB h).1, val]
    congr 1
    · rw [Int.natCast_emod, pw, e0, Int.add_mul_emod_self_left, Int.emod_eq_of_lt hx.1 hx.2]
    · conv => lhs; rw [ih]
      congr 1
      have : (((val (2 ^ w) (x :: xs)).toNat / 2 ^ w : Nat) : Int) = val (2 ^ w) xs := by
        rw [Int.natCast_ediv, pw, e0, Int.add_mul_ediv_left _ _ (by lia), Int.ediv_eq_zero_of_lt hx.1 hx.2, Int.zero_add]
      lia
/-- big enough for its length: then the limbs of its worth -/
theorem top_of_le {B : Int} (hB : 0 < B) {ns : List Int} (h : Rg B ns) (hl : ns = [] ∨ B ^ (ns.length - 1) ≤ val B ns) : Top ns := by
  rcases hl with rfl | hl
  · intro x hx; cases hx
  · intro x hx e
    subst e
    have hn : ns ≠ [] := by intro e; subst e; cases hx
    have hs : ns = ns.dropLast ++ [0] := by
      have h1 := List.dropLast_concat_getLast hn
      rw [List.getLast?_eq_some_getLast hn] at hx
      rw [Option.some.inj hx] at h1
      exact h1.symm
    have hd : Rg B ns.dropLast := fun y hy => h y (List.dropLast_subset _ hy)
    have := (val_bounds hB hd).2
    rw [hs, val_snoc] at hl
    simp at hl this
    lia
theorem limbs_len_le {w : Nat} (hw : 0 < w) (n : Nat) : ∀ k, n < 2 ^ k → (limbs w n).length ≤ k := by
  induction n using Nat.strongRecOn with
  | ind n ih =>
    intro k hk
    by_cases h : n = 0
    · subst h; rw [limbs_zero]; simp
    · rw [limbs_pos hw (by lia), List.length_cons]
      have hk0 : k ≠ 0 := by intro e; subst e; lia
      obtain ⟨k, rfl⟩ := Nat.exists_eq_succ_of_ne_zero hk0
      have := ih _ (Nat.div_lt_self (by lia) (two_le_pow hw)) k (by
        rw [Nat.pow_succ] at hk
        have h1 : n / 2 ^ w ≤ n / 2 := Nat.div_le_div_left (two_le_pow hw) (by decide)
        lia)
      lia
/-! ## loops by an invariant -/
noncomputable def Nx (KS : Fl → Rho → Prop) (ρ : Rho) : Prop := KS .next ρ
noncomputable def Rt (KS : Fl → Rho → Prop) (v : Vx) (ρ : Rho) : Prop := KS (.ret v) ρ
noncomputable def Bk (KS : Fl → Rho → Prop) (ρ : Rho) : Prop := KS .brk ρ
section
variable {C : Ctx} {R : WpB} {Q : Fl → Rho → Prop}
theorem for_inv {R : WpB} {b : List Stmt} {tgt : Expr} (Inv : Nat → Rho → Prop) (ds : List PyData) (step : ∀ i d ρ, ds[i]? = some d → Inv i ρ → ∀ K : Fl → Rho → Prop, (∀ ρ2, Inv (i + 1) ρ2 → Nx K ρ2) → (∀ v ρ2, Rt Q v ρ2 → Rt K v ρ2) → (∀ ρ2, Nx Q ρ2 → Bk K ρ2) → bindT tgt d ρ fun ρ1 => R b ρ1 K)
    (hQ : ∀ ρ, Inv ds.length ρ → Nx Q ρ) : ∀ (es : List PyData) (i : Nat) (ρ : Rho), ds.drop i = es → i ≤ ds.length → Inv i ρ → wpFor R b tgt es ρ Q
  | [], i, ρ, he, hi, h => by
    have : ds.length ≤ i := by
      have := congrArg List.length he
      simp at this; lia
    have e : i = ds.length := by lia
    subst e
    exact hQ ρ h
  | d :: es, i, ρ, he, hi, h => by
    have hl := congrArg List.length he
    simp only [List.length_drop, List.length_cons] at hl
    have hd : ds[i]? = some d := by
      have : (ds.drop i)[0]? = some d := by rw [he]; rfl
      rwa [List.getElem?_drop, Nat.add_zero] at this
    have he2 : ds.drop (i + 1) = es := by
      rw [← List.drop_drop, he]; rfl
    refine step i d ρ hd h _ (fun ρ2 h2 => ?_) (fun v ρ2 q => q) (fun ρ2 q => q)
    exact for_inv Inv ds step hQ es (i + 1) ρ2 he2 (by lia) h2
theorem for_up {b : List Stmt} {x : Str} {p : Pos} {a : Int} {n : Nat} {ρ : Rho} (Inv : Nat → Rho → Prop) (h0 : Inv 0 ρ) (step : ∀ i ρ, i < n → Inv i ρ → ∀ K : Fl → Rho → Prop, (∀ ρ2, Inv (i + 1) ρ2 → Nx K ρ2) → (∀ v ρ2, Rt Q v ρ2 → Rt K v ρ2) → (∀ ρ2, Nx Q ρ2 → Bk K ρ2) →
    canPut ρ x ∧ wpSs C R b (put ρ x (.val (.dat (.int (a + i))))) K) (hQ : ∀ ρ, Inv n ρ → Nx Q ρ) : wpFor (wpSs C R) b (.Name x p) (rangeL a n 1) ρ Q := by
  have hl : (rangeL a n 1).length = n := by simp [rangeL]
  refine for_inv Inv (rangeL a n 1) (fun i d ρ hd hi K h1 h2 h3 => ?_) (by rw [hl]; exact hQ) _ 0 ρ rfl (Nat.zero_le _) h0
  have hlt : i < n := by
    rw [← hl]; exact (List.getElem?_eq_some_iff.mp hd).1
  have : d = .int (a + i) := by
    unfold rangeL at hd
    rw [List.getElem?_map, List.getElem?_range hlt] at hd
    have := Option.some.inj hd
    rw [← this]; show PyData.int (a + (i : Int) * 1) = _; rw [Int.mul_one]
  subst this
  exact step i ρ hlt hi K h1 h2 h3
theorem for_down {b : List Stmt} {x : Str} {p : Pos} {a : Int} {n : Nat} {ρ : Rho} (Inv : Nat → Rho → Prop) (h0 : Inv 0 ρ) (step : ∀ i ρ, i < n → Inv i ρ → ∀ K : Fl → Rho → Prop, (∀ ρ2, Inv (i + 1) ρ2 → Nx K ρ2) → (∀ v ρ2, Rt Q v ρ2 → Rt K v ρ2) → (∀ ρ2, Nx Q ρ2 → Bk K ρ2) →
    canPut ρ x ∧ wpSs C R b (put ρ x (.val (.dat (.int (a - i))))) K) (hQ : ∀ ρ, Inv n ρ → Nx Q ρ) : wpFor (wpSs C R) b (.Name x p) (rangeL a n (-1)) ρ Q := by
  have hl : (rangeL a n (-1)).length = n := by simp [rangeL]
  refine for_inv Inv (rangeL a n (-1)) (fun i d ρ hd hi K h1 h2 h3 => ?_) (by rw [hl]; exact hQ) _ 0 ρ rfl (Nat.zero_le _) h0
  have hlt : i < n := by
    rw [← hl]; exact (List.getElem?_eq_some_iff.mp hd).1
  have : d = .int (a - i) := by
    unfold rangeL at hd
    rw [List.getElem?_map, List.getElem?_range hlt] at hd
    have := Option.some.inj hd
    rw [← this]; show PyData.int (a + (i : Int) * -1) = _; congr 1; lia
  subst this
  exact step i ρ hlt hi K h1 h2 h3
theorem IL_get {ns : List Int} {i : Nat} {d : PyData} (h : (IL ns)[i]? = some d) : i < ns.length ∧ d = .int (ns.getD i 0) := by
  have hlt : i < ns.length := by
    have := (List.getElem?_eq_some_iff.mp h).1; simpa using this
  refine ⟨hlt, ?_⟩
  rw [List.getElem?_map, List.getElem?_eq_getElem hlt] at h
  rw [List.getD_eq_getElem?_getD, List.getElem?_eq_getElem hlt]
  exact (Option.some.inj h).symm
theorem for_lst {b : List Stmt} {x : Str} {p : Pos} {ns : List Int} {ρ : Rho} (Inv : Nat → Rho → Prop) (h0 : Inv 0 ρ) (step : ∀ i ρ, i < ns.length → Inv i ρ → ∀ K : Fl → Rho → Prop, (∀ ρ2, Inv (i + 1) ρ2 → Nx K ρ2) → (∀ v ρ2, Rt Q v ρ2 → Rt K v ρ2) → (∀ ρ2, Nx Q ρ2 → Bk K ρ2) →
    canPut ρ x ∧ wpSs C R b (put ρ x (.val (.dat (.int (ns.getD i 0))))) K) (hQ : ∀ ρ, Inv ns.length ρ → Nx Q ρ) : wpFor (wpSs C R) b (.Name x p) (IL ns) ρ Q := by
  refine for_inv Inv (IL ns) (fun i d ρ hd hi K h1 h2 h3 => ?_) (by simpa using hQ) _ 0 ρ rfl (Nat.zero_le _) h0
  obtain ⟨hlt, rfl⟩ := IL_get hd
  exact step i ρ hlt hi K h1 h2 h3
theorem for_dat {b : List Stmt} {x : Str} {p : Pos} {ds : List PyData} {ρ : Rho} (Inv : Nat → Rho → Prop) (h0 : Inv 0 ρ) (step : ∀ i d ρ, ds[i]? = some d → Inv i ρ → ∀ K : Fl → Rho → Prop, (∀ ρ2, Inv (i + 1) ρ2 → Nx K ρ2) → (∀ v ρ2, Rt Q v ρ2 → Rt K v ρ2) → (∀ ρ2, Nx Q ρ2 → Bk K ρ2) →
    canPut ρ x ∧ wpSs C R b (put ρ x (.val (.dat d))) K) (hQ : ∀ ρ, Inv ds.length ρ → Nx Q ρ) : wpFor (wpSs C R) b (.Name x p) ds ρ Q :=
  for_inv (R := wpSs C R) (b := b) (tgt := .Name x p) Inv ds (fun i d ρ hd hi K h1 h2 h3 => step i d ρ hd hi K h1 h2 h3) hQ _ 0 ρ rfl (Nat.zero_le _) h0
theorem enumD_length : ∀ (ds : List PyData) (k : Nat), (enumD k ds).length = ds.length
  | [], _ => rfl
  | d :: ds, k => by rw [enumD, List.length_cons, enumD_length ds (k + 1), List.length_cons]
theorem enumD_get : ∀ (ds : List PyData) (k i : Nat), (enumD k ds)[i]? = ds[i]?.map fun d => .tuple [.int ((k + i : Nat) : Int), d]
  | [], _, _ => rfl
  | d :: ds, k, 0 => rfl
  | d :: ds, k, i + 1 => by
    rw [enumD, List.getElem?_cons_succ, enumD_get ds (k + 1) i, List.getElem?_cons_succ]
    congr 1
    funext d
    rw [show k + 1 + i = k + (i + 1) by lia]
theorem for_enum {b : List Stmt} {x y : Str} {p p1 p2 : Pos} {k : Nat} {ns : List Int} {ρ : Rho} (hne : x ≠ y) (Inv : Nat → Rho → Prop) (h0 : Inv 0 ρ) (step : ∀ i ρ, i < ns.length → Inv i ρ → ∀ K : Fl → Rho → Prop, (∀ ρ2, Inv (i + 1) ρ2 → Nx K ρ2) → (∀ v ρ2, Rt Q v ρ2 → Rt K v ρ2) → (∀ ρ2, Nx Q ρ2 → Bk K ρ2) →
    canPut ρ x ∧ canPut ρ y ∧ wpSs C R b (put (put ρ x (.val (.dat (.int i)))) y (.val (.dat (.int (ns.getD i 0))))) K) (hQ : ∀ ρ, Inv ns.length ρ → Nx Q ρ) : wpFor (wpSs C R) b (.Tuple [.Name x p1, .Name y p2] k p) (enumD 0 (IL ns)) ρ Q := by
  have hl : (enumD 0 (IL ns)).length = ns.length := by rw [enumD_length]; simp
  refine for_inv Inv (enumD 0 (IL ns)) (fun i d ρ hd hi K h1 h2 h3 => ?_) (by rw [hl]; exact hQ) _ 0 ρ rfl (Nat.zero_le _) h0
  rw [enumD_get, Nat.zero_add] at hd
  cases e : (IL ns)[i]? with
  | none => rw [e] at hd; cases hd
  | some d' =>
    rw [e] at hd
    obtain ⟨hlt, rfl⟩ := IL_get e
    have := Option.some.inj hd
    subst this
    obtain ⟨a1, a2, a3⟩ := step i ρ hlt hi K h1 h2 h3
    exact ⟨_, _, rfl, hne, a1, a2, a3⟩
theorem while_inv {R : WpB} {t : Expr} {b : List Stmt} {ρ : Rho} (Inv : Nat → Rho → Prop) (n0 : Nat) (h0 : Inv n0 ρ) (step : ∀ n ρ, Inv n ρ → ∀ K : Fl → Rho → Prop, (∀ m ρ2, m < n → Inv m ρ2 → Nx K ρ2) → (∀ v ρ2, Rt Q v ρ2 → Rt K v ρ2) → wpT C t ρ fun c ρ1 => (c = false → Nx Q ρ1) ∧ (c = true → R b ρ1 K)) : ∃ n, wpWh C R t b n ρ Q := by
  have : ∀ N n ρ, n < N → Inv n ρ → wpWh C R t b N ρ Q := by
    intro N
    induction N with
    | zero => intro n ρ h; lia
    | succ N ih =>
      intro n ρ hn h
      exact step n ρ h _ (fun m ρ2 hm h2 => ih m ρ2 (by lia) h2) (fun v ρ2 q => q)
  exact ⟨n0 + 1, this _ n0 ρ (by lia) h0⟩
end
theorem brF {P Q : Prop} (h : Q) : (false = false → Q) ∧ (false = true → P) := ⟨fun _ => h, fun e => by cases e⟩
theorem brT {P Q : Prop} (h : P) : (true = false → Q) ∧ (true = true → P) := ⟨fun e => (by cases e), fun _ => h⟩
theorem brF' {P Q : Prop} (h : Q) : (false = true → P) ∧ (false = false → Q) := ⟨fun e => (by cases e), fun _ => h⟩
theorem brT' {P Q : Prop} (h : P) : (true = true → P) ∧ (true = false → Q) := ⟨fun _ => h, fun e => by cases e⟩
theorem vne {v : Vx} : Slot.val v ≠ .glob := fun q => by cases q
theorem une : Slot.unset ≠ .glob := fun q => by cases q
theorem U_not' {C : Ctx} {e : Expr} {ρ : Rho} {Q : Vx → Rho → Prop} (h : wpE C e ρ fun a ρ1 => ∃ b, a = .dat (.bool b) ∧ Q (.dat (.bool (!b))) ρ1) : wpE C e ρ fun a ρ1 => unV .Not a fun v => Q v ρ1 := by
  have e : (fun (a : Vx) (ρ1 : Rho) => unV .Not a fun v => Q v ρ1) = fun a ρ1 => ∃ b, a = .dat (.bool b) ∧ Q (.dat (.bool (!b))) ρ1 := by
    funext a ρ1; exact propext ⟨fun h => (by rcases h with h | h; cases h.1; exact h.2), fun h => Or.inr ⟨rfl, h⟩⟩
  rw [e]; exact h
theorem okI_of {a : Int} (h1 : -(2 ^ 60) ≤ a) (h2 : a ≤ 2 ^ 60) : okI a := ⟨h1, h2⟩
theorem R_step {C : Ctx} {k : Nat} {b : List Stmt} {ρ : Rho} {K : Fl → Rho → Prop} (h : wpSs C (wpR C k) b ρ K) : wpR C (k + 1) b ρ K := h
theorem Q_next {Q : Fl → Rho → Prop} {ρ : Rho} (h : Nx Q ρ) : Q .next ρ := h
/-! ## the way on, wrapped -/
noncomputable def seqK (C : Ctx) (R : WpB) (rest : List Stmt) (KS : Fl → Rho → Prop) : Fl → Rho → Prop := fun fl ρ1 => match fl with
  | .next => wpSs C R rest ρ1 KS
  | fl => KS fl ρ1
section
variable {C : Ctx} {R : WpB} {ρ ρ2 : Rho} {x g : Str} {p q : Pos} {KS : Fl → Rho → Prop}
theorem Z_cons {st : Stmt} {rest : List Stmt} (h : wpS C R st ρ (seqK C R rest KS)) : wpSs C R (st :: rest) ρ KS := S_cons h
theorem Z_nil (h : Nx KS ρ) : wpSs C R [] ρ KS := S_nil h
theorem N_seq {rest : List Stmt} (h : wpSs C R rest ρ KS) : Nx (seqK C R rest KS) ρ := h
theorem R_seq {rest : List Stmt} {v : Vx} (h : Rt KS v ρ) : Rt (seqK C R rest KS) v ρ := h
theorem K_seq {rest : List Stmt} (h : Bk KS ρ) : Bk (seqK C R rest KS) ρ := h
theorem R_is {r v : Vx} (h : v = r) : Rt (fun fl (_ : Rho) => retIs r fl) v ρ := by
  unfold Rt retIs; exact h
theorem M_is {y : Str} {ys : List PyData} {r v : Vx} (h : v = r) (e : got ρ y = some (.own ys)) : Rt (fun fl (ρ : Rho) => retIs r fl ∧ got ρ y = some (.own ys)) v ρ := by
  unfold Rt retIs; exact ⟨h, e⟩
theorem M_no {y : Str} {ys : List PyData} (e : got ρ y = some (.own ys)) : Nx (fun fl (ρ : Rho) => retIs (.dat .none) fl ∧ got ρ y = some (.own ys)) ρ := by
  unfold Nx retIs; exact ⟨rfl, e⟩
theorem Z_ret {e : Expr} (h : wpE C e ρ fun v ρ1 => Rt KS v ρ1) : wpS C R (.Return (some e) p) ρ KS := S_ret h
theorem Z_brk (h : Bk KS ρ) : wpS C R (.Break p) ρ KS := S_brk h
theorem Z_asg {e : Expr} {px : Pos} (h : wpF C e ρ fun s ρ1 => canPut ρ1 x ∧ x ≠ C.px ∧ Nx KS (put ρ1 x s)) : wpS C R (.Assign [.Name x px] e p) ρ KS := S_asg h
theorem Z_put {s : Slot} (h1 : canPut ρ x) (h2 : x ≠ C.px) (e : put ρ x s = ρ2) (h : Nx KS ρ2) : canPut ρ x ∧ x ≠ C.px ∧ Nx KS (put ρ x s) := ⟨h1, h2, by rw [e]; exact h⟩
theorem Z_putL {ns : List Int} (h1 : canPut ρ x) (h2 : x ≠ C.px) (e : put ρ x (.own (IL ns)) = ρ2) (h : Nx KS ρ2) : canPut ρ x ∧ x ≠ C.px ∧ Nx KS (put ρ x (slotOf (.dat (.list (IL ns))))) := ⟨h1, h2, by
  have : put ρ x (slotOf (.dat (.list (IL ns)))) = ρ2 := e
  rw [this]; exact h⟩
theorem Z_putI {i : Int} (h1 : canPut ρ x) (h2 : x ≠ C.px) (e : put ρ x (.val (.dat (.int i))) = ρ2) (h : Nx KS ρ2) : canPut ρ x ∧ x ≠ C.px ∧ Nx KS (put ρ x (slotOf (.dat (.int i)))) := ⟨h1, h2, by
  have : put ρ x (slotOf (.dat (.int i))) = ρ2 := e
  rw [this]; exact h⟩
theorem Z_putE (h1 : canPut ρ x) (h2 : x ≠ C.px) (e : put ρ x (.own (IL [])) = ρ2) (h : Nx KS ρ2) : canPut ρ x ∧ x ≠ C.px ∧ Nx KS (put ρ x (.own [])) := ⟨h1, h2, by
  have : put ρ x (.own []) = ρ2 := e
  rw [this]; exact h⟩
/-- what a tuple's targets are given -/
noncomputable def TupK (KS : Fl → Rho → Prop) (C : Ctx) (ns : List Expr) (s0 : Slot) (vs : List Vx) (ρ2 : Rho) : Prop := ∃ y ys, namesOf ns = some (y :: ys) ∧ ys.length = vs.length ∧ vs.length ≤ 1000 ∧ (y :: ys).Nodup ∧ y ≠ C.px ∧ (∀ x ∈ y :: ys, canPut ρ2 x) ∧
          (dats vs).isSome = true ∧ Nx KS (putAll (put ρ2 y s0) ys vs)
theorem Z_tup {e0 : Expr} {es ns : List Expr} {k k2 : Nat} {p2 p3 : Pos} (h1 : (e0 :: es).all (constantsAlone 8) = false) (h2 : (namesOf ns).isSome = true)
    (h : wpF C e0 ρ fun s0 ρ1 => wpEs C es ρ1 fun vs ρ2 => TupK KS C ns s0 vs ρ2) : wpS C R (.Assign [.Tuple ns k p2] (.Tuple (e0 :: es) k2 p3) p) ρ KS := S_tup h1 h2 h
theorem Z_tupK {ns : List Expr} {vs : List Vx} {s0 : Slot} {y : Str} {ys : List Str} (h1 : namesOf ns = some (y :: ys)) (h2 : ys.length = vs.length) (h3 : vs.length ≤ 1000) (h4 : (y :: ys).Nodup) (h5 : y ≠ C.px) (h6 : ∀ x ∈ y :: ys, canPut ρ x) (h7 : (dats vs).isSome = true)
    (e : putAll (put ρ y s0) ys vs = ρ2) (h : Nx KS ρ2) : TupK KS C ns s0 vs ρ := X_tup h1 h2 h3 h4 h5 h6 h7 e h
noncomputable def TupV (KS : Fl → Rho → Prop) (ns : List Expr) (v : Vx) (ρ1 : Rho) : Prop := ∃ ds ys, v = .dat (.tuple ds) ∧ namesOf ns = some ys ∧ ys.length = ds.length ∧ ys.Nodup ∧ (∀ x ∈ ys, canPut ρ1 x) ∧ Nx KS (putAll ρ1 ys (ds.map .dat))
theorem Z_tupV {e : Expr} {ns : List Expr} {k : Nat} {p2 : Pos} (hn : noTup e = true) (h : wpE C e ρ fun v ρ1 => TupV KS ns v ρ1) : wpS C R (.Assign [.Tuple ns k p2] e p) ρ KS := S_tupV hn h
theorem Z_tupVK {ns : List Expr} {ds : List PyData} {ys : List Str} (h1 : namesOf ns = some ys) (h2 : ys.length = ds.length) (h4 : ys.Nodup) (h6 : ∀ x ∈ ys, canPut ρ x)
    (e : putAll ρ ys (ds.map .dat) = ρ2) (h : Nx KS ρ2) : TupV KS ns (.dat (.tuple ds)) ρ := X_tupV h1 h2 h4 h6 e h
noncomputable def HasK (ρ : Rho) (x : Str) (P : Prop) : Prop := (∃ ys, got ρ x = some (.own ys)) ∧ P
noncomputable def SetK (KS : Fl → Rho → Prop) (x : Str) (v k : Vx) (ρ2 : Rho) : Prop := ∃ xs d j, got ρ2 x = some (.own xs) ∧ v = .dat d ∧ k = .dat (.int j) ∧ 0 ≤ j ∧ j < xs.length ∧ j < 2 ^ 62 ∧ Nx KS (put ρ2 x (.own (xs.set j.toNat d)))
theorem Z_set {e i : Expr} {px p2 : Pos} (h : wpE C e ρ fun v ρ1 => HasK ρ1 x (wpE C i ρ1 fun k ρ2 => SetK KS x v k ρ2)) : wpS C R (.Assign [.Subscript (.Name x px) i p2] e p) ρ KS := S_set h
theorem Z_has {xs : List PyData} {P : Prop} (e : got ρ x = some (.own xs)) (h : P) : HasK ρ x P := ⟨⟨xs, e⟩, h⟩
theorem Z_setK {ns : List Int} {i j : Int} (e : got ρ x = some (.own (IL ns))) (h0 : 0 ≤ j) (h1 : j < ns.length) (h2 : ns.length ≤ 1000000) (e2 : put ρ x (.own (IL (ns.set j.toNat i))) = ρ2) (h : Nx KS ρ2) : SetK KS x (.dat (.int i)) (.dat (.int j)) ρ :=
  ⟨IL ns, .int i, j, e, rfl, rfl, h0, by simpa using h1, by lia, by
    have : put ρ x (.own ((IL ns).set j.toNat (.int i))) = ρ2 := by rw [← e2]; simp [List.map_set]
    rw [this]; exact h⟩
noncomputable def AugK (KS : Fl → Rho → Prop) (x : Str) (k : Vx) (ρ1 : Rho) : Prop := canPut ρ1 x ∧ asInt k fun k => Nx KS (put ρ1 x (.val (.dat (.int k))))
theorem Z_aug {e : Expr} {op : Operator} {px : Pos} {i : Int} (e0 : got ρ x = some (.val (.dat (.int i)))) (ho : op ≠ .LShift ∧ op ≠ .FloorDiv ∧ op ≠ .BitAnd ∧ op ≠ .Mult ∧ op ≠ .Pow)
    (h : wpE C e ρ fun v ρ1 => asInt v fun b => binV op (.dat (.int i)) (.dat (.int b)) fun k => AugK KS x k ρ1) : wpS C R (.AugAssign (.Name x px) op e p) ρ KS := S_aug e0 ho h
theorem Z_augK {i : Int} (h1 : canPut ρ x) (e : put ρ x (.val (.dat (.int i))) = ρ2) (h : Nx KS ρ2) : AugK KS x (.dat (.int i)) ρ := X_aug h1 e h
noncomputable def AppK (KS : Fl → Rho → Prop) (x : Str) (v : Vx) (ρ1 : Rho) : Prop := ∃ xs d, got ρ1 x = some (.own xs) ∧ v = .dat d ∧ xs.length ≤ 1000000 ∧ Nx KS (put ρ1 x (.own (xs ++ [d])))
theorem Z_app {a : Expr} {nm : Str} {xp apos pc : Pos} {ys : List PyData} (hm : MethOk (.Name x xp) nm apos [a] pc) (hn : nm = Str.ofString "append") (e : got ρ x = some (.own ys))
    (h : wpE C a ρ fun v ρ1 => AppK KS x v ρ1) : wpS C R (.Expr (.Call (.Attribute (.Name x xp) nm apos) [a] [] pc) p) ρ KS := S_app hm hn e h
theorem Z_appK {ns : List Int} {i : Int} (e : got ρ x = some (.own (IL ns))) (hl : ns.length ≤ 1000000) (e2 : put ρ x (.own (IL (ns ++ [i]))) = ρ2) (h : Nx KS ρ2) : AppK KS x (.dat (.int i)) ρ :=
  ⟨IL ns, .int i, e, rfl, by simpa using hl, by
    have : put ρ x (.own (IL ns ++ [.int i])) = ρ2 := by rw [← e2]; simp
    rw [this]; exact h⟩
theorem Z_expr {f : Str} {pf : Pos} {args : List Expr} {pc : Pos} (h : wpE C (.Call (.Name f pf) args [] pc) ρ fun _ ρ1 => Nx KS ρ1) : wpS C R (.Expr (.Call (.Name f pf) args [] pc) p) ρ KS := S_expr h
noncomputable def MutK (S : SpecM) (Q : Vx → Rho → Prop) (x : Str) (vs : List Vx) (ρ1 : Rho) : Prop := ∃ xs r ys, got ρ1 x = some (.own xs) ∧ S xs vs r ys ∧ Q r (put ρ1 x (.own ys))
theorem Z_mut {S : SpecM} {Q : Vx → Rho → Prop} {rest : List Expr} {xs0 : List PyData} {px : Pos} (e : callee C ρ g = .mut S) (e0 : got ρ x = some (.own xs0)) (h : wpEs C rest ρ fun vs ρ1 => MutK S Q x vs ρ1) : wpE C (.Call (.Name g q) (.Name x px :: rest) [] p) ρ Q := E_mut e e0 h
theorem Z_mutK {S : SpecM} {Q : Vx → Rho → Prop} {vs : List Vx} {xs ys : List PyData} {r : Vx} (e : got ρ x = some (.own xs)) (hS : S xs vs r ys) (e2 : put ρ x (.own ys) = ρ2) (h : Q r ρ2) : MutK S Q x vs ρ := X_mut e hS e2 h
noncomputable def UseK (S : SpecF) (Q : Vx → Rho → Prop) (vs : List Vx) (ρ1 : Rho) : Prop := ∃ r, S vs r ∧ Q r ρ1
theorem Z_user {S : SpecF} {Q : Vx → Rho → Prop} {args : List Expr} (e : callee C ρ g = .user S) (hne : args ≠ []) (h : wpEs C args ρ fun vs ρ1 => UseK S Q vs ρ1) : wpE C (.Call (.Name g q) args [] p) ρ Q := E_user e hne h
theorem Z_useK {S : SpecF} {Q : Vx → Rho → Prop} {vs : List Vx} {r : Vx} (h : S vs r) (hq : Q r ρ) : UseK S Q vs ρ := ⟨r, h, hq⟩
/-- a user's call of a pure thing, left to hand -/
noncomputable def ForK (R : WpB) (b : List Stmt) (tgt : Expr) (xs : List PyData) (ρ : Rho) (KS : Fl → Rho → Prop) : Prop := wpFor R b tgt xs ρ KS
theorem Z_turn {b : List Stmt} {s : Slot} (h1 : canPut ρ x) (e : put ρ x s = ρ2) (h : wpSs C R b ρ2 KS) : canPut ρ x ∧ wpSs C R b (put ρ x s) KS := ⟨h1, by rw [e]; exact h⟩
theorem Z_turn2 {b : List Stmt} {y : Str} {s t : Slot} {ρ1 : Rho} (h1 : canPut ρ x) (h2 : canPut ρ y) (e1 : put ρ x s = ρ1) (e : put ρ1 y t = ρ2) (h : wpSs C R b ρ2 KS) : canPut ρ x ∧ canPut ρ y ∧ wpSs C R b (put (put ρ x s) y t) KS := ⟨h1, h2, by rw [e1, e]; exact h⟩
theorem Z_eq {v : Vx} {P : List PyData → Prop} {xs : List PyData} (e : v = .dat (.list xs)) (h : P xs) : ∃ xs, v = .dat (.list xs) ∧ P xs := ⟨xs, e, h⟩
end
theorem B_repI {b i : Int} {K : Vx → Prop} (h0 : 0 ≤ b) (h1 : b ≤ 1000000) (h : K (.dat (.list (IL (List.replicate b.toNat i))))) : binV .Mult (.dat (.list [.int i])) (.dat (.int b)) K := B_rep h0 h1 (by simpa using h)
theorem B_catI {xs ys : List Int} {K : Vx → Prop} (h1 : xs.length + ys.length ≤ 1000000) (h : K (.dat (.list (IL (xs ++ ys))))) : binV .Add (.dat (.list (IL xs))) (.dat (.list (IL ys))) K := B_cat (by simpa using h1) (by simpa using h)
theorem U_neg' {C : Ctx} {e : Expr} {ρ : Rho} {Q : Vx → Rho → Prop} (h : wpE C e ρ fun a ρ1 => asInt a fun i => Q (.dat (.int (-i))) ρ1) : wpE C e ρ fun a ρ1 => unV .USub a fun v => Q v ρ1 := by
  have e : (fun (a : Vx) (ρ1 : Rho) => unV .USub a fun v => Q v ρ1) = fun a ρ1 => asInt a fun i => Q (.dat (.int (-i))) ρ1 := by
    funext a ρ1; exact propext ⟨fun h => (by rcases h with h | h; exact h.2; cases h.1), fun h => Or.inl ⟨rfl, h⟩⟩
  rw [e]; exact h
theorem B_shlN {a : Int} {w : Nat} {K : Vx → Prop} (hw : w ≤ 1000) (h3 : a.natAbs < 2 ^ 64) (h : K (.dat (.int (a * 2 ^ w)))) : binV .LShift (.dat (.int a)) (.dat (.int (w : Int))) K := B_shl (Int.natCast_nonneg _) (by lia) h3 (by rw [Int.toNat_natCast]; exact h)
noncomputable abbrev vI (i : Int) : Slot := .val (.dat (.int i))
noncomputable abbrev vL (ns : List Int) : Slot := .val (.dat (.list (IL ns)))
noncomputable abbrev oL (ns : List Int) : Slot := .own (IL ns)
noncomputable abbrev dL (ns : List Int) : Vx := .dat (.list (IL ns))
noncomputable abbrev dN (w n : Nat) : Vx := dL (limbs w n)
noncomputable abbrev Num (n : Nat) : Prop := n < 2 ^ 20000
theorem len_le {w n : Nat} (hw : 0 < w) (h : Num n) : (limbs w n).length ≤ 20000 := limbs_len_le hw n _ h
noncomputable abbrev C0 : Ctx := ⟨Str.ofString "", [], []⟩
/-- normal -/
inductive SNormal : SpecF
  | mk (w : Nat) (ns : List Int) : 0 < w → Rg (2 ^ w) ns → ns.length ≤ 100000 → SNormal [dL ns] (dL (limbs w (val (2 ^ w) ns).toNat))
theorem take_limbs {w : Nat} (hw : 0 < w) {ns : List Int} (hr : Rg (2 ^ w) ns) {n : Nat} (hn : n ≤ ns.length) (hv : val (2 ^ w) (ns.take n) = val (2 ^ w) ns) (h0 : n = 0 ∨ ns.getD (n - 1) 0 ≠ 0) : ns.take n = limbs w (val (2 ^ w) ns).toNat := by
  rw [← hv]
  refine limbs_uniq hw (hr.take n) ?_
  intro x hx
  rcases Nat.eq_zero_or_pos n with e | hp
  · subst e; cases hx
  · rcases h0 with e | h0
    · lia
    · rw [List.getLast?_eq_getElem?, List.length_take, Nat.min_eq_left hn, List.getElem?_take_of_lt (by lia)] at hx
      rw [List.getD_eq_getElem?_getD, hx] at h0
      exact h0
theorem w_normal (ds r) (h : SNormal ds r) : ds.length = 1 ∧ wpSs C0 (wpR C0 2) (recI 4).body (putPs (base0 (recI 4).scope.names) ([Str.ofString "a"].zip ds)) fun fl _ => retIs r fl := by
  obtain ⟨w, ns, hw, hr, hl⟩ := h
  refine ⟨rfl, ?_⟩
  rw [show (recI 4).scope.names = [(Str.ofString "a", .local), (Str.ofString "end", .local), (Str.ofString "len", .globalImplicit)] from rfl]
  simp only [base0, putPs, put, List.foldl_cons, List.foldl_nil, List.zip_cons_cons, List.zip_nil_right, List.zip_nil_left, ofString_beq, String.reduceBEq, Bool.false_eq_true, if_false, if_true, beq_self_eq_true]
  conv => arg 3; whnf
  repeat' first | (first | with_reducible refine' Z_cons ?_ | with_reducible refine' N_seq ?_ | ((with_reducible refine' E_val ?h ?_); (case h => exact rfl)) | ((with_reducible refine' E_len ?h ?g ?_); (case h => exact rfl); (case g => exact rfl)) | with_reducible refine' X_lenI ?_ ?_ | ((with_reducible refine' Z_put ?h1 ?h2 ?h3 ?_); (case h1 => (first | exact ofString_ne (by decide) | (refine' canPut_of (s := _) ?h (fun q => ?g); (case h => exact rfl); (case g => first | (cases q; done) | exact absurd q (by assumption))) | assumption)); (case h2 => (first | exact ofString_ne (by decide) | (refine' canPut_of (s := _) ?h (fun q => ?g); (case h => exact rfl); (case g => first | (cases q; done) | exact absurd q (by assumption))) | assumption)); (case h3 => exact rfl)) | with_reducible refine' Z_asg ?_ | ((with_reducible refine' F_val ?r1 ?_); (case r1 => rfl)) | with_reducible refine' S_while ?_) | lia
  refine while_inv (fun n ρ => ρ = [(Str.ofString "a", vL ns), (Str.ofString "end", vI n), (Str.ofString "len", .glob)] ∧ n ≤ ns.length ∧ val (2 ^ w) (ns.take n) = val (2 ^ w) ns) ns.length ⟨rfl, Nat.le_refl _, by rw [List.take_length]⟩ ?_
  rintro n _ ⟨rfl, hn, hv⟩ K hK hR
  repeat' first | (first | with_reducible refine' Z_cons ?_ | with_reducible refine' N_seq ?_ | with_reducible refine' R_seq ?_ | with_reducible refine' R_is ?_ | with_reducible refine' Z_nil ?_ | ((with_reducible refine' E_val ?h ?_); (case h => exact rfl)) | with_reducible refine' E_int ?_ | with_reducible refine' E_bin ?_ | with_reducible refine' X_dat ?_ | ((with_reducible refine' E_subVal ?h ?_); (case h => exact rfl)) | with_reducible refine' E_slice ?_ | with_reducible refine' O_none ?_ | with_reducible refine' O_some ?_ | with_reducible refine' O_int ?_ | ((with_reducible refine' Z_augK ?h1 ?h3 ?_); (case h1 => (first | exact ofString_ne (by decide) | (refine' canPut_of (s := _) ?h (fun q => ?g); (case h => exact rfl); (case g => first | (cases q; done) | exact absurd q (by assumption))) | assumption)); (case h3 => exact rfl)) | with_reducible refine' X_asInt ?_ | with_reducible refine' B_sub ?_ | with_reducible refine' I_item ?_ ?_ ?_ ?_ | with_reducible refine' I_upto ?_ ?_ ?_ ?_ | with_reducible refine' C_gt ?_ | with_reducible refine' C_eq ?_ | ((with_reducible refine' brN ?_ ?_) <;> intro _) | with_reducible refine' brF ?_ | with_reducible refine' brT ?_ | with_reducible refine' R_step ?_ | with_reducible refine' T_bool ?_ | ((with_reducible refine' T_cmp ?r1 ?_); (case r1 => rfl)) | with_reducible refine' Ts_nilA ?_ | with_reducible refine' Ts_and ?_ | with_reducible refine' Z_ret ?_ | ((with_reducible refine' Z_aug ?h ?g ?_); (case h => exact rfl); (case g => decide))) | lia
  · rename_i h1 h2
    refine hK (n - 1) _ (by lia) ⟨by rw [show ((n - 1 : Nat) : Int) = n - 1 by lia]; rfl, by lia, ?_⟩
    have := val_take_succ (B := 2 ^ w) ns (n - 1) (by lia)
    rw [show n - 1 + 1 = n by lia, show ns.getD (n - 1) 0 = 0 by rw [← h2]; congr 1; lia] at this
    rw [← hv, this]; lia
  · rename_i h1 h2
    rw [Int.toNat_natCast, take_limbs hw hr hn hv (.inr (fun e => h2 (by rw [← e]; congr 1; lia)))]
  · rename_i h1
    rw [Int.toNat_natCast, take_limbs hw hr hn hv (.inl (by lia))]
/-- compare -/
theorem top_le {B : Int} (hB : 0 < B) {ns : List Int} (h : Rg B ns) (ht : Top ns) (hne : ns ≠ []) : B ^ (ns.length - 1) ≤ val B ns := by
  have hs := List.dropLast_concat_getLast hne
  have hd : Rg B ns.dropLast := fun y hy => h y (List.dropLast_subset _ hy)
  have hb := (val_bounds hB hd).1
  have hl := h (ns.getLast hne) (List.getLast_mem hne)
  have h0 := ht _ (List.getLast?_eq_some_getLast hne)
  have e : val B ns = val B ns.dropLast + ns.getLast hne * B ^ ns.dropLast.length := by
    conv => lhs; rw [← hs]
    exact val_snoc B _ _
  rw [e, List.length_dropLast]
  have hp := pow_pos' hB (ns.length - 1)
  have : 1 * B ^ (ns.length - 1) ≤ ns.getLast hne * B ^ (ns.length - 1) := Int.mul_le_mul_of_nonneg_right (by lia) (Int.le_of_lt hp)
  lia
theorem pow_le' {B : Int} (hB : 0 < B) {m n : Nat} (h : m ≤ n) : B ^ m ≤ B ^ n := by
  obtain ⟨k, rfl⟩ := Nat.exists_eq_add_of_le h
  rw [Int.pow_add]
  have h1 := pow_pos' hB m
  have h2 := pow_pos' hB k
  have : B ^ m * 1 ≤ B ^ m * B ^ k := Int.mul_le_mul_of_nonneg_left h2 (Int.le_of_lt h1)
  lia
theorem len_lt {w x y : Nat} (hw : 0 < w) (h : (limbs w x).length < (limbs w y).length) : x < y := by
  have hB : (0 : Int) < 2 ^ w := pow_pos' (by decide) w
  have h1 := (val_bounds hB (limbs_rg hw x)).2
  have h2 := top_le hB (limbs_rg hw y) (limbs_top hw y) (by intro e; rw [e] at h; simp at h)
  have h3 := pow_le' hB (show (limbs w x).length ≤ (limbs w y).length - 1 by lia)
  rw [limbs_val hw] at h1 h2
  lia
theorem at_lt {B : Int} (hB : 0 < B) {a b : List Int} (ha : Rg B a) (hb : Rg B b) (hl : a.length = b.length) {j : Nat} (hj : j < a.length) (hd : a.drop (j + 1) = b.drop (j + 1)) (h : a.getD j 0 < b.getD j 0) : val B a < val B b := by
  have h1 := val_split B a (j + 1) (by lia)
  have h2 := val_split B b (j + 1) (by lia)
  have h3 := val_take_succ (B := B) a j hj
  have h4 := val_take_succ (B := B) b j (by lia)
  have h5 := (val_bounds hB (ha.take j)).2
  have h6 := (val_bounds hB (hb.take j)).1
  rw [List.length_take, Nat.min_eq_left (by lia)] at h5
  have hp := pow_pos' hB j
  have : (a.getD j 0 + 1) * B ^ j ≤ b.getD j 0 * B ^ j := Int.mul_le_mul_of_nonneg_right (by lia) (Int.le_of_lt hp)
  rw [h1, h2, h3, h4, hd]
  grind
noncomputable def sgn (x y : Nat) : Int := if x < y then -1 else if y < x then 1 else 0
inductive SCompare : SpecF
  | mk (w x y : Nat) : 0 < w → Num x → Num y → SCompare [dN w x, dN w y] (vInt (sgn x y))
theorem w_compare (ds r) (h : SCompare ds r) : ds.length = 2 ∧ wpSs C0 (wpR C0 2) (recI 5).body (putPs (base0 (recI 5).scope.names) ([Str.ofString "a", Str.ofString "b"].zip ds)) fun fl _ => retIs r fl := by
  obtain ⟨w, x, y, hw, hx, hy⟩ := h
  refine ⟨rfl, ?_⟩
  rw [show (recI 5).scope.names = [(Str.ofString "a", .local), (Str.ofString "b", .local), (Str.ofString "at", .local), (Str.ofString "len", .globalImplicit), (Str.ofString "range", .globalImplicit)] from rfl]
  simp only [base0, putPs, put, List.foldl_cons, List.foldl_nil, List.zip_cons_cons, List.zip_nil_right, List.zip_nil_left, ofString_beq, String.reduceBEq, Bool.false_eq_true, if_false, if_true, beq_self_eq_true]
  conv => arg 3; whnf
  have hlx := len_le hw hx
  have hly := len_le hw hy
  repeat' first | (first | with_reducible refine' Z_cons ?_ | with_reducible refine' N_seq ?_ | with_reducible refine' R_seq ?_ | with_reducible refine' R_is ?_ | with_reducible refine' Z_nil ?_ | ((with_reducible refine' E_val ?h ?_); (case h => exact rfl)) | with_reducible refine' E_int ?_ | with_reducible refine' E_bin ?_ | ((with_reducible refine' E_len ?h ?g ?_); (case h => exact rfl); (case g => exact rfl)) | with_reducible refine' X_lenI ?_ ?_ | with_reducible refine' Es_nil ?_ | with_reducible refine' Es_cons ?_ | with_reducible refine' E_if ?_ | ((with_reducible refine' E_neg (U_neg' ?_))) | with_reducible refine' X_asInt ?_ | with_reducible refine' B_sub ?_ | with_reducible refine' C_lt ?_ | with_reducible refine' C_ne ?_ | ((with_reducible refine' br ?_ ?_) <;> intro _) | ((with_reducible refine' okI_of ?_ ?_) <;> lia) | ((with_reducible refine' T_cmp ?r1 ?_); (case r1 => rfl)) | with_reducible refine' Z_ret ?_ | with_reducible refine' S_if ?_ | ((with_reducible refine' S_range ?h ?r1 ?g ?r2 ?_); (case h => exact rfl); (case g => exact fun q => by cases q); (case r1 => rfl); (case r2 => rfl)) | with_reducible refine' X_r3 ?_ ?_ ?_) | lia
  · rename_i h1 h2
    rw [sgn, if_pos (len_lt hw (by lia))]
  · rename_i h1 h2
    have := len_lt (x := y) (y := x) hw (by lia)
    rw [sgn, if_neg (by lia), if_pos this]
  rename_i hlen
  refine for_down (fun i ρ => (∃ t, ρ = [(Str.ofString "a", .val (dN w x)), (Str.ofString "b", .val (dN w y)), (Str.ofString "at", t), (Str.ofString "len", .glob), (Str.ofString "range", .glob)] ∧ t ≠ .glob) ∧ (limbs w x).drop ((limbs w x).length - i) = (limbs w y).drop ((limbs w x).length - i)) ⟨⟨_, rfl, by intro q; cases q⟩, ?_⟩ ?_ ?_
  · rw [Nat.sub_zero, List.drop_length, List.drop_of_length_le (by lia)]
  · rintro i _ hi ⟨⟨t, rfl, ht⟩, hd⟩ K hK hR hBk
    obtain ⟨j, hj⟩ : ∃ j : Nat, (limbs w x).length = j + 1 + i := ⟨(limbs w x).length - 1 - i, by lia⟩
    have hB : (0 : Int) < 2 ^ w := pow_pos' (by decide) w
    have ej : ((limbs w x).length - 1 - (i : Int)).toNat = j := by lia
    have hd' : (limbs w x).drop (j + 1) = (limbs w y).drop (j + 1) := by rw [show (limbs w x).length - i = j + 1 by lia] at hd; exact hd
    repeat' first | (first | with_reducible refine' Z_cons ?_ | with_reducible refine' N_seq ?_ | with_reducible refine' R_seq ?_ | with_reducible refine' Z_nil ?_ | ((with_reducible refine' E_val ?h ?_); (case h => exact rfl)) | with_reducible refine' E_int ?_ | with_reducible refine' X_dat ?_ | ((with_reducible refine' E_subVal ?h ?_); (case h => exact rfl)) | with_reducible refine' E_if ?_ | ((with_reducible refine' E_neg (U_neg' ?_))) | with_reducible refine' X_asInt ?_ | with_reducible refine' I_item ?_ ?_ ?_ ?_ | with_reducible refine' C_lt ?_ | with_reducible refine' C_ne ?_ | ((with_reducible refine' br ?_ ?_) <;> intro _) | ((with_reducible refine' Z_turn ?h1 ?h3 ?_); (case h1 => (first | exact ofString_ne (by decide) | (refine' canPut_of (s := _) ?h (fun q => ?g); (case h => exact rfl); (case g => first | (cases q; done) | exact absurd q (by assumption))) | assumption)); (case h3 => exact rfl)) | ((with_reducible refine' T_cmp ?r1 ?_); (case r1 => rfl)) | with_reducible refine' Z_ret ?_ | with_reducible refine' S_if ?_) | lia
    · rename_i h1 h2
      rw [ej] at h1 h2
      have := at_lt hB (limbs_rg hw x) (limbs_rg hw y) (by lia) (by lia) hd' h2
      rw [limbs_val hw, limbs_val hw] at this
      exact hR _ _ (R_seq (R_is (by rw [sgn, if_pos (by lia)])))
    · rename_i h1 h2
      rw [ej] at h1 h2
      have := at_lt hB (limbs_rg hw y) (limbs_rg hw x) (by lia) (by lia) hd'.symm (by lia)
      rw [limbs_val hw, limbs_val hw] at this
      exact hR _ _ (R_seq (R_is (by rw [sgn, if_neg (by lia), if_pos (by lia)])))
    · rename_i h1
      rw [ej] at h1
      refine hK _ ⟨⟨_, rfl, by intro q; cases q⟩, ?_⟩
      rw [show (limbs w x).length - (i + 1) = j by lia, List.drop_eq_getElem_cons (by lia), List.drop_eq_getElem_cons (l := limbs w y) (by lia), hd']
      congr 1
      rw [List.getD_eq_getElem?_getD, List.getElem?_eq_getElem (by lia), List.getD_eq_getElem?_getD, List.getElem?_eq_getElem (by lia)] at h1
      simpa using h1
  · rintro _ ⟨⟨t, rfl, ht⟩, hd⟩
    rw [show (limbs w x).length - ((limbs w x).length - 1 - -1 : Int).toNat = 0 by lia, List.drop_zero, List.drop_zero] at hd
    have : (x : Int) = y := by rw [← limbs_val hw x, hd, limbs_val hw]
    repeat' first | (first | with_reducible refine' Z_cons ?_ | with_reducible refine' N_seq ?_ | with_reducible refine' R_seq ?_ | with_reducible refine' R_is ?_ | with_reducible refine' E_int ?_ | with_reducible refine' Z_ret ?_) | lia
    rw [sgn, if_neg (by lia), if_neg (by lia)]
theorem val_take_succ' {B : Int} (ns : List Int) (i : Nat) : val B (ns.take (i + 1)) = val B (ns.take i) + ns.getD i 0 * B ^ i := by
  by_cases h : i < ns.length
  · exact val_take_succ ns i h
  · rw [List.take_of_length_le (by lia), List.take_of_length_le (by lia), List.getD_eq_getElem?_getD, List.getElem?_eq_none (by lia)]; simp
theorem carry_step (B V P c : Int) : V + (c % B) * P + (c / B) * (P * B) = V + c * P := by
  have := Int.emod_add_mul_ediv c B
  grind
theorem uniq_of {w n : Nat} (hw : 0 < w) {fs : List Int} (h : Rg (2 ^ w) fs) (ht : Top fs) (hv : val (2 ^ w) fs = n) : fs = limbs w n := by
  have := limbs_uniq hw h ht
  rw [hv] at this; exact this
theorem div_bounds {B c m : Int} (hB : 0 < B) (h0 : 0 ≤ c) (h1 : c < m * B) : 0 ≤ c / B ∧ c / B < m :=
  ⟨Int.ediv_nonneg h0 (Int.le_of_lt hB), Int.ediv_lt_of_lt_mul hB h1⟩
theorem mod_bounds {B : Int} (c : Int) (hB : 0 < B) : 0 ≤ c % B ∧ c % B < B := ⟨Int.emod_nonneg _ (by lia), Int.emod_lt_of_pos _ hB⟩
theorem powB {w : Nat} : (0 : Int) < 2 ^ w := pow_pos' (by decide) w
theorem powB1 {w : Nat} (hw : 0 < w) : (2 : Int) ≤ 2 ^ w := by
  have := two_le_pow hw
  rw [← pw]; exact_mod_cast this
/-- add -/
inductive SAdd : SpecF
  | mk (w x y : Nat) : 0 < w → w ≤ 1000 → Num x → Num y → SAdd [dN w x, dN w y, vInt w] (dN w (x + y))
theorem sum_top {w : Nat} (hw : 0 < w) {x : Nat} {s : Int} {fs : List Int} (hr : Rg (2 ^ w) fs) (hl : fs.length = (limbs w x).length) (hv : val (2 ^ w) fs = x + s) (hs : 0 ≤ s) : Top fs := by
  refine top_of_le powB hr ?_
  by_cases e : fs = []
  · exact .inl e
  · right
    have h := top_le powB (limbs_rg hw x) (limbs_top hw x) (by intro q; rw [q] at hl; exact e (List.length_eq_zero_iff.mp hl))
    rw [limbs_val hw] at h
    rw [hl, hv]; lia
theorem snoc_top {fs : List Int} {c : Int} (h : 0 < c) : Top (fs ++ [c]) := by
  intro x hx
  rw [List.getLast?_append] at hx
  simp at hx
  lia
theorem w_add (ds r) (h : SAdd ds r) : ds.length = 3 ∧ wpSs C0 (wpR C0 2) (recI 6).body (putPs (base0 (recI 6).scope.names) ([Str.ofString "a", Str.ofString "b", Str.ofString "w"].zip ds)) fun fl _ => retIs r fl := by
  obtain ⟨w, x, y, hw, hw1, hx, hy⟩ := h
  refine ⟨rfl, ?_⟩
  rw [show (recI 6).scope.names = [(Str.ofString "a", .local), (Str.ofString "b", .local), (Str.ofString "w", .local), (Str.ofString "found", .local), (Str.ofString "carry", .local), (Str.ofString "mask", .local), (Str.ofString "at", .local), (Str.ofString "len", .globalImplicit), (Str.ofString "range", .globalImplicit)] from rfl]
  simp only [base0, putPs, put, List.foldl_cons, List.foldl_nil, List.zip_cons_cons, List.zip_nil_right, List.zip_nil_left, ofString_beq, String.reduceBEq, Bool.false_eq_true, if_false, if_true, beq_self_eq_true]
  conv => arg 3; whnf
  have key : ∀ x y : Nat, Num x → Num y → (limbs w y).length ≤ (limbs w x).length → wpSs C0 (wpR C0 2) ((recI 6).body.drop 1) ((Str.ofString "a", vL (limbs w x)) :: (Str.ofString "b", vL (limbs w y)) :: (Str.ofString "w", vI w) :: (Str.ofString "found", Slot.unset) :: (Str.ofString "carry", Slot.unset) :: (Str.ofString "mask", Slot.unset) :: (Str.ofString "at", Slot.unset) :: (Str.ofString "len", Slot.glob) :: (Str.ofString "range", Slot.glob) :: []) fun fl _ => retIs (dN w (x + y)) fl := by
    clear hx hy x y
    intro x y hx hy hl
    have hlx := len_le hw hx
    have hly := len_le hw hy
    have hB := powB (w := w)
    conv => arg 3; whnf
    repeat' first | (first | with_reducible refine' Z_cons ?_ | with_reducible refine' N_seq ?_ | ((with_reducible refine' E_val ?h ?_); (case h => exact rfl)) | with_reducible refine' E_int ?_ | with_reducible refine' E_bin ?_ | ((with_reducible refine' E_len ?h ?g ?_); (case h => exact rfl); (case g => exact rfl)) | with_reducible refine' X_lenI ?_ ?_ | with_reducible refine' Es_nil ?_ | with_reducible refine' Es_cons ?_ | ((with_reducible refine' X_dats ?h ?g ?_); (case h => exact rfl); (case g => exact Nat.le_of_ble_eq_true rfl)) | ((with_reducible refine' B_one ?w1 ?_); (case w1 => lia)) | with_reducible refine' B_sub ?_ | ((with_reducible refine' okI_of ?_ ?_) <;> lia) | with_reducible refine' F_list ?_ | ((with_reducible refine' Z_tup ?r1 ?r2 ?_); (case r1 => rfl); (case r2 => rfl)) | ((with_reducible refine' Z_tupK ?h1 ?h2 ?h3 ?h4 ?h5 ?h6 ?h7 ?h8 ?_); (case h1 => exact rfl); (case h2 => rfl); (case h3 => exact Nat.le_of_ble_eq_true rfl); (case h4 => decide); (case h5 => (first | exact ofString_ne (by decide) | (refine' canPut_of (s := _) ?h (fun q => ?g); (case h => exact rfl); (case g => first | (cases q; done) | exact absurd q (by assumption))) | assumption)); (case h6 => simp only [List.forall_mem_cons]; (repeat' apply And.intro) <;> first | (first | exact ofString_ne (by decide) | (refine' canPut_of (s := _) ?h (fun q => ?g); (case h => exact rfl); (case g => first | (cases q; done) | exact absurd q (by assumption))) | assumption) | (intro x hx; cases hx)); (case h7 => rfl); (case h8 => exact rfl)) | ((with_reducible refine' S_range ?h ?r1 ?g ?r2 ?_); (case h => exact rfl); (case g => exact fun q => by cases q); (case r1 => rfl); (case r2 => rfl)) | with_reducible refine' X_r1 ?_ ?_) | lia
    refine for_up (fun i ρ => ∃ fs c t, ρ = ((Str.ofString "a", vL (limbs w x)) :: (Str.ofString "b", vL (limbs w y)) :: (Str.ofString "w", vI w) :: (Str.ofString "found", oL fs) :: (Str.ofString "carry", vI c) :: (Str.ofString "mask", vI (2 ^ w - 1)) :: (Str.ofString "at", t) :: (Str.ofString "len", Slot.glob) :: (Str.ofString "range", Slot.glob) :: []) ∧ t ≠ .glob ∧ fs.length = i ∧ Rg (2 ^ w) fs ∧ 0 ≤ c ∧ c ≤ 1 ∧ val (2 ^ w) fs + c * (2 ^ w) ^ i = val (2 ^ w) ((limbs w x).take i) + val (2 ^ w) ((limbs w y).take i)) ⟨[], 0, .unset, rfl, une, rfl, Rg.nil, by lia, by lia, by simp [val]⟩ ?_ ?_
    · rintro i _ hi ⟨fs, c, t, rfl, ht, hfl, hfr, hc0, hc1, hv⟩ K hK hR hBk
      repeat' first | (first | with_reducible refine' Z_cons ?_ | with_reducible refine' N_seq ?_ | with_reducible refine' Z_nil ?_ | ((with_reducible refine' E_val ?h ?_); (case h => exact rfl)) | with_reducible refine' E_bin ?_ | with_reducible refine' X_dat ?_ | ((with_reducible refine' E_subVal ?h ?_); (case h => exact rfl)) | ((with_reducible refine' Z_augK ?h1 ?h3 ?_); (case h1 => (first | exact ofString_ne (by decide) | (refine' canPut_of (s := _) ?h (fun q => ?g); (case h => exact rfl); (case g => first | (cases q; done) | exact absurd q (by assumption))) | assumption)); (case h3 => exact rfl)) | with_reducible refine' X_asInt ?_ | with_reducible refine' B_mask ?_ | with_reducible refine' B_shrN ?_ | with_reducible refine' B_add ?_ | with_reducible refine' I_item ?_ ?_ ?_ ?_ | ((with_reducible refine' Z_turn ?h1 ?h3 ?_); (case h1 => (first | exact ofString_ne (by decide) | (refine' canPut_of (s := _) ?h (fun q => ?g); (case h => exact rfl); (case g => first | (cases q; done) | exact absurd q (by assumption))) | assumption)); (case h3 => exact rfl)) | ((with_reducible refine' Z_aug ?h ?g ?_); (case h => exact rfl); (case g => decide)) | ((with_reducible refine' Z_app ?hm ?r1 ?h ?_); (case hm => exact ⟨_, fun env => rfl⟩); (case h => exact rfl); (case r1 => rfl)) | ((with_reducible refine' Z_appK ?h ?_ ?g ?_); (case h => exact rfl); (case g => exact rfl))) | lia
      rw [show (0 + (i : Int)).toNat = i by lia]
      have h1 := (limbs_rg hw x).getD hB i
      have h2 := (limbs_rg hw y).getD hB i
      have hd := div_bounds (m := 2) hB (c := c + ((limbs w x).getD i 0 + (limbs w y).getD i 0)) (by lia) (by lia)
      have hm := mod_bounds (c + ((limbs w x).getD i 0 + (limbs w y).getD i 0)) hB
      refine hK _ ⟨_, _, _, rfl, vne, by simp [hfl], hfr.snoc hm.1 hm.2, hd.1, by lia, ?_⟩
      rw [val_snoc, hfl, Int.pow_succ, carry_step, val_take_succ', val_take_succ']
      grind
    · rintro _ ⟨fs, c, t, rfl, ht, hfl, hfr, hc0, hc1, hv⟩
      rw [show ((limbs w y).length : Int).toNat = (limbs w y).length by lia] at hv hfl
      repeat' first | (first | with_reducible refine' Z_cons ?_ | with_reducible refine' N_seq ?_ | ((with_reducible refine' E_val ?h ?_); (case h => exact rfl)) | ((with_reducible refine' E_len ?h ?g ?_); (case h => exact rfl); (case g => exact rfl)) | with_reducible refine' X_lenI ?_ ?_ | with_reducible refine' Es_nil ?_ | with_reducible refine' Es_cons ?_ | ((with_reducible refine' okI_of ?_ ?_) <;> lia) | ((with_reducible refine' S_range ?h ?r1 ?g ?r2 ?_); (case h => exact rfl); (case g => exact fun q => by cases q); (case r1 => rfl); (case r2 => rfl)) | with_reducible refine' X_r2 ?_ ?_ ?_) | lia
      refine for_up (fun i ρ => ∃ fs c t, ρ = ((Str.ofString "a", vL (limbs w x)) :: (Str.ofString "b", vL (limbs w y)) :: (Str.ofString "w", vI w) :: (Str.ofString "found", oL fs) :: (Str.ofString "carry", vI c) :: (Str.ofString "mask", vI (2 ^ w - 1)) :: (Str.ofString "at", t) :: (Str.ofString "len", Slot.glob) :: (Str.ofString "range", Slot.glob) :: []) ∧ t ≠ .glob ∧ fs.length = (limbs w y).length + i ∧ Rg (2 ^ w) fs ∧ 0 ≤ c ∧ c ≤ 1 ∧ val (2 ^ w) fs + c * (2 ^ w) ^ ((limbs w y).length + i) = val (2 ^ w) ((limbs w x).take ((limbs w y).length + i)) + val (2 ^ w) (limbs w y)) ⟨fs, c, _, rfl, ht, hfl, hfr, by lia, by lia, by rw [List.take_length] at hv; exact hv⟩ ?_ ?_
      · clear hv hfl hfr fs hc0 hc1 c ht t
        rintro i _ hi ⟨fs, c, t, rfl, ht, hfl, hfr, hc0, hc1, hv⟩ K hK hR hBk
        repeat' first | (first | with_reducible refine' Z_cons ?_ | with_reducible refine' N_seq ?_ | with_reducible refine' Z_nil ?_ | ((with_reducible refine' E_val ?h ?_); (case h => exact rfl)) | with_reducible refine' E_bin ?_ | with_reducible refine' X_dat ?_ | ((with_reducible refine' E_subVal ?h ?_); (case h => exact rfl)) | ((with_reducible refine' Z_augK ?h1 ?h3 ?_); (case h1 => (first | exact ofString_ne (by decide) | (refine' canPut_of (s := _) ?h (fun q => ?g); (case h => exact rfl); (case g => first | (cases q; done) | exact absurd q (by assumption))) | assumption)); (case h3 => exact rfl)) | with_reducible refine' X_asInt ?_ | with_reducible refine' B_mask ?_ | with_reducible refine' B_shrN ?_ | with_reducible refine' B_add ?_ | with_reducible refine' I_item ?_ ?_ ?_ ?_ | ((with_reducible refine' Z_turn ?h1 ?h3 ?_); (case h1 => (first | exact ofString_ne (by decide) | (refine' canPut_of (s := _) ?h (fun q => ?g); (case h => exact rfl); (case g => first | (cases q; done) | exact absurd q (by assumption))) | assumption)); (case h3 => exact rfl)) | ((with_reducible refine' Z_aug ?h ?g ?_); (case h => exact rfl); (case g => decide)) | ((with_reducible refine' Z_app ?hm ?r1 ?h ?_); (case hm => exact ⟨_, fun env => rfl⟩); (case h => exact rfl); (case r1 => rfl)) | ((with_reducible refine' Z_appK ?h ?_ ?g ?_); (case h => exact rfl); (case g => exact rfl))) | lia
        rw [show ((limbs w y).length + (i : Int)).toNat = (limbs w y).length + i by lia]
        have h1 := (limbs_rg hw x).getD hB ((limbs w y).length + i)
        have hd := div_bounds (m := 2) hB (c := c + (limbs w x).getD ((limbs w y).length + i) 0) (by lia) (by lia)
        have hm := mod_bounds (c + (limbs w x).getD ((limbs w y).length + i) 0) hB
        refine hK _ ⟨_, _, _, rfl, vne, by simp [hfl]; lia, hfr.snoc hm.1 hm.2, hd.1, by lia, ?_⟩
        rw [val_snoc, hfl, show (limbs w y).length + (i + 1) = (limbs w y).length + i + 1 by lia, Int.pow_succ, carry_step, val_take_succ']
        grind
      · clear hv hfl hfr fs hc0 hc1 c ht t
        rintro _ ⟨fs, c, t, rfl, ht, hfl, hfr, hc0, hc1, hv⟩
        rw [show (limbs w y).length + ((limbs w x).length - (limbs w y).length : Int).toNat = (limbs w x).length by lia] at hv hfl
        rw [List.take_length, limbs_val hw, limbs_val hw] at hv
        repeat' first | (first | with_reducible refine' Z_cons ?_ | with_reducible refine' N_seq ?_ | with_reducible refine' R_seq ?_ | with_reducible refine' R_is ?_ | with_reducible refine' Z_nil ?_ | ((with_reducible refine' E_val ?h ?_); (case h => exact rfl)) | ((with_reducible refine' E_own ?h ?g ?_); (case h => exact rfl); (case g => exact rfl)) | with_reducible refine' E_int ?_ | with_reducible refine' C_gt ?_ | ((with_reducible refine' br ?_ ?_) <;> intro _) | ((with_reducible refine' T_cmp ?r1 ?_); (case r1 => rfl)) | with_reducible refine' Z_ret ?_ | with_reducible refine' S_if ?_ | ((with_reducible refine' Z_app ?hm ?r1 ?h ?_); (case hm => exact ⟨_, fun env => rfl⟩); (case h => exact rfl); (case r1 => rfl)) | ((with_reducible refine' Z_appK ?h ?_ ?g ?_); (case h => exact rfl); (case g => exact rfl))) | lia
        · rename_i hc
          rw [uniq_of (n := x + y) hw (hfr.snoc hc0 (by have := powB1 hw; lia)) (snoc_top hc) (by rw [val_snoc, hfl]; lia)]
        · rename_i hc
          have hc : c = 0 := by lia
          subst hc
          rw [uniq_of (n := x + y) hw hfr (sum_top hw hfr hfl (s := y) (by lia) (by lia)) (by lia)]
  have hlx := len_le hw hx
  have hly := len_le hw hy
  refine Z_cons (S_if ?_)
  generalize hKS : seqK C0 (wpR C0 2) _ _ = KS
  repeat' first | (first | with_reducible refine' Z_cons ?_ | with_reducible refine' N_seq ?_ | with_reducible refine' Z_nil ?_ | ((with_reducible refine' E_val ?h ?_); (case h => exact rfl)) | ((with_reducible refine' E_len ?h ?g ?_); (case h => exact rfl); (case g => exact rfl)) | with_reducible refine' X_lenI ?_ ?_ | with_reducible refine' Es_nil ?_ | with_reducible refine' Es_cons ?_ | with_reducible refine' C_lt ?_ | ((with_reducible refine' br ?_ ?_) <;> intro _) | ((with_reducible refine' T_cmp ?r1 ?_); (case r1 => rfl)) | ((with_reducible refine' F_val ?r1 ?_); (case r1 => rfl)) | ((with_reducible refine' Z_tup ?r1 ?r2 ?_); (case r1 => rfl); (case r2 => rfl)) | ((with_reducible refine' Z_tupK ?h1 ?h2 ?h3 ?h4 ?h5 ?h6 ?h7 ?h8 ?_); (case h1 => exact rfl); (case h2 => rfl); (case h3 => exact Nat.le_of_ble_eq_true rfl); (case h4 => decide); (case h5 => (first | exact ofString_ne (by decide) | (refine' canPut_of (s := _) ?h (fun q => ?g); (case h => exact rfl); (case g => first | (cases q; done) | exact absurd q (by assumption))) | assumption)); (case h6 => simp only [List.forall_mem_cons]; (repeat' apply And.intro) <;> first | (first | exact ofString_ne (by decide) | (refine' canPut_of (s := _) ?h (fun q => ?g); (case h => exact rfl); (case g => first | (cases q; done) | exact absurd q (by assumption))) | assumption) | (intro x hx; cases hx)); (case h7 => rfl); (case h8 => exact rfl))) | lia
  · subst hKS
    rw [Nat.add_comm x y]
    exact N_seq (key y x hy hx (by lia))
  · subst hKS
    exact N_seq (key x y hx hy (by lia))
/-- sub -/
noncomputable abbrev CSub : Ctx := ⟨Str.ofString "", [(Str.ofString "compare", SCompare), (Str.ofString "normal", SNormal)], []⟩
inductive SSub : SpecF
  | mk (w x y : Nat) : 0 < w → w ≤ 1000 → Num x → y ≤ x → SSub [dN w x, dN w y, vInt w] (dN w (x - y))
theorem w_sub (ds r) (h : SSub ds r) : ds.length = 3 ∧ wpSs CSub (wpR CSub 2) (recI 7).body (putPs (base0 (recI 7).scope.names) ([Str.ofString "a", Str.ofString "b", Str.ofString "w"].zip ds)) fun fl _ => retIs r fl := by
  obtain ⟨w, x, y, hw, hw1, hx, hyx⟩ := h
  refine ⟨rfl, ?_⟩
  have hy : Num y := Nat.lt_of_le_of_lt hyx hx
  have hlx := len_le hw hx
  have hly := len_le hw hy
  have hB := powB (w := w)
  have hs : 0 ≤ sgn x y := by unfold sgn; split <;> (try split) <;> lia
  have hll : (limbs w y).length ≤ (limbs w x).length := by
    rcases Nat.lt_or_ge (limbs w x).length (limbs w y).length with h | h
    · have := len_lt hw h; lia
    · exact h
  rw [show (recI 7).scope.names = [(Str.ofString "a", .local), (Str.ofString "b", .local), (Str.ofString "w", .local), (Str.ofString "found", .local), (Str.ofString "borrow", .local), (Str.ofString "base", .local), (Str.ofString "at", .local), (Str.ofString "limb", .local), (Str.ofString "compare", .globalImplicit), (Str.ofString "OutOfRange", .globalImplicit), (Str.ofString "range", .globalImplicit), (Str.ofString "len", .globalImplicit), (Str.ofString "normal", .globalImplicit)] from rfl]
  simp only [base0, putPs, put, List.foldl_cons, List.foldl_nil, List.zip_cons_cons, List.zip_nil_right, List.zip_nil_left, ofString_beq, String.reduceBEq, Bool.false_eq_true, if_false, if_true, beq_self_eq_true]
  conv => arg 3; whnf
  repeat' first | (first | with_reducible refine' Z_cons ?_ | with_reducible refine' N_seq ?_ | with_reducible refine' Z_nil ?_ | ((with_reducible refine' E_val ?h ?_); (case h => exact rfl)) | with_reducible refine' E_int ?_ | with_reducible refine' E_bin ?_ | ((with_reducible refine' E_len ?h ?g ?_); (case h => exact rfl); (case g => exact rfl)) | ((with_reducible refine' Z_user ?h ?g ?_); (case h => exact rfl); (case g => exact fun q => by cases q)) | with_reducible refine' X_lenI ?_ ?_ | with_reducible refine' Es_nil ?_ | with_reducible refine' Es_cons ?_ | ((with_reducible refine' X_dats ?h ?g ?_); (case h => exact rfl); (case g => exact Nat.le_of_ble_eq_true rfl)) | ((with_reducible refine' B_one ?w1 ?_); (case w1 => lia)) | with_reducible refine' C_lt ?_ | ((with_reducible refine' br ?_ ?_) <;> intro _) | ((with_reducible refine' okI_of ?_ ?_) <;> lia) | ((with_reducible refine' T_cmp ?r1 ?_); (case r1 => rfl)) | with_reducible refine' S_if ?_ | with_reducible refine' F_list ?_ | ((with_reducible refine' Z_tup ?r1 ?r2 ?_); (case r1 => rfl); (case r2 => rfl)) | ((with_reducible refine' Z_tupK ?h1 ?h2 ?h3 ?h4 ?h5 ?h6 ?h7 ?h8 ?_); (case h1 => exact rfl); (case h2 => rfl); (case h3 => exact Nat.le_of_ble_eq_true rfl); (case h4 => decide); (case h5 => (first | exact ofString_ne (by decide) | (refine' canPut_of (s := _) ?h (fun q => ?g); (case h => exact rfl); (case g => first | (cases q; done) | exact absurd q (by assumption))) | assumption)); (case h6 => simp only [List.forall_mem_cons]; (repeat' apply And.intro) <;> first | (first | exact ofString_ne (by decide) | (refine' canPut_of (s := _) ?h (fun q => ?g); (case h => exact rfl); (case g => first | (cases q; done) | exact absurd q (by assumption))) | assumption) | (intro x hx; cases hx)); (case h7 => rfl); (case h8 => exact rfl)) | ((with_reducible refine' S_range ?h ?r1 ?g ?r2 ?_); (case h => exact rfl); (case g => exact fun q => by cases q); (case r1 => rfl); (case r2 => rfl)) | with_reducible refine' X_r1 ?_ ?_) | (refine Z_useK (SCompare.mk w x y hw hx hy) ?_) | lia
  refine for_up (fun i ρ => ∃ fs c t u, ρ = ((Str.ofString "a", vL (limbs w x)) :: (Str.ofString "b", vL (limbs w y)) :: (Str.ofString "w", vI w) :: (Str.ofString "found", oL fs) :: (Str.ofString "borrow", vI c) :: (Str.ofString "base", vI (2 ^ w)) :: (Str.ofString "at", t) :: (Str.ofString "limb", u) :: (Str.ofString "compare", Slot.glob) :: (Str.ofString "OutOfRange", Slot.glob) :: (Str.ofString "range", Slot.glob) :: (Str.ofString "len", Slot.glob) :: (Str.ofString "normal", Slot.glob) :: []) ∧ t ≠ .glob ∧ u ≠ .glob ∧ fs.length = i ∧ Rg (2 ^ w) fs ∧ 0 ≤ c ∧ c ≤ 1 ∧ val (2 ^ w) fs - c * (2 ^ w) ^ i = val (2 ^ w) ((limbs w x).take i) - val (2 ^ w) ((limbs w y).take i)) ⟨[], 0, .unset, .unset, rfl, une, une, rfl, Rg.nil, by lia, by lia, by simp [val]⟩ ?_ ?_
  · rintro i _ hi ⟨fs, c, t, u, rfl, ht, hu, hfl, hfr, hc0, hc1, hv⟩ K hK hR hBk
    have ei : (0 + (i : Int)).toNat = i := by lia
    have h1 := (limbs_rg hw x).getD hB i
    have h2 := (limbs_rg hw y).getD hB i
    have h3 : (limbs w y).length ≤ i → (limbs w y).getD i 0 = 0 := fun h => by rw [List.getD_eq_getElem?_getD, List.getElem?_eq_none (by lia)]; rfl
    have hP : (2 ^ w : Int) ^ (i + 1) = (2 ^ w) ^ i * 2 ^ w := Int.pow_succ _ _
    have hx' := val_take_succ' (B := 2 ^ w) (limbs w x) i
    have hy' := val_take_succ' (B := 2 ^ w) (limbs w y) i
    repeat' first | (first | with_reducible refine' Z_cons ?_ | with_reducible refine' N_seq ?_ | with_reducible refine' Z_nil ?_ | ((with_reducible refine' E_val ?h ?_); (case h => exact rfl)) | with_reducible refine' E_int ?_ | with_reducible refine' E_bin ?_ | with_reducible refine' X_dat ?_ | ((with_reducible refine' E_subVal ?h ?_); (case h => exact rfl)) | ((with_reducible refine' E_len ?h ?g ?_); (case h => exact rfl); (case g => exact rfl)) | with_reducible refine' X_lenI ?_ ?_ | with_reducible refine' E_if ?_ | ((with_reducible refine' Z_putI ?h1 ?h2 ?h3 ?_); (case h1 => (first | exact ofString_ne (by decide) | (refine' canPut_of (s := _) ?h (fun q => ?g); (case h => exact rfl); (case g => first | (cases q; done) | exact absurd q (by assumption))) | assumption)); (case h2 => (first | exact ofString_ne (by decide) | (refine' canPut_of (s := _) ?h (fun q => ?g); (case h => exact rfl); (case g => first | (cases q; done) | exact absurd q (by assumption))) | assumption)); (case h3 => exact rfl)) | ((with_reducible refine' Z_put ?h1 ?h2 ?h3 ?_); (case h1 => (first | exact ofString_ne (by decide) | (refine' canPut_of (s := _) ?h (fun q => ?g); (case h => exact rfl); (case g => first | (cases q; done) | exact absurd q (by assumption))) | assumption)); (case h2 => (first | exact ofString_ne (by decide) | (refine' canPut_of (s := _) ?h (fun q => ?g); (case h => exact rfl); (case g => first | (cases q; done) | exact absurd q (by assumption))) | assumption)); (case h3 => exact rfl)) | with_reducible refine' B_add ?_ | with_reducible refine' B_sub ?_ | with_reducible refine' I_item ?_ ?_ ?_ ?_ | with_reducible refine' C_lt ?_ | ((with_reducible refine' br ?_ ?_) <;> intro _) | ((with_reducible refine' Z_turn ?h1 ?h3 ?_); (case h1 => (first | exact ofString_ne (by decide) | (refine' canPut_of (s := _) ?h (fun q => ?g); (case h => exact rfl); (case g => first | (cases q; done) | exact absurd q (by assumption))) | assumption)); (case h3 => exact rfl)) | ((with_reducible refine' T_cmp ?r1 ?_); (case r1 => rfl)) | with_reducible refine' Z_asg ?_ | with_reducible refine' F_bin ?_ | ((with_reducible refine' F_val ?r1 ?_); (case r1 => rfl)) | ((with_reducible refine' Z_app ?hm ?r1 ?h ?_); (case hm => exact ⟨_, fun env => rfl⟩); (case h => exact rfl); (case r1 => rfl)) | ((with_reducible refine' Z_appK ?h ?_ ?g ?_); (case h => exact rfl); (case g => exact rfl))) | lia
    all_goals (
      clear hR hBk
      simp only [ei] at *
      refine hK _ ⟨_, _, _, _, rfl, vne, vne, by simp [hfl], hfr.snoc (by first | lia | (have h4 := h3 (by lia); lia)) (by lia), by lia, by lia, ?_⟩
      rw [val_snoc, hfl, hP, hx', hy']
      first | grind | (have h4 := h3 (by lia); grind))
  · rintro _ ⟨fs, c, t, u, rfl, ht, hu, hfl, hfr, hc0, hc1, hv⟩
    rw [show ((limbs w x).length : Int).toNat = (limbs w x).length by lia] at hv hfl
    rw [List.take_length, List.take_of_length_le hll, limbs_val hw, limbs_val hw] at hv
    have hb := val_bounds hB hfr
    rw [hfl] at hb
    have hc : c = 0 := by
      rcases (show c = 0 ∨ c = 1 by lia) with h | h
      · exact h
      · subst h; lia
    subst hc
    repeat' first | (first | with_reducible refine' Z_cons ?_ | with_reducible refine' N_seq ?_ | with_reducible refine' R_seq ?_ | with_reducible refine' R_is ?_ | ((with_reducible refine' E_own ?h ?g ?_); (case h => exact rfl); (case g => exact rfl)) | ((with_reducible refine' Z_user ?h ?g ?_); (case h => exact rfl); (case g => exact fun q => by cases q)) | with_reducible refine' Es_nil ?_ | with_reducible refine' Es_cons ?_ | with_reducible refine' Z_ret ?_) | (refine Z_useK (SNormal.mk w fs hw hfr (by lia)) ?_) | lia
    rw [show (val (2 ^ w) fs).toNat = x - y by lia]
/-- add_limb -/
inductive SAddLimb : SpecF
  | mk (w x l : Nat) : 0 < w → w ≤ 1000 → Num x → l < 2 ^ w → SAddLimb [dN w x, vInt l, vInt w] (dN w (x + l))
theorem w_add_limb (ds r) (h : SAddLimb ds r) : ds.length = 3 ∧ wpSs C0 (wpR C0 2) (recI 8).body (putPs (base0 (recI 8).scope.names) ([Str.ofString "a", Str.ofString "limb", Str.ofString "w"].zip ds)) fun fl _ => retIs r fl := by
  obtain ⟨w, x, l, hw, hw1, hx, hl⟩ := h
  refine ⟨rfl, ?_⟩
  have hlx := len_le hw hx
  have hB := powB (w := w)
  have hl' : (l : Int) < 2 ^ w := by rw [← pw]; exact_mod_cast hl
  rw [show (recI 8).scope.names = [(Str.ofString "a", .local), (Str.ofString "limb", .local), (Str.ofString "w", .local), (Str.ofString "found", .local), (Str.ofString "mask", .local), (Str.ofString "one", .local)] from rfl]
  simp only [base0, putPs, put, List.foldl_cons, List.foldl_nil, List.zip_cons_cons, List.zip_nil_right, List.zip_nil_left, ofString_beq, String.reduceBEq, Bool.false_eq_true, if_false, if_true, beq_self_eq_true]
  conv => arg 3; whnf
  repeat' first | (first | with_reducible refine' Z_cons ?_ | with_reducible refine' N_seq ?_ | ((with_reducible refine' E_val ?h ?_); (case h => exact rfl)) | with_reducible refine' E_int ?_ | with_reducible refine' E_bin ?_ | with_reducible refine' Es_nil ?_ | with_reducible refine' Es_cons ?_ | ((with_reducible refine' X_dats ?h ?g ?_); (case h => exact rfl); (case g => exact Nat.le_of_ble_eq_true rfl)) | with_reducible refine' X_list ?_ | ((with_reducible refine' B_one ?w1 ?_); (case w1 => lia)) | with_reducible refine' B_sub ?_ | with_reducible refine' F_list ?_ | ((with_reducible refine' Z_tup ?r1 ?r2 ?_); (case r1 => rfl); (case r2 => rfl)) | ((with_reducible refine' Z_tupK ?h1 ?h2 ?h3 ?h4 ?h5 ?h6 ?h7 ?h8 ?_); (case h1 => exact rfl); (case h2 => rfl); (case h3 => exact Nat.le_of_ble_eq_true rfl); (case h4 => decide); (case h5 => (first | exact ofString_ne (by decide) | (refine' canPut_of (s := _) ?h (fun q => ?g); (case h => exact rfl); (case g => first | (cases q; done) | exact absurd q (by assumption))) | assumption)); (case h6 => simp only [List.forall_mem_cons]; (repeat' apply And.intro) <;> first | (first | exact ofString_ne (by decide) | (refine' canPut_of (s := _) ?h (fun q => ?g); (case h => exact rfl); (case g => first | (cases q; done) | exact absurd q (by assumption))) | assumption) | (intro x hx; cases hx)); (case h7 => rfl); (case h8 => exact rfl)) | ((with_reducible refine' S_for ?h ?r1 ?_); (case h => exact rfl); (case r1 => rfl))) | lia
  refine for_lst (fun i ρ => ∃ fs c t, ρ = ((Str.ofString "a", vL (limbs w x)) :: (Str.ofString "limb", vI c) :: (Str.ofString "w", vI w) :: (Str.ofString "found", oL fs) :: (Str.ofString "mask", vI (2 ^ w - 1)) :: (Str.ofString "one", t) :: []) ∧ t ≠ .glob ∧ fs.length = i ∧ Rg (2 ^ w) fs ∧ 0 ≤ c ∧ c < 2 ^ w ∧ val (2 ^ w) fs + c * (2 ^ w) ^ i = val (2 ^ w) ((limbs w x).take i) + l) ⟨[], l, .unset, rfl, une, rfl, Rg.nil, by lia, by lia, by simp [val]⟩ ?_ ?_
  · rintro i _ hi ⟨fs, c, t, rfl, ht, hfl, hfr, hc0, hc1, hv⟩ K hK hR hBk
    repeat' first | (first | with_reducible refine' Z_cons ?_ | with_reducible refine' N_seq ?_ | with_reducible refine' Z_nil ?_ | ((with_reducible refine' E_val ?h ?_); (case h => exact rfl)) | with_reducible refine' E_bin ?_ | ((with_reducible refine' Z_augK ?h1 ?h3 ?_); (case h1 => (first | exact ofString_ne (by decide) | (refine' canPut_of (s := _) ?h (fun q => ?g); (case h => exact rfl); (case g => first | (cases q; done) | exact absurd q (by assumption))) | assumption)); (case h3 => exact rfl)) | with_reducible refine' X_asInt ?_ | with_reducible refine' B_mask ?_ | with_reducible refine' B_shrN ?_ | with_reducible refine' B_add ?_ | ((with_reducible refine' Z_turn ?h1 ?h3 ?_); (case h1 => (first | exact ofString_ne (by decide) | (refine' canPut_of (s := _) ?h (fun q => ?g); (case h => exact rfl); (case g => first | (cases q; done) | exact absurd q (by assumption))) | assumption)); (case h3 => exact rfl)) | ((with_reducible refine' Z_aug ?h ?g ?_); (case h => exact rfl); (case g => decide)) | ((with_reducible refine' Z_app ?hm ?r1 ?h ?_); (case hm => exact ⟨_, fun env => rfl⟩); (case h => exact rfl); (case r1 => rfl)) | ((with_reducible refine' Z_appK ?h ?_ ?g ?_); (case h => exact rfl); (case g => exact rfl))) | lia
    have h1 := (limbs_rg hw x).getD hB i
    have hd := div_bounds (m := 2) hB (c := c + (limbs w x).getD i 0) (by lia) (by lia)
    have hm := mod_bounds (c + (limbs w x).getD i 0) hB
    have := powB1 hw
    refine hK _ ⟨_, _, _, rfl, vne, by simp [hfl], hfr.snoc hm.1 hm.2, hd.1, by lia, ?_⟩
    rw [val_snoc, hfl, Int.pow_succ, carry_step, val_take_succ']
    grind
  · rintro _ ⟨fs, c, t, rfl, ht, hfl, hfr, hc0, hc1, hv⟩
    rw [List.take_length, limbs_val hw] at hv
    repeat' first | (first | with_reducible refine' Z_cons ?_ | with_reducible refine' N_seq ?_ | with_reducible refine' R_seq ?_ | with_reducible refine' R_is ?_ | with_reducible refine' Z_nil ?_ | ((with_reducible refine' E_val ?h ?_); (case h => exact rfl)) | ((with_reducible refine' E_own ?h ?g ?_); (case h => exact rfl); (case g => exact rfl)) | with_reducible refine' E_int ?_ | with_reducible refine' C_gt ?_ | ((with_reducible refine' br ?_ ?_) <;> intro _) | ((with_reducible refine' T_cmp ?r1 ?_); (case r1 => rfl)) | with_reducible refine' Z_ret ?_ | with_reducible refine' S_if ?_ | ((with_reducible refine' Z_app ?hm ?r1 ?h ?_); (case hm => exact ⟨_, fun env => rfl⟩); (case h => exact rfl); (case r1 => rfl)) | ((with_reducible refine' Z_appK ?h ?_ ?g ?_); (case h => exact rfl); (case g => exact rfl))) | lia
    · rename_i hc
      rw [uniq_of (n := x + l) hw (hfr.snoc hc0 hc1) (snoc_top hc) (by rw [val_snoc, hfl]; lia)]
    · rename_i hc
      have hc : c = 0 := by lia
      subst hc
      rw [uniq_of (n := x + l) hw hfr (sum_top hw hfr hfl (s := l) (by lia) (by lia)) (by lia)]
theorem pow60 {w : Nat} (h : w ≤ 60) : (2 : Int) ^ w ≤ 2 ^ 60 := by
  obtain ⟨k, hk⟩ := Nat.exists_eq_add_of_le h
  have h1 := pow_pos' (B := 2) (by decide) w
  have h2 := pow_pos' (B := 2) (by decide) k
  have : (2 : Int) ^ w * 1 ≤ 2 ^ w * 2 ^ k := Int.mul_le_mul_of_nonneg_left h2 (Int.le_of_lt h1)
  rw [← Int.pow_add, ← hk] at this
  lia
theorem drop_set_self {fs : List Int} {j : Nat} {v : Int} (h : j < fs.length) : (fs.set j v).drop j = v :: fs.drop (j + 1) := by
  rw [List.drop_eq_getElem_cons (by simpa using h), List.getElem_set_self, List.drop_set_of_lt (by lia)]
/-- divrem_limb -/
noncomputable abbrev CNormal : Ctx := ⟨Str.ofString "", [(Str.ofString "normal", SNormal)], []⟩
noncomputable abbrev pN (w n : Nat) : PyData := .list (IL (limbs w n))
inductive SDivLimb : SpecF
  | mk (w x l : Nat) : 0 < w → w ≤ 60 → Num x → 0 < l → l < 2 ^ w → SDivLimb [dN w x, vInt l, vInt w] (.dat (.tuple [pN w (x / l), .int ((x % l : Nat) : Int)]))
theorem w_divrem_limb (ds r) (h : SDivLimb ds r) : ds.length = 3 ∧ wpSs CNormal (wpR CNormal 2) (recI 9).body (putPs (base0 (recI 9).scope.names) ([Str.ofString "a", Str.ofString "limb", Str.ofString "w"].zip ds)) fun fl _ => retIs r fl := by
  obtain ⟨w, x, l, hw, hw1, hx, hl0, hl⟩ := h
  refine ⟨rfl, ?_⟩
  have hlx := len_le hw hx
  have hB := powB (w := w)
  have h60 := pow60 hw1
  have hl' : (l : Int) < 2 ^ w := by rw [← pw]; exact_mod_cast hl
  rw [show (recI 9).scope.names = [(Str.ofString "a", .local), (Str.ofString "limb", .local), (Str.ofString "w", .local), (Str.ofString "found", .local), (Str.ofString "rest", .local), (Str.ofString "at", .local), (Str.ofString "DivisionByZero", .globalImplicit), (Str.ofString "len", .globalImplicit), (Str.ofString "range", .globalImplicit), (Str.ofString "normal", .globalImplicit)] from rfl]
  simp only [base0, putPs, put, List.foldl_cons, List.foldl_nil, List.zip_cons_cons, List.zip_nil_right, List.zip_nil_left, ofString_beq, String.reduceBEq, Bool.false_eq_true, if_false, if_true, beq_self_eq_true]
  conv => arg 3; whnf
  repeat' first | (first | with_reducible refine' Z_cons ?_ | with_reducible refine' N_seq ?_ | with_reducible refine' Z_nil ?_ | ((with_reducible refine' E_val ?h ?_); (case h => exact rfl)) | with_reducible refine' E_int ?_ | with_reducible refine' E_bin ?_ | ((with_reducible refine' E_len ?h ?g ?_); (case h => exact rfl); (case g => exact rfl)) | with_reducible refine' X_lenI ?_ ?_ | with_reducible refine' Es_nil ?_ | with_reducible refine' Es_cons ?_ | ((with_reducible refine' E_neg (U_neg' ?_))) | with_reducible refine' E_list ?_ | ((with_reducible refine' X_dats ?h ?g ?_); (case h => exact rfl); (case g => exact Nat.le_of_ble_eq_true rfl)) | with_reducible refine' X_asInt ?_ | with_reducible refine' B_sub ?_ | with_reducible refine' B_repI ?_ ?_ ?_ | with_reducible refine' C_eq ?_ | ((with_reducible refine' br ?_ ?_) <;> intro _) | ((with_reducible refine' okI_of ?_ ?_) <;> omega) | ((with_reducible refine' T_cmp ?r1 ?_); (case r1 => rfl)) | with_reducible refine' S_if ?_ | with_reducible refine' F_bin ?_ | ((with_reducible refine' Z_tup ?r1 ?r2 ?_); (case r1 => rfl); (case r2 => rfl)) | ((with_reducible refine' Z_tupK ?h1 ?h2 ?h3 ?h4 ?h5 ?h6 ?h7 ?h8 ?_); (case h1 => exact rfl); (case h2 => rfl); (case h3 => exact Nat.le_of_ble_eq_true rfl); (case h4 => decide); (case h5 => (first | exact ofString_ne (by decide) | (refine' canPut_of (s := _) ?h (fun q => ?g); (case h => exact rfl); (case g => first | (cases q; done) | exact absurd q (by assumption))) | assumption)); (case h6 => simp only [List.forall_mem_cons]; (repeat' apply And.intro) <;> first | (first | exact ofString_ne (by decide) | (refine' canPut_of (s := _) ?h (fun q => ?g); (case h => exact rfl); (case g => first | (cases q; done) | exact absurd q (by assumption))) | assumption) | (intro x hx; cases hx)); (case h7 => rfl); (case h8 => exact rfl)) | ((with_reducible refine' S_range ?h ?r1 ?g ?r2 ?_); (case h => exact rfl); (case g => exact fun q => by cases q); (case r1 => rfl); (case r2 => rfl)) | with_reducible refine' X_r3 ?_ ?_ ?_) | omega
  refine for_down (fun i ρ => ∃ fs c t, ρ = ((Str.ofString "a", vL (limbs w x)) :: (Str.ofString "limb", vI l) :: (Str.ofString "w", vI w) :: (Str.ofString "found", oL fs) :: (Str.ofString "rest", vI c) :: (Str.ofString "at", t) :: (Str.ofString "DivisionByZero", Slot.glob) :: (Str.ofString "len", Slot.glob) :: (Str.ofString "range", Slot.glob) :: (Str.ofString "normal", Slot.glob) :: []) ∧ t ≠ .glob ∧ fs.length = (limbs w x).length ∧ Rg (2 ^ w) fs ∧ 0 ≤ c ∧ c < l ∧ l * val (2 ^ w) (fs.drop ((limbs w x).length - i)) + c = val (2 ^ w) ((limbs w x).drop ((limbs w x).length - i))) ⟨List.replicate (limbs w x).length 0, 0, .unset, by rw [Int.toNat_natCast]; rfl, une, by simp, Rg.rep hB _, by lia, by lia, by rw [Nat.sub_zero, List.drop_length, List.drop_of_length_le (by simp)]; simp [val]⟩ ?_ ?_
  · rintro i _ hi ⟨fs, c, t, rfl, ht, hfl, hfr, hc0, hc1, hv⟩ K hK hR hBk
    obtain ⟨j, hj⟩ : ∃ j : Nat, (limbs w x).length = j + 1 + i := ⟨(limbs w x).length - 1 - i, by lia⟩
    have ej : ((limbs w x).length - 1 - (i : Int)).toNat = j := by lia
    have h1 := (limbs_rg hw x).getD hB j
    repeat' first | (first | with_reducible refine' Z_cons ?_ | with_reducible refine' N_seq ?_ | with_reducible refine' Z_nil ?_ | ((with_reducible refine' E_val ?h ?_); (case h => exact rfl)) | with_reducible refine' E_bin ?_ | with_reducible refine' X_dat ?_ | ((with_reducible refine' E_subVal ?h ?_); (case h => exact rfl)) | ((with_reducible refine' Z_putI ?h1 ?h2 ?h3 ?_); (case h1 => (first | exact ofString_ne (by decide) | (refine' canPut_of (s := _) ?h (fun q => ?g); (case h => exact rfl); (case g => first | (cases q; done) | exact absurd q (by assumption))) | assumption)); (case h2 => (first | exact ofString_ne (by decide) | (refine' canPut_of (s := _) ?h (fun q => ?g); (case h => exact rfl); (case g => first | (cases q; done) | exact absurd q (by assumption))) | assumption)); (case h3 => exact rfl)) | ((with_reducible refine' Z_augK ?h1 ?h3 ?_); (case h1 => (first | exact ofString_ne (by decide) | (refine' canPut_of (s := _) ?h (fun q => ?g); (case h => exact rfl); (case g => first | (cases q; done) | exact absurd q (by assumption))) | assumption)); (case h3 => exact rfl)) | with_reducible refine' X_asInt ?_ | with_reducible refine' B_div ?_ ?_ ?_ | with_reducible refine' B_mod ?_ ?_ | ((with_reducible refine' B_shlN ?w1 ?_ ?_); (case w1 => omega)) | with_reducible refine' B_or ?_ ?_ | with_reducible refine' I_item ?_ ?_ ?_ ?_ | ((with_reducible refine' Z_turn ?h1 ?h3 ?_); (case h1 => (first | exact ofString_ne (by decide) | (refine' canPut_of (s := _) ?h (fun q => ?g); (case h => exact rfl); (case g => first | (cases q; done) | exact absurd q (by assumption))) | assumption)); (case h3 => exact rfl)) | with_reducible refine' Z_asg ?_ | with_reducible refine' F_bin ?_ | with_reducible refine' Z_set ?_ | ((with_reducible refine' Z_has ?h ?_); (case h => exact rfl)) | ((with_reducible refine' Z_setK ?h ?_ ?_ ?_ ?g ?_); (case h => exact rfl); (case g => exact rfl)) | ((with_reducible refine' Z_aug ?h ?g ?_); (case h => exact rfl); (case g => decide))) | omega
    · rw [ej]
      exact ⟨w, c, hc0, .inl ⟨rfl, h1⟩⟩
    simp only [ej] at *
    have hlt : c * 2 ^ w + (limbs w x).getD j 0 < 2 ^ w * l := by
      have : (c + 1) * 2 ^ w ≤ l * 2 ^ w := Int.mul_le_mul_of_nonneg_right (by lia) (by lia)
      grind
    have h0 : 0 ≤ c * 2 ^ w + (limbs w x).getD j 0 := Int.add_nonneg (Int.mul_nonneg hc0 (by lia)) h1.1
    have hd := div_bounds (B := l) (m := 2 ^ w) (by lia) h0 hlt
    have hm := mod_bounds (c * 2 ^ w + (limbs w x).getD j 0) (B := l) (by lia)
    refine hK _ ⟨_, _, _, rfl, vne, by simpa using hfl, hfr.set _ hd.1 hd.2, hm.1, hm.2, ?_⟩
    rw [show (limbs w x).length - (i + 1) = j by lia, drop_set_self (by lia), val_drop _ j (by lia), val]
    rw [show (limbs w x).length - i = j + 1 by lia] at hv
    have := Int.emod_add_mul_ediv (c * 2 ^ w + (limbs w x).getD j 0) l
    grind
  · rintro _ ⟨fs, c, t, rfl, ht, hfl, hfr, hc0, hc1, hv⟩
    rw [show (limbs w x).length - ((limbs w x).length - 1 - -1 : Int).toNat = 0 by lia, List.drop_zero, List.drop_zero, limbs_val hw] at hv
    have hb := (val_bounds hB hfr).1
    have e1 : (val (2 ^ w) fs).toNat = x / l := by
      have : ((x / l : Nat) : Int) = val (2 ^ w) fs := by
        rw [Int.natCast_ediv, ← hv, Int.add_comm, Int.add_mul_ediv_left _ _ (by lia), Int.ediv_eq_zero_of_lt hc0 hc1, Int.zero_add]
      lia
    have e2 : ((x % l : Nat) : Int) = c := by
      rw [Int.natCast_emod, ← hv, Int.add_comm, Int.add_mul_emod_self_left, Int.emod_eq_of_lt hc0 hc1]
    repeat' first | (first | with_reducible refine' Z_cons ?_ | with_reducible refine' N_seq ?_ | with_reducible refine' R_seq ?_ | with_reducible refine' R_is ?_ | ((with_reducible refine' E_val ?h ?_); (case h => exact rfl)) | ((with_reducible refine' E_own ?h ?g ?_); (case h => exact rfl); (case g => exact rfl)) | ((with_reducible refine' Z_user ?h ?g ?_); (case h => exact rfl); (case g => exact fun q => by cases q)) | with_reducible refine' Es_nil ?_ | with_reducible refine' Es_cons ?_ | with_reducible refine' E_tup ?_ | ((with_reducible refine' X_dats ?h ?g ?_); (case h => exact rfl); (case g => exact Nat.le_of_ble_eq_true rfl)) | with_reducible refine' Z_ret ?_) | (refine Z_useK (SNormal.mk w fs hw hfr (by omega)) ?_) | omega
    rw [e1, e2]
/-- shift_left -/
inductive SShl : SpecF
  | mk (w x n : Nat) : 0 < w → w ≤ 60 → Num x → n < w → SShl [dN w x, vInt n, vInt w] (dN w (x * 2 ^ n))
theorem w_shift_left (ds r) (h : SShl ds r) : ds.length = 3 ∧ wpSs C0 (wpR C0 2) (recI 10).body (putPs (base0 (recI 10).scope.names) ([Str.ofString "a", Str.ofString "n", Str.ofString "w"].zip ds)) fun fl _ => retIs r fl := by
  obtain ⟨w, x, n, hw, hw1, hx, hn⟩ := h
  refine ⟨rfl, ?_⟩
  have hlx := len_le hw hx
  have hB := powB (w := w)
  have hN := powB (w := n)
  have h60 := pow60 hw1
  have en : (n : Int) / (w : Int) = 0 := Int.ediv_eq_zero_of_lt (by lia) (by lia)
  have em : (n : Int) % (w : Int) = n := Int.emod_eq_of_lt (by lia) (by lia)
  rw [show (recI 10).scope.names = [(Str.ofString "a", .local), (Str.ofString "n", .local), (Str.ofString "w", .local), (Str.ofString "spots", .local), (Str.ofString "few", .local), (Str.ofString "found", .local), (Str.ofString "carry", .local), (Str.ofString "mask", .local), (Str.ofString "one", .local), (Str.ofString "len", .globalImplicit)] from rfl]
  simp only [base0, putPs, put, List.foldl_cons, List.foldl_nil, List.zip_cons_cons, List.zip_nil_right, List.zip_nil_left, ofString_beq, String.reduceBEq, Bool.false_eq_true, if_false, if_true, beq_self_eq_true]
  conv => arg 3; whnf
  repeat' first | (first | with_reducible refine' Z_cons ?_ | with_reducible refine' N_seq ?_ | with_reducible refine' R_seq ?_ | with_reducible refine' R_is ?_ | with_reducible refine' Z_nil ?_ | ((with_reducible refine' E_val ?h ?_); (case h => exact rfl)) | with_reducible refine' E_int ?_ | with_reducible refine' E_bin ?_ | ((with_reducible refine' E_len ?h ?g ?_); (case h => exact rfl); (case g => exact rfl)) | with_reducible refine' X_lenI ?_ ?_ | with_reducible refine' Es_nil ?_ | with_reducible refine' Es_cons ?_ | with_reducible refine' E_list ?_ | ((with_reducible refine' X_dats ?h ?g ?_); (case h => exact rfl); (case g => exact Nat.le_of_ble_eq_true rfl)) | with_reducible refine' X_list ?_ | ((with_reducible refine' B_one ?w1 ?_); (case w1 => lia)) | with_reducible refine' B_sub ?_ | with_reducible refine' B_repI ?_ ?_ ?_ | with_reducible refine' B_div ?_ ?_ ?_ | with_reducible refine' B_mod ?_ ?_ | with_reducible refine' C_eq ?_ | ((with_reducible refine' br ?_ ?_) <;> intro _) | ((with_reducible refine' T_cmp ?r1 ?_); (case r1 => rfl)) | with_reducible refine' Z_ret ?_ | with_reducible refine' S_if ?_ | with_reducible refine' F_bin ?_ | ((with_reducible refine' Z_tup ?r1 ?r2 ?_); (case r1 => rfl); (case r2 => rfl)) | ((with_reducible refine' Z_tupK ?h1 ?h2 ?h3 ?h4 ?h5 ?h6 ?h7 ?h8 ?_); (case h1 => exact rfl); (case h2 => rfl); (case h3 => exact Nat.le_of_ble_eq_true rfl); (case h4 => decide); (case h5 => (first | exact ofString_ne (by decide) | (refine' canPut_of (s := _) ?h (fun q => ?g); (case h => exact rfl); (case g => first | (cases q; done) | exact absurd q (by assumption))) | assumption)); (case h6 => simp only [List.forall_mem_cons]; (repeat' apply And.intro) <;> first | (first | exact ofString_ne (by decide) | (refine' canPut_of (s := _) ?h (fun q => ?g); (case h => exact rfl); (case g => first | (cases q; done) | exact absurd q (by assumption))) | assumption) | (intro x hx; cases hx)); (case h7 => rfl); (case h8 => exact rfl)) | ((with_reducible refine' S_for ?h ?r1 ?_); (case h => exact rfl); (case r1 => rfl))) | lia
  · rename_i h
    have : limbs w x = [] := List.length_eq_zero_iff.mp (by lia)
    have hx0 : x = 0 := by have := limbs_val hw x; rw [‹limbs w x = []›] at this; simp [val] at this; lia
    subst hx0
    rw [Nat.zero_mul, dN, limbs_zero]
    rfl
  simp only [en, em]
  refine for_lst (fun i ρ => ∃ fs c t, ρ = ((Str.ofString "a", vL (limbs w x)) :: (Str.ofString "n", vI n) :: (Str.ofString "w", vI w) :: (Str.ofString "spots", vI 0) :: (Str.ofString "few", vI n) :: (Str.ofString "found", oL fs) :: (Str.ofString "carry", vI c) :: (Str.ofString "mask", vI (2 ^ w - 1)) :: (Str.ofString "one", t) :: (Str.ofString "len", Slot.glob) :: []) ∧ t ≠ .glob ∧ fs.length = i ∧ Rg (2 ^ w) fs ∧ 0 ≤ c ∧ c < 2 ^ n ∧ val (2 ^ w) fs + c * (2 ^ w) ^ i = val (2 ^ w) ((limbs w x).take i) * 2 ^ n) ⟨[], 0, .unset, rfl, une, rfl, Rg.nil, by lia, by lia, by simp [val]⟩ ?_ ?_
  · rintro i _ hi ⟨fs, c, t, rfl, ht, hfl, hfr, hc0, hc1, hv⟩ K hK hR hBk
    have h1 := (limbs_rg hw x).getD hB i
    repeat' first | (first | with_reducible refine' Z_cons ?_ | with_reducible refine' N_seq ?_ | with_reducible refine' Z_nil ?_ | ((with_reducible refine' E_val ?h ?_); (case h => exact rfl)) | with_reducible refine' E_bin ?_ | ((with_reducible refine' Z_augK ?h1 ?h3 ?_); (case h1 => (first | exact ofString_ne (by decide) | (refine' canPut_of (s := _) ?h (fun q => ?g); (case h => exact rfl); (case g => first | (cases q; done) | exact absurd q (by assumption))) | assumption)); (case h3 => exact rfl)) | with_reducible refine' X_asInt ?_ | with_reducible refine' B_mask ?_ | with_reducible refine' B_shrN ?_ | ((with_reducible refine' B_shlN ?w1 ?_ ?_); (case w1 => lia)) | with_reducible refine' B_or ?_ ?_ | ((with_reducible refine' Z_turn ?h1 ?h3 ?_); (case h1 => (first | exact ofString_ne (by decide) | (refine' canPut_of (s := _) ?h (fun q => ?g); (case h => exact rfl); (case g => first | (cases q; done) | exact absurd q (by assumption))) | assumption)); (case h3 => exact rfl)) | ((with_reducible refine' Z_aug ?h ?g ?_); (case h => exact rfl); (case g => decide)) | ((with_reducible refine' Z_app ?hm ?r1 ?h ?_); (case hm => exact ⟨_, fun env => rfl⟩); (case h => exact rfl); (case r1 => rfl)) | ((with_reducible refine' Z_appK ?h ?_ ?g ?_); (case h => exact rfl); (case g => exact rfl))) | lia
    · exact ⟨n, (limbs w x).getD i 0, h1.1, .inr ⟨rfl, hc0, hc1⟩⟩
    have hlt : c + (limbs w x).getD i 0 * 2 ^ n < 2 ^ n * 2 ^ w := by
      have : ((limbs w x).getD i 0 + 1) * 2 ^ n ≤ 2 ^ w * 2 ^ n := Int.mul_le_mul_of_nonneg_right (by lia) (by lia)
      grind
    have hd := div_bounds (m := 2 ^ n) hB (c := c + (limbs w x).getD i 0 * 2 ^ n) (Int.add_nonneg hc0 (Int.mul_nonneg h1.1 (by lia))) hlt
    have hm := mod_bounds (c + (limbs w x).getD i 0 * 2 ^ n) hB
    refine hK _ ⟨_, _, _, rfl, vne, by simp [hfl], hfr.snoc hm.1 hm.2, hd.1, hd.2, ?_⟩
    rw [val_snoc, hfl, Int.pow_succ, carry_step, val_take_succ']
    grind
  · rintro _ ⟨fs, c, t, rfl, ht, hfl, hfr, hc0, hc1, hv⟩
    rw [List.take_length, limbs_val hw] at hv
    have hle : (2 : Int) ^ n ≤ 2 ^ w := pow_le' (B := 2) (by decide) (by lia)
    have ec : ((x * 2 ^ n : Nat) : Int) = x * 2 ^ n := by rw [Int.natCast_mul, pw]
    repeat' first | (first | with_reducible refine' Z_cons ?_ | with_reducible refine' N_seq ?_ | with_reducible refine' R_seq ?_ | with_reducible refine' R_is ?_ | with_reducible refine' Z_nil ?_ | ((with_reducible refine' E_val ?h ?_); (case h => exact rfl)) | ((with_reducible refine' E_own ?h ?g ?_); (case h => exact rfl); (case g => exact rfl)) | with_reducible refine' E_int ?_ | with_reducible refine' C_gt ?_ | ((with_reducible refine' br ?_ ?_) <;> intro _) | ((with_reducible refine' T_cmp ?r1 ?_); (case r1 => rfl)) | with_reducible refine' Z_ret ?_ | with_reducible refine' S_if ?_ | ((with_reducible refine' Z_app ?hm ?r1 ?h ?_); (case hm => exact ⟨_, fun env => rfl⟩); (case h => exact rfl); (case r1 => rfl)) | ((with_reducible refine' Z_appK ?h ?_ ?g ?_); (case h => exact rfl); (case g => exact rfl))) | lia
    · rename_i hc
      rw [uniq_of (n := x * 2 ^ n) hw (hfr.snoc hc0 (by lia)) (snoc_top hc) (by rw [val_snoc, hfl, ec]; exact hv)]
    · rename_i hc
      have hc : c = 0 := by lia
      subst hc
      have : (x : Int) * 1 ≤ x * 2 ^ n := Int.mul_le_mul_of_nonneg_left (by lia) (by lia)
      rw [uniq_of (n := x * 2 ^ n) hw hfr (sum_top hw hfr hfl (s := x * 2 ^ n - x) (by lia) (by lia)) (by lia)]
/-- shift_right -/
inductive SShr : SpecF
  | mk (w x n : Nat) : 0 < w → w ≤ 60 → Num x → n < w → SShr [dN w x, vInt n, vInt w] (dN w (x / 2 ^ n))
theorem shr_limb {w n : Nat} (hn : n ≤ w) {q y : Int} (hq0 : 0 ≤ q) (hq : q < 2 ^ (w - n)) (hy : 0 ≤ y) : (q + y * 2 ^ (w - n)) % 2 ^ w = q + y % 2 ^ n * 2 ^ (w - n) := by
  have hP := powB (w := n)
  have hM := powB (w := w - n)
  have e : (2 : Int) ^ w = 2 ^ n * 2 ^ (w - n) := by rw [← Int.pow_add]; congr 1; lia
  have hm := mod_bounds y hP
  have hd := Int.emod_add_mul_ediv y (2 ^ n)
  have e2 : q + y * 2 ^ (w - n) = q + y % 2 ^ n * 2 ^ (w - n) + 2 ^ w * (y / 2 ^ n) := by
    rw [e]; grind
  rw [e2, Int.add_mul_emod_self_left]
  refine Int.emod_eq_of_lt (Int.add_nonneg hq0 (Int.mul_nonneg hm.1 (by lia))) ?_
  have : (y % 2 ^ n + 1) * 2 ^ (w - n) ≤ 2 ^ n * 2 ^ (w - n) := Int.mul_le_mul_of_nonneg_right (by lia) (by lia)
  rw [e]
  grind
theorem w_shift_right (ds r) (h : SShr ds r) : ds.length = 3 ∧ wpSs CNormal (wpR CNormal 2) (recI 11).body (putPs (base0 (recI 11).scope.names) ([Str.ofString "a", Str.ofString "n", Str.ofString "w"].zip ds)) fun fl _ => retIs r fl := by
  obtain ⟨w, x, n, hw, hw1, hx, hn⟩ := h
  refine ⟨rfl, ?_⟩
  have hlx := len_le hw hx
  have hB := powB (w := w)
  have hN := powB (w := n)
  have h60 := pow60 hw1
  have en : (n : Int) / (w : Int) = 0 := Int.ediv_eq_zero_of_lt (by lia) (by lia)
  have em : (n : Int) % (w : Int) = n := Int.emod_eq_of_lt (by lia) (by lia)
  rw [show (recI 11).scope.names = [(Str.ofString "a", .local), (Str.ofString "n", .local), (Str.ofString "w", .local), (Str.ofString "spots", .local), (Str.ofString "few", .local), (Str.ofString "found", .local), (Str.ofString "mask", .local), (Str.ofString "at", .local), (Str.ofString "above", .local), (Str.ofString "range", .globalImplicit), (Str.ofString "len", .globalImplicit), (Str.ofString "normal", .globalImplicit)] from rfl]
  simp only [base0, putPs, put, List.foldl_cons, List.foldl_nil, List.zip_cons_cons, List.zip_nil_right, List.zip_nil_left, ofString_beq, String.reduceBEq, Bool.false_eq_true, if_false, if_true, beq_self_eq_true]
  conv => arg 3; whnf
  repeat' first | (first | with_reducible refine' Z_cons ?_ | with_reducible refine' N_seq ?_ | ((with_reducible refine' E_val ?h ?_); (case h => exact rfl)) | with_reducible refine' E_int ?_ | with_reducible refine' E_bin ?_ | ((with_reducible refine' E_len ?h ?g ?_); (case h => exact rfl); (case g => exact rfl)) | with_reducible refine' X_lenI ?_ ?_ | with_reducible refine' Es_nil ?_ | with_reducible refine' Es_cons ?_ | ((with_reducible refine' X_dats ?h ?g ?_); (case h => exact rfl); (case g => exact Nat.le_of_ble_eq_true rfl)) | ((with_reducible refine' B_one ?w1 ?_); (case w1 => omega)) | with_reducible refine' B_sub ?_ | with_reducible refine' B_div ?_ ?_ ?_ | with_reducible refine' B_mod ?_ ?_ | ((with_reducible refine' okI_of ?_ ?_) <;> omega) | with_reducible refine' F_list ?_ | with_reducible refine' F_bin ?_ | ((with_reducible refine' Z_tup ?r1 ?r2 ?_); (case r1 => rfl); (case r2 => rfl)) | ((with_reducible refine' Z_tupK ?h1 ?h2 ?h3 ?h4 ?h5 ?h6 ?h7 ?h8 ?_); (case h1 => exact rfl); (case h2 => rfl); (case h3 => exact Nat.le_of_ble_eq_true rfl); (case h4 => decide); (case h5 => (first | exact ofString_ne (by decide) | (refine' canPut_of (s := _) ?h (fun q => ?g); (case h => exact rfl); (case g => first | (cases q; done) | exact absurd q (by assumption))) | assumption)); (case h6 => simp only [List.forall_mem_cons]; (repeat' apply And.intro) <;> first | (first | exact ofString_ne (by decide) | (refine' canPut_of (s := _) ?h (fun q => ?g); (case h => exact rfl); (case g => first | (cases q; done) | exact absurd q (by assumption))) | assumption) | (intro x hx; cases hx)); (case h7 => rfl); (case h8 => exact rfl)) | ((with_reducible refine' S_range ?h ?r1 ?g ?r2 ?_); (case h => exact rfl); (case g => exact fun q => by cases q); (case r1 => rfl); (case r2 => rfl)) | with_reducible refine' X_r2 ?_ ?_ ?_) | omega
  simp only [en, em]
  repeat' first | fail | omega
  refine for_up (fun i ρ => ∃ fs t u, ρ = ((Str.ofString "a", vL (limbs w x)) :: (Str.ofString "n", vI n) :: (Str.ofString "w", vI w) :: (Str.ofString "spots", vI 0) :: (Str.ofString "few", vI n) :: (Str.ofString "found", oL fs) :: (Str.ofString "mask", vI (2 ^ w - 1)) :: (Str.ofString "at", t) :: (Str.ofString "above", u) :: (Str.ofString "range", Slot.glob) :: (Str.ofString "len", Slot.glob) :: (Str.ofString "normal", Slot.glob) :: []) ∧ t ≠ .glob ∧ u ≠ .glob ∧ fs.length = i ∧ Rg (2 ^ w) fs ∧ 2 ^ n * val (2 ^ w) fs + (limbs w x).getD 0 0 % 2 ^ n = val (2 ^ w) ((limbs w x).take i) + (limbs w x).getD i 0 % 2 ^ n * (2 ^ w) ^ i) ⟨[], .unset, .unset, rfl, une, une, rfl, Rg.nil, by simp [val]⟩ ?_ ?_
  · rintro i _ hi ⟨fs, t, u, rfl, ht, hu, hfl, hfr, hv⟩ K hK hR hBk
    have h1 := (limbs_rg hw x).getD hB i
    have h2 := (limbs_rg hw x).getD hB (i + 1)
    have ei : (0 + (i : Int)).toNat = i := by lia
    have ei1 : (0 + (i : Int) + 1).toNat = i + 1 := by lia
    have ew : ((w : Int) - n).toNat = w - n := by lia
    have hM := powB (w := w - n)
    have eB : (2 : Int) ^ w = 2 ^ n * 2 ^ (w - n) := by rw [← Int.pow_add]; congr 1; lia
    have hq := div_bounds (B := 2 ^ n) (c := (limbs w x).getD i 0) (m := 2 ^ (w - n)) hN h1.1 (by rw [Int.mul_comm, ← eB]; exact h1.2)
    have hz : (limbs w x).length ≤ i + 1 → (limbs w x).getD (i + 1) 0 = 0 := fun h => by rw [List.getD_eq_getElem?_getD, List.getElem?_eq_none (by lia)]; rfl
    have hs := shr_limb (w := w) (n := n) (by lia) hq.1 hq.2 h2.1
    have hs0 := shr_limb (w := w) (n := n) (y := 0) (by lia) hq.1 hq.2 (by lia)
    have hm := mod_bounds ((limbs w x).getD i 0 / 2 ^ n + (limbs w x).getD (i + 1) 0 * 2 ^ (w - n)) hB
    have hd := Int.emod_add_mul_ediv ((limbs w x).getD i 0) (2 ^ n)
    have hP : (2 ^ w : Int) ^ (i + 1) = (2 ^ w) ^ i * 2 ^ w := Int.pow_succ _ _
    have ht := val_take_succ' (B := 2 ^ w) (limbs w x) i
    repeat' first | (first | with_reducible refine' Z_cons ?_ | with_reducible refine' N_seq ?_ | with_reducible refine' Z_nil ?_ | ((with_reducible refine' E_val ?h ?_); (case h => exact rfl)) | with_reducible refine' E_int ?_ | with_reducible refine' E_bin ?_ | with_reducible refine' X_dat ?_ | ((with_reducible refine' E_subVal ?h ?_); (case h => exact rfl)) | ((with_reducible refine' E_len ?h ?g ?_); (case h => exact rfl); (case g => exact rfl)) | with_reducible refine' X_lenI ?_ ?_ | with_reducible refine' E_if ?_ | ((with_reducible refine' Z_put ?h1 ?h2 ?h3 ?_); (case h1 => (first | exact ofString_ne (by decide) | (refine' canPut_of (s := _) ?h (fun q => ?g); (case h => exact rfl); (case g => first | (cases q; done) | exact absurd q (by assumption))) | assumption)); (case h2 => (first | exact ofString_ne (by decide) | (refine' canPut_of (s := _) ?h (fun q => ?g); (case h => exact rfl); (case g => first | (cases q; done) | exact absurd q (by assumption))) | assumption)); (case h3 => exact rfl)) | with_reducible refine' B_mask ?_ | with_reducible refine' B_shrN ?_ | with_reducible refine' B_add ?_ | with_reducible refine' B_sub ?_ | with_reducible refine' B_shl ?_ ?_ ?_ ?_ | with_reducible refine' B_or ?_ ?_ | with_reducible refine' I_item ?_ ?_ ?_ ?_ | with_reducible refine' C_lt ?_ | ((with_reducible refine' br ?_ ?_) <;> intro _) | ((with_reducible refine' Z_turn ?h1 ?h3 ?_); (case h1 => (first | exact ofString_ne (by decide) | (refine' canPut_of (s := _) ?h (fun q => ?g); (case h => exact rfl); (case g => first | (cases q; done) | exact absurd q (by assumption))) | assumption)); (case h3 => exact rfl)) | ((with_reducible refine' T_cmp ?r1 ?_); (case r1 => rfl)) | with_reducible refine' Z_asg ?_ | ((with_reducible refine' F_val ?r1 ?_); (case r1 => rfl)) | ((with_reducible refine' Z_app ?hm ?r1 ?h ?_); (case hm => exact ⟨_, fun env => rfl⟩); (case h => exact rfl); (case r1 => rfl)) | ((with_reducible refine' Z_appK ?h ?_ ?g ?_); (case h => exact rfl); (case g => exact rfl))) | omega
    all_goals simp only [ei, ei1, ew]
    · omega
    · exact ⟨w - n, (limbs w x).getD (i + 1) 0, h2.1, .inr ⟨rfl, hq.1, hq.2⟩⟩
    · refine hK _ ⟨_, _, _, rfl, vne, vne, by simp [hfl], hfr.snoc hm.1 hm.2, ?_⟩
      rw [val_snoc, hfl, hs, hP, ht]
      generalize (limbs w x).getD (i + 1) 0 % 2 ^ n = r1 at *
      generalize (limbs w x).getD i 0 % 2 ^ n = r0 at *
      generalize (limbs w x).getD i 0 / 2 ^ n = q at *
      generalize (limbs w x).getD i 0 = xi at *
      generalize (2 ^ w : Int) ^ i = P at *
      generalize (2 : Int) ^ (w - n) = M at *
      rw [eB]
      grind
    · exact ⟨w - n, 0, by lia, .inr ⟨rfl, hq.1, hq.2⟩⟩
    · have h0 := hz (by lia)
      rw [h0] at hm hs
      refine hK _ ⟨_, _, _, rfl, vne, vne, by simp [hfl], hfr.snoc hm.1 hm.2, ?_⟩
      rw [val_snoc, hfl, hs, hP, ht, h0]
      generalize (limbs w x).getD i 0 % 2 ^ n = r0 at *
      generalize (limbs w x).getD i 0 / 2 ^ n = q at *
      generalize (limbs w x).getD i 0 = xi at *
      generalize (2 ^ w : Int) ^ i = P at *
      generalize (2 : Int) ^ (w - n) = M at *
      rw [Int.zero_emod]
      grind
  · rintro _ ⟨fs, t, u, rfl, ht, hu, hfl, hfr, hv⟩
    rw [show ((limbs w x).length - 0 : Int).toNat = (limbs w x).length by lia] at hv hfl
    rw [List.take_length, limbs_val hw, show (limbs w x).getD (limbs w x).length 0 = 0 by rw [List.getD_eq_getElem?_getD, List.getElem?_eq_none (by lia)]; rfl, Int.zero_emod, Int.zero_mul, Int.add_zero] at hv
    have hb := (val_bounds hB hfr).1
    have hm := mod_bounds ((limbs w x).getD 0 0) hN
    have e1 : (val (2 ^ w) fs).toNat = x / 2 ^ n := by
      have : ((x / 2 ^ n : Nat) : Int) = val (2 ^ w) fs := by
        rw [Int.natCast_ediv, pw, ← hv, Int.add_comm, Int.add_mul_ediv_left _ _ (by lia), Int.ediv_eq_zero_of_lt hm.1 hm.2, Int.zero_add]
      lia
    repeat' first | (first | with_reducible refine' Z_cons ?_ | with_reducible refine' N_seq ?_ | with_reducible refine' R_seq ?_ | with_reducible refine' R_is ?_ | ((with_reducible refine' E_own ?h ?g ?_); (case h => exact rfl); (case g => exact rfl)) | ((with_reducible refine' Z_user ?h ?g ?_); (case h => exact rfl); (case g => exact fun q => by cases q)) | with_reducible refine' Es_nil ?_ | with_reducible refine' Es_cons ?_ | with_reducible refine' Z_ret ?_) | (refine Z_useK (SNormal.mk w fs hw hfr (by omega)) ?_) | omega
    rw [e1]
/-- bits of one limb -/
inductive SBits : SpecF
  | mk (w : Nat) (l : Int) : SBits [dL [l], vInt w] (vInt (Builtin.Int.intBits l))
theorem w_bits (ds r) (h : SBits ds r) : ds.length = 2 ∧ wpSs C0 (wpR C0 2) (recI 12).body (putPs (base0 (recI 12).scope.names) ([Str.ofString "a", Str.ofString "w"].zip ds)) fun fl _ => retIs r fl := by
  obtain ⟨w, l⟩ := h
  refine ⟨rfl, ?_⟩
  have hl1 : [l].length = 1 := rfl
  rw [show (recI 12).scope.names = [(Str.ofString "a", .local), (Str.ofString "w", .local), (Str.ofString "len", .globalImplicit)] from rfl]
  simp only [base0, putPs, put, List.foldl_cons, List.foldl_nil, List.zip_cons_cons, List.zip_nil_right, List.zip_nil_left, ofString_beq, String.reduceBEq, Bool.false_eq_true, if_false, if_true, beq_self_eq_true]
  conv => arg 3; whnf
  repeat' first | (first | with_reducible refine' Z_cons ?_ | with_reducible refine' R_seq ?_ | with_reducible refine' R_is ?_ | ((with_reducible refine' E_val ?h ?_); (case h => exact rfl)) | with_reducible refine' E_int ?_ | with_reducible refine' E_bin ?_ | with_reducible refine' X_dat ?_ | ((with_reducible refine' E_subVal ?h ?_); (case h => exact rfl)) | ((with_reducible refine' E_len ?h ?g ?_); (case h => exact rfl); (case g => exact rfl)) | ((with_reducible refine' E_bits ?hm ?g ?_); (case hm => exact ⟨_, fun env => rfl⟩); (case g => rfl)) | with_reducible refine' X_lenI ?_ ?_ | with_reducible refine' E_if ?_ | ((with_reducible refine' E_neg (U_neg' ?_))) | with_reducible refine' X_asInt ?_ | with_reducible refine' B_add ?_ | with_reducible refine' B_sub ?_ | with_reducible refine' B_mul ?_ ?_ | with_reducible refine' I_last ?_ ?_ ?_ | with_reducible refine' C_gt ?_ | ((with_reducible refine' br ?_ ?_) <;> intro _) | ((with_reducible refine' T_cmp ?r1 ?_); (case r1 => rfl)) | with_reducible refine' Z_ret ?_) | lia
  rw [show (([l].length : Int) - 1) * w = 0 by rw [hl1]; simp]
  rw [Int.zero_add]
  rfl
theorem getD_rep {n k : Nat} : (List.replicate n (0 : Int)).getD k 0 = 0 := by
  rw [List.getD_eq_getElem?_getD]
  by_cases h : k < n
  · rw [List.getElem?_replicate_of_lt h]; rfl
  · rw [List.getElem?_eq_none (by simpa using h)]; rfl
theorem sq_bound {B a b c d : Int} (ha : 0 ≤ a ∧ a < B) (hb : 0 ≤ b ∧ b < B) (hc : 0 ≤ c ∧ c < B) (hd : 0 ≤ d ∧ d < B) : 0 ≤ c + (d + a * b) ∧ c + (d + a * b) < B * B := by
  have h1 : 0 ≤ a * b := Int.mul_nonneg ha.1 hb.1
  have h2 : a * b ≤ (B - 1) * (B - 1) := Int.mul_le_mul (by lia) (by lia) hb.1 (by lia)
  refine ⟨by lia, ?_⟩
  grind
/-- mul_school -/
inductive SMul : SpecF
  | mk (w x y : Nat) : 0 < w → w ≤ 60 → Num x → Num y → SMul [dN w x, dN w y, vInt w] (dN w (x * y))
theorem w_mul_school (ds r) (h : SMul ds r) : ds.length = 3 ∧ wpSs CNormal (wpR CNormal 3) (recI 29).body (putPs (base0 (recI 29).scope.names) ([Str.ofString "a", Str.ofString "b", Str.ofString "w"].zip ds)) fun fl _ => retIs r fl := by
  obtain ⟨w, x, y, hw, hw1, hx, hy⟩ := h
  refine ⟨rfl, ?_⟩
  have hlx := len_le hw hx
  have hly := len_le hw hy
  have hB := powB (w := w)
  have h60 := pow60 hw1
  rw [show (recI 29).scope.names = [(Str.ofString "a", .local), (Str.ofString "b", .local), (Str.ofString "w", .local), (Str.ofString "found", .local), (Str.ofString "mask", .local), (Str.ofString "at", .local), (Str.ofString "limb", .local), (Str.ofString "carry", .local), (Str.ofString "spot", .local), (Str.ofString "other", .local), (Str.ofString "len", .globalImplicit), (Str.ofString "enumerate", .globalImplicit), (Str.ofString "normal", .globalImplicit)] from rfl]
  simp only [base0, putPs, put, List.foldl_cons, List.foldl_nil, List.zip_cons_cons, List.zip_nil_right, List.zip_nil_left, ofString_beq, String.reduceBEq, Bool.false_eq_true, if_false, if_true, beq_self_eq_true]
  conv => arg 3; whnf
  repeat' first | (first | with_reducible refine' Z_cons ?_ | with_reducible refine' N_seq ?_ | ((with_reducible refine' E_val ?h ?_); (case h => exact rfl)) | with_reducible refine' E_int ?_ | with_reducible refine' E_bin ?_ | ((with_reducible refine' E_len ?h ?g ?_); (case h => exact rfl); (case g => exact rfl)) | with_reducible refine' X_lenI ?_ ?_ | with_reducible refine' Es_nil ?_ | with_reducible refine' Es_cons ?_ | with_reducible refine' E_list ?_ | ((with_reducible refine' X_dats ?h ?g ?_); (case h => exact rfl); (case g => exact Nat.le_of_ble_eq_true rfl)) | with_reducible refine' X_list ?_ | ((with_reducible refine' B_one ?w1 ?_); (case w1 => lia)) | with_reducible refine' B_add ?_ | with_reducible refine' B_sub ?_ | with_reducible refine' B_repI ?_ ?_ ?_ | with_reducible refine' F_bin ?_ | ((with_reducible refine' Z_tup ?r1 ?r2 ?_); (case r1 => rfl); (case r2 => rfl)) | ((with_reducible refine' Z_tupK ?h1 ?h2 ?h3 ?h4 ?h5 ?h6 ?h7 ?h8 ?_); (case h1 => exact rfl); (case h2 => rfl); (case h3 => exact Nat.le_of_ble_eq_true rfl); (case h4 => decide); (case h5 => (first | exact ofString_ne (by decide) | (refine' canPut_of (s := _) ?h (fun q => ?g); (case h => exact rfl); (case g => first | (cases q; done) | exact absurd q (by assumption))) | assumption)); (case h6 => simp only [List.forall_mem_cons]; (repeat' apply And.intro) <;> first | (first | exact ofString_ne (by decide) | (refine' canPut_of (s := _) ?h (fun q => ?g); (case h => exact rfl); (case g => first | (cases q; done) | exact absurd q (by assumption))) | assumption) | (intro x hx; cases hx)); (case h7 => rfl); (case h8 => exact rfl)) | ((with_reducible refine' S_enum ?h ?r1 ?_); (case h => exact rfl); (case r1 => rfl))) | lia
  refine for_enum (ofString_ne (by decide)) (fun i ρ => ∃ fs t1 t2 t3 t4 t5, ρ = ((Str.ofString "a", vL (limbs w x)) :: (Str.ofString "b", vL (limbs w y)) :: (Str.ofString "w", vI w) :: (Str.ofString "found", oL fs) :: (Str.ofString "mask", vI (2 ^ w - 1)) :: (Str.ofString "at", t1) :: (Str.ofString "limb", t2) :: (Str.ofString "carry", t3) :: (Str.ofString "spot", t4) :: (Str.ofString "other", t5) :: (Str.ofString "len", Slot.glob) :: (Str.ofString "enumerate", Slot.glob) :: (Str.ofString "normal", Slot.glob) :: []) ∧ t1 ≠ .glob ∧ t2 ≠ .glob ∧ t3 ≠ .glob ∧ t4 ≠ .glob ∧ t5 ≠ .glob ∧ fs.length = (limbs w x).length + (limbs w y).length ∧ Rg (2 ^ w) fs ∧ (∀ k, i + (limbs w y).length ≤ k → fs.getD k 0 = 0) ∧ val (2 ^ w) fs = val (2 ^ w) ((limbs w x).take i) * y) ⟨List.replicate ((limbs w x).length + (limbs w y).length) 0, .unset, .unset, .unset, .unset, .unset, by rw [show ((limbs w x).length + (limbs w y).length : Int).toNat = (limbs w x).length + (limbs w y).length by lia]; rfl, une, une, une, une, une, by simp, Rg.rep hB _, fun k _ => getD_rep, by rw [val_rep]; simp [val]⟩ ?_ ?_
  · rintro i _ hi ⟨fs, t1, t2, t3, t4, t5, rfl, ht1, ht2, ht3, ht4, ht5, hfl, hfr, hz, hv⟩ K hK hR hBk
    have h1 := (limbs_rg hw x).getD hB i
    repeat' first | (first | with_reducible refine' Z_cons ?_ | with_reducible refine' N_seq ?_ | ((with_reducible refine' E_val ?h ?_); (case h => exact rfl)) | with_reducible refine' E_int ?_ | ((with_reducible refine' Z_put ?h1 ?h2 ?h3 ?_); (case h1 => (first | exact ofString_ne (by decide) | (refine' canPut_of (s := _) ?h (fun q => ?g); (case h => exact rfl); (case g => first | (cases q; done) | exact absurd q (by assumption))) | assumption)); (case h2 => (first | exact ofString_ne (by decide) | (refine' canPut_of (s := _) ?h (fun q => ?g); (case h => exact rfl); (case g => first | (cases q; done) | exact absurd q (by assumption))) | assumption)); (case h3 => exact rfl)) | with_reducible refine' X_list ?_ | ((with_reducible refine' Z_turn2 ?h1 ?h2 ?h3 ?h4 ?_); (case h1 => (first | exact ofString_ne (by decide) | (refine' canPut_of (s := _) ?h (fun q => ?g); (case h => exact rfl); (case g => first | (cases q; done) | exact absurd q (by assumption))) | assumption)); (case h2 => (first | exact ofString_ne (by decide) | (refine' canPut_of (s := _) ?h (fun q => ?g); (case h => exact rfl); (case g => first | (cases q; done) | exact absurd q (by assumption))) | assumption)); (case h3 => exact rfl); (case h4 => exact rfl)) | with_reducible refine' Z_asg ?_ | ((with_reducible refine' F_val ?r1 ?_); (case r1 => rfl)) | ((with_reducible refine' S_enum ?h ?r1 ?_); (case h => exact rfl); (case r1 => rfl))) | lia
    refine for_enum (ofString_ne (by decide)) (fun s ρ => ∃ gs c t4 t5, ρ = ((Str.ofString "a", vL (limbs w x)) :: (Str.ofString "b", vL (limbs w y)) :: (Str.ofString "w", vI w) :: (Str.ofString "found", oL gs) :: (Str.ofString "mask", vI (2 ^ w - 1)) :: (Str.ofString "at", vI i) :: (Str.ofString "limb", vI ((limbs w x).getD i 0)) :: (Str.ofString "carry", vI c) :: (Str.ofString "spot", t4) :: (Str.ofString "other", t5) :: (Str.ofString "len", Slot.glob) :: (Str.ofString "enumerate", Slot.glob) :: (Str.ofString "normal", Slot.glob) :: []) ∧ t4 ≠ .glob ∧ t5 ≠ .glob ∧ gs.length = (limbs w x).length + (limbs w y).length ∧ Rg (2 ^ w) gs ∧ (∀ k, i + (limbs w y).length ≤ k → gs.getD k 0 = 0) ∧ 0 ≤ c ∧ c < 2 ^ w ∧ val (2 ^ w) gs + c * ((2 ^ w) ^ i * (2 ^ w) ^ s) = val (2 ^ w) fs + (limbs w x).getD i 0 * val (2 ^ w) ((limbs w y).take s) * (2 ^ w) ^ i) ⟨fs, 0, t4, t5, rfl, ht4, ht5, hfl, hfr, hz, by lia, by lia, by simp [val]⟩ ?_ ?_
    · rintro s _ hs ⟨gs, c, t4, t5, rfl, ht4, ht5, hgl, hgr, hgz, hc0, hc1, hgv⟩ K' hK' hR' hBk'
      have h2 := (limbs_rg hw y).getD hB s
      have h3 := hgr.getD hB (i + s)
      have eis : ((i : Int) + s).toNat = i + s := by lia
      repeat' first | (first | with_reducible refine' Z_cons ?_ | with_reducible refine' N_seq ?_ | with_reducible refine' Z_nil ?_ | ((with_reducible refine' E_val ?h ?_); (case h => exact rfl)) | with_reducible refine' E_bin ?_ | ((with_reducible refine' X_own ?h ?_); (case h => exact rfl)) | ((with_reducible refine' E_subOwn ?h ?_); (case h => exact rfl)) | ((with_reducible refine' Z_augK ?h1 ?h3 ?_); (case h1 => (first | exact ofString_ne (by decide) | (refine' canPut_of (s := _) ?h (fun q => ?g); (case h => exact rfl); (case g => first | (cases q; done) | exact absurd q (by assumption))) | assumption)); (case h3 => exact rfl)) | with_reducible refine' X_asInt ?_ | with_reducible refine' B_mask ?_ | with_reducible refine' B_shrN ?_ | with_reducible refine' B_add ?_ | with_reducible refine' B_mul ?_ ?_ | with_reducible refine' I_item ?_ ?_ ?_ ?_ | ((with_reducible refine' Z_turn2 ?h1 ?h2 ?h3 ?h4 ?_); (case h1 => (first | exact ofString_ne (by decide) | (refine' canPut_of (s := _) ?h (fun q => ?g); (case h => exact rfl); (case g => first | (cases q; done) | exact absurd q (by assumption))) | assumption)); (case h2 => (first | exact ofString_ne (by decide) | (refine' canPut_of (s := _) ?h (fun q => ?g); (case h => exact rfl); (case g => first | (cases q; done) | exact absurd q (by assumption))) | assumption)); (case h3 => exact rfl); (case h4 => exact rfl)) | with_reducible refine' Z_set ?_ | ((with_reducible refine' Z_has ?h ?_); (case h => exact rfl)) | ((with_reducible refine' Z_setK ?h ?_ ?_ ?_ ?g ?_); (case h => exact rfl); (case g => exact rfl)) | ((with_reducible refine' Z_aug ?h ?g ?_); (case h => exact rfl); (case g => decide))) | lia
      all_goals simp only [eis]
      have hb := sq_bound h1 h2 ⟨hc0, hc1⟩ h3
      have hd := div_bounds hB hb.1 hb.2
      have hm := mod_bounds (c + (gs.getD (i + s) 0 + (limbs w x).getD i 0 * (limbs w y).getD s 0)) hB
      refine hK' _ ⟨_, _, _, _, rfl, vne, vne, by simpa using hgl, hgr.set _ hm.1 hm.2, ?_, hd.1, hd.2, ?_⟩
      · intro k hk
        rw [getD_set_ne (by lia)]
        exact hgz k hk
      · have hcs := carry_step (2 ^ w) 0 ((2 ^ w) ^ i * (2 ^ w) ^ s) (c + (gs.getD (i + s) 0 + (limbs w x).getD i 0 * (limbs w y).getD s 0))
        rw [val_set _ _ _ (by lia), val_take_succ', Int.pow_succ, Int.pow_add]
        generalize (c + (gs.getD (i + s) 0 + (limbs w x).getD i 0 * (limbs w y).getD s 0)) % 2 ^ w = cm at *
        generalize hq : (c + (gs.getD (i + s) 0 + (limbs w x).getD i 0 * (limbs w y).getD s 0)) / 2 ^ w = cd at *
        grind
    · rintro _ ⟨gs, c, t4, t5, rfl, ht4, ht5, hgl, hgr, hgz, hc0, hc1, hgv⟩
      have eil : ((i : Int) + (limbs w y).length).toNat = i + (limbs w y).length := by lia
      repeat' first | (first | with_reducible refine' Z_cons ?_ | with_reducible refine' N_seq ?_ | with_reducible refine' Z_nil ?_ | ((with_reducible refine' E_val ?h ?_); (case h => exact rfl)) | with_reducible refine' E_bin ?_ | ((with_reducible refine' E_len ?h ?g ?_); (case h => exact rfl); (case g => exact rfl)) | with_reducible refine' X_lenI ?_ ?_ | with_reducible refine' B_add ?_ | with_reducible refine' Z_set ?_ | ((with_reducible refine' Z_has ?h ?_); (case h => exact rfl)) | ((with_reducible refine' Z_setK ?h ?_ ?_ ?_ ?g ?_); (case h => exact rfl); (case g => exact rfl))) | lia
      all_goals simp only [eil]
      refine hK _ ⟨_, _, _, _, _, _, rfl, vne, vne, vne, ht4, ht5, by simpa using hgl, hgr.set _ hc0 hc1, ?_, ?_⟩
      · intro k hk
        rw [getD_set_ne (by lia)]
        exact hgz k (by lia)
      · rw [List.take_length, limbs_val hw] at hgv
        rw [val_set _ _ _ (by lia), val_take_succ', hgz _ (Nat.le_refl _), Int.pow_add]
        grind
  · rintro _ ⟨fs, t1, t2, t3, t4, t5, rfl, ht1, ht2, ht3, ht4, ht5, hfl, hfr, hz, hv⟩
    rw [List.take_length, limbs_val hw] at hv
    repeat' first | (first | with_reducible refine' Z_cons ?_ | with_reducible refine' N_seq ?_ | with_reducible refine' R_seq ?_ | with_reducible refine' R_is ?_ | ((with_reducible refine' E_own ?h ?g ?_); (case h => exact rfl); (case g => exact rfl)) | ((with_reducible refine' Z_user ?h ?g ?_); (case h => exact rfl); (case g => exact fun q => by cases q)) | with_reducible refine' Es_nil ?_ | with_reducible refine' Es_cons ?_ | with_reducible refine' Z_ret ?_) | (refine Z_useK (SNormal.mk w fs hw hfr (by lia)) ?_) | lia
    rw [hv, show ((x : Int) * y).toNat = x * y by rw [← Int.natCast_mul]; rfl]
/-- divrem_small -/
noncomputable abbrev CSmall : Ctx := ⟨Str.ofString "", [(Str.ofString "divrem_limb", SDivLimb)], []⟩
inductive SDivSmall : SpecF
  | mk (w x y : Nat) : 0 < w → w ≤ 60 → Num x → 0 < y → y < 2 ^ w → SDivSmall [dN w x, dN w y, vInt w] (.dat (.tuple [pN w (x / y), pN w (x % y)]))
theorem limbs_one {w r : Nat} (hw : 0 < w) (h0 : 0 < r) (h : r < 2 ^ w) : limbs w r = [(r : Int)] := by
  rw [limbs_pos hw h0, Nat.mod_eq_of_lt h, Nat.div_eq_of_lt h, limbs_zero]
theorem w_divrem_small (ds r) (h : SDivSmall ds r) : ds.length = 3 ∧ wpSs CSmall (wpR CSmall 2) (recI 30).body (putPs (base0 (recI 30).scope.names) ([Str.ofString "a", Str.ofString "b", Str.ofString "w"].zip ds)) fun fl _ => retIs r fl := by
  obtain ⟨w, x, y, hw, hw1, hx, hy0, hy⟩ := h
  refine ⟨rfl, ?_⟩
  have e := limbs_one hw hy0 hy
  have hl1 : [(y : Int)].length = 1 := rfl
  have hr : x % y < y := Nat.mod_lt _ hy0
  have e' : dN w y = dL [(y : Int)] := by rw [dN, e]
  rw [e']
  rw [show (recI 30).scope.names = [(Str.ofString "a", .local), (Str.ofString "b", .local), (Str.ofString "w", .local), (Str.ofString "quotient", .local), (Str.ofString "rest", .local), (Str.ofString "divrem_limb", .globalImplicit)] from rfl]
  simp only [base0, putPs, put, List.foldl_cons, List.foldl_nil, List.zip_cons_cons, List.zip_nil_right, List.zip_nil_left, ofString_beq, String.reduceBEq, Bool.false_eq_true, if_false, if_true, beq_self_eq_true]
  conv => arg 3; whnf
  repeat' first | (first | with_reducible refine' Z_cons ?_ | with_reducible refine' N_seq ?_ | with_reducible refine' R_seq ?_ | with_reducible refine' R_is ?_ | ((with_reducible refine' E_val ?h ?_); (case h => exact rfl)) | with_reducible refine' E_int ?_ | with_reducible refine' X_dat ?_ | ((with_reducible refine' E_subVal ?h ?_); (case h => exact rfl)) | ((with_reducible refine' Z_user ?h ?g ?_); (case h => exact rfl); (case g => exact fun q => by cases q)) | with_reducible refine' Es_nil ?_ | with_reducible refine' Es_cons ?_ | with_reducible refine' E_if ?_ | with_reducible refine' E_tup ?_ | with_reducible refine' E_list ?_ | ((with_reducible refine' X_dats ?h ?g ?_); (case h => exact rfl); (case g => exact Nat.le_of_ble_eq_true rfl)) | with_reducible refine' I_item ?_ ?_ ?_ ?_ | with_reducible refine' C_gt ?_ | ((with_reducible refine' br ?_ ?_) <;> intro _) | ((with_reducible refine' T_cmp ?r1 ?_); (case r1 => rfl)) | with_reducible refine' Z_ret ?_ | ((with_reducible refine' Z_tupV ?r1 ?_); (case r1 => rfl)) | ((with_reducible refine' Z_tupVK ?h1 ?h2 ?h4 ?h6 ?h8 ?_); (case h1 => exact rfl); (case h2 => rfl); (case h4 => decide); (case h6 => simp only [List.forall_mem_cons]; (repeat' apply And.intro) <;> first | (first | exact ofString_ne (by decide) | (refine' canPut_of (s := _) ?h (fun q => ?g); (case h => exact rfl); (case g => first | (cases q; done) | exact absurd q (by assumption))) | assumption) | (intro x hx; cases hx)); (case h8 => exact rfl))) | (refine Z_useK (SDivLimb.mk w x y hw hw1 hx hy0 hy) ?_) | lia
  · rename_i h
    have : pN w (x % y) = .list [.int ((x % y : Nat) : Int)] := by rw [pN, limbs_one hw (by lia) (by lia)]; rfl
    rw [this]
  · rename_i h
    have : x % y = 0 := by lia
    rw [this, pN, pN, limbs_zero]
    rfl
/-- guessed_limb -/
inductive SGuess : SpecF
  | mk (w : Nat) (u0 u1 u2 v1 v2 q : Int) : 0 < w → w ≤ 60 → 0 ≤ u0 → u0 < 2 ^ w → 0 ≤ u1 → u1 < 2 ^ w → 0 ≤ u2 → u2 < 2 ^ w → 0 < v1 → v1 < 2 ^ w → 0 ≤ v2 → v2 < 2 ^ w →
      q = (if 2 ^ w - 1 < (u2 * (2 ^ w * 2 ^ w) + u1 * 2 ^ w + u0) / (v1 * 2 ^ w + v2) then 2 ^ w - 1 else (u2 * (2 ^ w * 2 ^ w) + u1 * 2 ^ w + u0) / (v1 * 2 ^ w + v2)) →
      SGuess [dL [u0, u1, u2], vInt v1, vInt v2, vInt w] (vInt q)
theorem w_guessed_limb (ds r) (h : SGuess ds r) : ds.length = 4 ∧ wpSs C0 (wpR C0 2) (recI 31).body (putPs (base0 (recI 31).scope.names) ([Str.ofString "top", Str.ofString "first", Str.ofString "second", Str.ofString "w"].zip ds)) fun fl _ => retIs r fl := by
  obtain ⟨w, u0, u1, u2, v1, v2, q, hw, hw1, a0, b0, a1, b1, a2, b2, c1, d1, c2, d2, hq⟩ := h
  refine ⟨rfl, ?_⟩
  have hB := powB (w := w)
  have h60 := pow60 hw1
  have hl1 : [u0, u1, u2].length = 3 := rfl
  have hhi : 0 ≤ u2 * 2 ^ w := Int.mul_nonneg a2 (by lia)
  have g0 : [u0, u1, u2].getD (Int.toNat 0) 0 = u0 := rfl
  have g1 : [u0, u1, u2].getD (Int.toNat 1) 0 = u1 := rfl
  have g2 : [u0, u1, u2].getD (Int.toNat 2) 0 = u2 := rfl
  generalize hU : u2 * (2 ^ w * 2 ^ w) + u1 * 2 ^ w + u0 = U at *
  generalize hH : u2 * 2 ^ w + u1 = H at *
  have hUH : U = H * 2 ^ w + u0 := by rw [← hU, ← hH]; grind
  have hH0 : 0 ≤ H := by lia
  have hU0 : 0 ≤ U := by rw [hUH]; exact Int.add_nonneg (Int.mul_nonneg hH0 (by lia)) a0
  have hv1 : 0 < v1 * 2 ^ w := Int.mul_pos c1 hB
  have hV0 : 0 < v1 * 2 ^ w + v2 := by lia
  have hq0 : 0 ≤ U / (v1 * 2 ^ w + v2) := Int.ediv_nonneg hU0 (by lia)
  have hUV : U / (v1 * 2 ^ w + v2) ≤ H / v1 := by
    have e := Int.ediv_mul_le U (show v1 * 2 ^ w + v2 ≠ 0 by lia)
    have h1 : U / (v1 * 2 ^ w + v2) * (v1 * 2 ^ w) ≤ U / (v1 * 2 ^ w + v2) * (v1 * 2 ^ w + v2) := Int.mul_le_mul_of_nonneg_left (by lia) hq0
    refine Int.le_ediv_of_mul_le c1 ?_
    have h2 : U / (v1 * 2 ^ w + v2) * v1 * 2 ^ w < (H + 1) * 2 ^ w := by grind
    have := Int.lt_of_mul_lt_mul_right h2 (by lia)
    lia
  have hd0 : 0 ≤ H / v1 := Int.ediv_nonneg hH0 (by lia)
  have hdm := Int.ediv_mul_le H (show v1 ≠ 0 by lia)
  rw [show (recI 31).scope.names = [(Str.ofString "top", .local), (Str.ofString "first", .local), (Str.ofString "second", .local), (Str.ofString "w", .local), (Str.ofString "high", .local), (Str.ofString "base", .local), (Str.ofString "limb", .local), (Str.ofString "rest", .local), (Str.ofString "min", .globalImplicit)] from rfl]
  simp only [base0, putPs, put, List.foldl_cons, List.foldl_nil, List.zip_cons_cons, List.zip_nil_right, List.zip_nil_left, ofString_beq, String.reduceBEq, Bool.false_eq_true, if_false, if_true, beq_self_eq_true]
  conv => arg 3; whnf
  repeat' first | (first | with_reducible refine' Z_cons ?_ | with_reducible refine' N_seq ?_ | ((with_reducible refine' E_val ?h ?_); (case h => exact rfl)) | with_reducible refine' E_int ?_ | with_reducible refine' E_bin ?_ | with_reducible refine' X_dat ?_ | ((with_reducible refine' E_subVal ?h ?_); (case h => exact rfl)) | ((with_reducible refine' E_min ?h ?g ?i ?_); (case h => exact rfl); (case g => exact fun q => by cases q); (case i => rfl)) | with_reducible refine' X_min ?_ | with_reducible refine' Es_nil ?_ | with_reducible refine' Es_cons ?_ | ((with_reducible refine' Z_putI ?h1 ?h2 ?h3 ?_); (case h1 => (first | exact ofString_ne (by decide) | (refine' canPut_of (s := _) ?h (fun q => ?g); (case h => exact rfl); (case g => first | (cases q; done) | exact absurd q (by assumption))) | assumption)); (case h2 => (first | exact ofString_ne (by decide) | (refine' canPut_of (s := _) ?h (fun q => ?g); (case h => exact rfl); (case g => first | (cases q; done) | exact absurd q (by assumption))) | assumption)); (case h3 => exact rfl)) | ((with_reducible refine' Z_put ?h1 ?h2 ?h3 ?_); (case h1 => (first | exact ofString_ne (by decide) | (refine' canPut_of (s := _) ?h (fun q => ?g); (case h => exact rfl); (case g => first | (cases q; done) | exact absurd q (by assumption))) | assumption)); (case h2 => (first | exact ofString_ne (by decide) | (refine' canPut_of (s := _) ?h (fun q => ?g); (case h => exact rfl); (case g => first | (cases q; done) | exact absurd q (by assumption))) | assumption)); (case h3 => exact rfl)) | ((with_reducible refine' B_one ?w1 ?_); (case w1 => omega)) | with_reducible refine' B_sub ?_ | with_reducible refine' B_mul ?_ ?_ | with_reducible refine' B_div ?_ ?_ ?_ | ((with_reducible refine' B_shlN ?w1 ?_ ?_); (case w1 => omega)) | with_reducible refine' B_or ?_ ?_ | with_reducible refine' I_item ?_ ?_ ?_ ?_ | with_reducible refine' Z_asg ?_ | with_reducible refine' F_bin ?_ | ((with_reducible refine' F_val ?r1 ?_); (case r1 => rfl)) | ((with_reducible refine' Z_tup ?r1 ?r2 ?_); (case r1 => rfl); (case r2 => rfl)) | ((with_reducible refine' Z_tupK ?h1 ?h2 ?h3 ?h4 ?h5 ?h6 ?h7 ?h8 ?_); (case h1 => exact rfl); (case h2 => rfl); (case h3 => exact Nat.le_of_ble_eq_true rfl); (case h4 => decide); (case h5 => (first | exact ofString_ne (by decide) | (refine' canPut_of (s := _) ?h (fun q => ?g); (case h => exact rfl); (case g => first | (cases q; done) | exact absurd q (by assumption))) | assumption)); (case h6 => simp only [List.forall_mem_cons]; (repeat' apply And.intro) <;> first | (first | exact ofString_ne (by decide) | (refine' canPut_of (s := _) ?h (fun q => ?g); (case h => exact rfl); (case g => first | (cases q; done) | exact absurd q (by assumption))) | assumption) | (intro x hx; cases hx)); (case h7 => rfl); (case h8 => exact rfl)) | with_reducible refine' S_while ?_) | omega
  all_goals simp only [g0, g1, g2]
  · exact ⟨w, u2, a2, .inl ⟨rfl, a1, b1⟩⟩
  · rw [hH]; split <;> omega
  rw [hH]
  refine while_inv (fun n ρ => ∃ l s, ρ = ((Str.ofString "top", vL [u0, u1, u2]) :: (Str.ofString "first", vI v1) :: (Str.ofString "second", vI v2) :: (Str.ofString "w", vI w) :: (Str.ofString "high", vI H) :: (Str.ofString "base", vI (2 ^ w)) :: (Str.ofString "limb", vI l) :: (Str.ofString "rest", vI s) :: (Str.ofString "min", Slot.glob) :: []) ∧ n = l.toNat ∧ 0 ≤ l ∧ l ≤ 2 ^ w - 1 ∧ q ≤ l ∧ s = H - l * v1 ∧ 0 ≤ s) _ ⟨_, _, rfl, rfl, ?_, ?_, ?_, rfl, ?_⟩ ?_
  · split <;> omega
  · split <;> omega
  · rw [hq]; split <;> split <;> omega
  · split
    · have : (2 ^ w - 1) * v1 ≤ H / v1 * v1 := Int.mul_le_mul_of_nonneg_right (by lia) (by lia)
      lia
    · omega
  · rintro n _ ⟨l, s, rfl, hn, hl0, hl1, hql, hs, hs0⟩ K hK hR
    have hs1 : 0 ≤ s * 2 ^ w := Int.mul_nonneg hs0 (by lia)
    have hlV : l * (v1 * 2 ^ w + v2) = (H - s) * 2 ^ w + l * v2 := by
      have : l * v1 = H - s := by lia
      rw [← this]; grind
    have hqq : l * (v1 * 2 ^ w + v2) ≤ U → l = q := by
      intro h
      have := Int.le_ediv_of_mul_le hV0 h
      rw [hq] at hql ⊢
      split at hql <;> (split <;> omega)
    have hexp : (H - s) * 2 ^ w = H * 2 ^ w - s * 2 ^ w := by grind
    repeat' first | (first | with_reducible refine' Z_cons ?_ | with_reducible refine' N_seq ?_ | with_reducible refine' R_seq ?_ | with_reducible refine' R_is ?_ | with_reducible refine' Z_nil ?_ | ((with_reducible refine' E_val ?h ?_); (case h => exact rfl)) | with_reducible refine' E_int ?_ | with_reducible refine' E_bin ?_ | with_reducible refine' X_dat ?_ | ((with_reducible refine' E_subVal ?h ?_); (case h => exact rfl)) | ((with_reducible refine' Z_augK ?h1 ?h3 ?_); (case h1 => (first | exact ofString_ne (by decide) | (refine' canPut_of (s := _) ?h (fun q => ?g); (case h => exact rfl); (case g => first | (cases q; done) | exact absurd q (by assumption))) | assumption)); (case h3 => exact rfl)) | with_reducible refine' X_asInt ?_ | with_reducible refine' B_add ?_ | with_reducible refine' B_sub ?_ | with_reducible refine' B_mul ?_ ?_ | ((with_reducible refine' B_shlN ?w1 ?_ ?_); (case w1 => omega)) | with_reducible refine' B_or ?_ ?_ | with_reducible refine' I_item ?_ ?_ ?_ ?_ | with_reducible refine' C_lt ?_ | with_reducible refine' C_gt ?_ | ((with_reducible refine' brN ?_ ?_) <;> intro _) | with_reducible refine' brF ?_ | with_reducible refine' brT ?_ | with_reducible refine' R_step ?_ | with_reducible refine' T_bool ?_ | ((with_reducible refine' T_cmp ?r1 ?_); (case r1 => rfl)) | with_reducible refine' Ts_nilA ?_ | with_reducible refine' Ts_and ?_ | with_reducible refine' Z_ret ?_ | ((with_reducible refine' Z_aug ?h ?g ?_); (case h => exact rfl); (case g => decide))) | omega
    all_goals try simp only [g0]
    · exact ⟨w, s, hs0, .inl ⟨rfl, a0, b0⟩⟩
    · rename_i h1 h2
      try simp only [g0] at h2
      have hl : 0 < l := by
        rcases (show l = 0 ∨ 0 < l by lia) with h | h
        · subst h; lia
        · exact h
      have hlt : U / (v1 * 2 ^ w + v2) < l := Int.ediv_lt_of_lt_mul hV0 (by lia)
      refine hK (l - 1).toNat _ (by lia) ⟨_, _, rfl, rfl, by lia, by lia, ?_, ?_, by lia⟩
      · rw [hq]; split <;> omega
      · rw [hs]; grind
    · rename_i h1 h2
      try simp only [g0] at h2
      rw [hqq (by lia)]
    · rename_i h1
      have h3 : l * v2 ≤ (2 ^ w - 1) * (2 ^ w - 1) := Int.mul_le_mul hl1 (by lia) c2 (by lia)
      have h4 : 2 ^ w * 2 ^ w ≤ s * 2 ^ w := Int.mul_le_mul_of_nonneg_right (by lia) (by lia)
      rw [hqq (by grind)]
theorem val_inj {B : Int} (hB : 0 < B) : ∀ {xs ys : List Int}, Rg B xs → Rg B ys → xs.length = ys.length → val B xs = val B ys → xs = ys
  | [], [], _, _, _, _ => rfl
  | x :: xs, y :: ys, hx, hy, hl, hv => by
    have h1 := hx x (.head _)
    have h2 := hy y (.head _)
    rw [val, val] at hv
    have e1 : x = y := by
      have := congrArg (· % B) hv
      simp only [Int.add_mul_emod_self_left] at this
      rwa [Int.emod_eq_of_lt h1.1 h1.2, Int.emod_eq_of_lt h2.1 h2.2] at this
    subst e1
    have e2 : val B xs = val B ys := Int.eq_of_mul_eq_mul_left (show B ≠ 0 by lia) (by lia)
    rw [val_inj hB (fun z hz => hx z (.tail _ hz)) (fun z hz => hy z (.tail _ hz)) (by simpa using hl) e2]
theorem digits {B : Int} (hB : 0 < B) : ∀ (n : Nat) (v : Int), 0 ≤ v → v < B ^ n → ∃ xs : List Int, xs.length = n ∧ Rg B xs ∧ val B xs = v
  | 0, v, h0, h1 => ⟨[], rfl, Rg.nil, by simp at h1; rw [val]; lia⟩
  | n + 1, v, h0, h1 => by
    rw [Int.pow_succ] at h1
    have hd := div_bounds hB h0 h1
    obtain ⟨xs, a, b, c⟩ := digits hB n (v / B) hd.1 hd.2
    have hm := mod_bounds v hB
    exact ⟨(v % B) :: xs, by simp [a], b.cons hm.1 hm.2, by rw [val, c]; exact Int.emod_add_mul_ediv v B⟩
theorem drop_zeros {B : Int} (hB : 0 < B) {xs : List Int} (h : Rg B xs) {k : Nat} (hk : k ≤ xs.length) (hv : val B xs < B ^ k) : xs.drop k = List.replicate (xs.length - k) 0 := by
  refine val_inj hB (h.drop k) (Rg.rep hB _) (by simp) ?_
  rw [val_rep]
  have hs := val_split B xs k hk
  have h1 := (val_bounds hB (h.take k)).1
  have h2 := (val_bounds hB (h.drop k)).1
  have hp := pow_pos' hB k
  rcases (show val B (xs.drop k) = 0 ∨ 1 ≤ val B (xs.drop k) by lia) with e | e
  · exact e
  · have : B ^ k * 1 ≤ B ^ k * val B (xs.drop k) := Int.mul_le_mul_of_nonneg_left e (by lia)
    lia
theorem ov_uniq {X P a b : Int} (hP : 0 < P) (a0 : 0 ≤ X + a * P) (a1 : X + a * P < P) (b0 : 0 ≤ X + b * P) (b1 : X + b * P < P) : a = b := by
  rcases Int.lt_trichotomy a b with h | h | h
  · have : (a + 1) * P ≤ b * P := Int.mul_le_mul_of_nonneg_right (by lia) (by lia)
    grind
  · exact h
  · have : (b + 1) * P ≤ a * P := Int.mul_le_mul_of_nonneg_right (by lia) (by lia)
    grind
/-- the guess is right, or one too great -/
theorem knuth {B E U3 ul V2 vl q : Int} (hB : 2 ≤ B) (hE : 0 < E) (hul0 : 0 ≤ ul) (hul : ul < E) (hvl0 : 0 ≤ vl) (hvl : vl < E) (hU : 0 ≤ U3) (hV : B ≤ V2) (hUV : U3 * E + ul < (V2 * E + vl) * B)
    (hq : q = if B - 1 < U3 / V2 then B - 1 else U3 / V2) : (U3 * E + ul) / (V2 * E + vl) ≤ q ∧ q ≤ (U3 * E + ul) / (V2 * E + vl) + 1 := by
  have hV2E : 0 < V2 * E := Int.mul_pos (by lia) hE
  have hVp : 0 < V2 * E + vl := by lia
  have hU3E : 0 ≤ U3 * E := Int.mul_nonneg hU (by lia)
  have hd0 : 0 ≤ (U3 * E + ul) / (V2 * E + vl) := Int.ediv_nonneg (by lia) (by lia)
  have hdm := Int.ediv_mul_le (U3 * E + ul) (show V2 * E + vl ≠ 0 by lia)
  have hdB : (U3 * E + ul) / (V2 * E + vl) < B := Int.ediv_lt_of_lt_mul hVp (by rw [Int.mul_comm B]; exact hUV)
  have h30 : 0 ≤ U3 / V2 := Int.ediv_nonneg hU (by lia)
  have h3m := Int.ediv_mul_le U3 (show V2 ≠ 0 by lia)
  generalize hd : (U3 * E + ul) / (V2 * E + vl) = d at *
  have le3 : d ≤ U3 / V2 := by
    refine Int.le_ediv_of_mul_le (by lia) ?_
    have h1 : d * (V2 * E) ≤ d * (V2 * E + vl) := Int.mul_le_mul_of_nonneg_left (by lia) hd0
    have h2 : d * V2 * E < (U3 + 1) * E := by grind
    have := Int.lt_of_mul_lt_mul_right h2 (by lia)
    lia
  have q0 : 0 ≤ q := by rw [hq]; split <;> lia
  have qB : q ≤ B - 1 := by rw [hq]; split <;> lia
  have q3 : q ≤ U3 / V2 := by rw [hq]; split <;> lia
  refine ⟨by rw [hq]; split <;> lia, ?_⟩
  have : q - 1 ≤ d := by
    rw [← hd]
    refine Int.le_ediv_of_mul_le hVp ?_
    have h1 : q * V2 ≤ U3 := Int.le_trans (Int.mul_le_mul_of_nonneg_right q3 (by lia)) h3m
    have h2 : q * V2 * E ≤ U3 * E := Int.mul_le_mul_of_nonneg_right h1 (by lia)
    have h3 : q * vl ≤ (B - 1) * E := Int.mul_le_mul qB (by lia) hvl0 (by lia)
    have h4 : B * E ≤ V2 * E := Int.mul_le_mul_of_nonneg_right hV (by lia)
    grind
  lia
/-- take_away -/
inductive STake : SpecM
  | mk (w : Nat) (rs bs rs' : List Int) (l ov : Int) (t : Nat) : 0 < w → w ≤ 60 → Rg (2 ^ w) rs → Rg (2 ^ w) bs → Rg (2 ^ w) rs' → rs.length ≤ 100000 → t + bs.length < rs.length → 0 ≤ l → l < 2 ^ w → rs'.length = rs.length → rs'.drop (t + bs.length + 1) = rs.drop (t + bs.length + 1) →
      val (2 ^ w) rs' = val (2 ^ w) rs - l * val (2 ^ w) bs * (2 ^ w) ^ t + ov * (2 ^ w) ^ (t + bs.length + 1) → STake (IL rs) [dL bs, vInt l, vInt t, vInt w] (vInt ov) (IL rs')
inductive SPut : SpecM
  | mk (w : Nat) (rs bs rs' : List Int) (k : Int) (t : Nat) : 0 < w → w ≤ 60 → Rg (2 ^ w) rs → Rg (2 ^ w) bs → Rg (2 ^ w) rs' → rs.length ≤ 100000 → t + bs.length < rs.length → rs'.length = rs.length → rs'.drop (t + bs.length + 1) = rs.drop (t + bs.length + 1) →
      val (2 ^ w) rs' = val (2 ^ w) rs + val (2 ^ w) bs * (2 ^ w) ^ t - k * (2 ^ w) ^ (t + bs.length + 1) → SPut (IL rs) [dL bs, vInt t, vInt w] (.dat .none) (IL rs')
/-- two lists with one top, and one worth but for a carry, are one -/
theorem same_of {B : Int} (hB : 0 < B) {rs gs hs : List Int} {m : Nat} {X a b : Int} (hm : m ≤ rs.length) (hg : Rg B gs) (hh : Rg B hs) (lg : gs.length = rs.length) (lh : hs.length = rs.length) (dg : gs.drop m = rs.drop m) (dh : hs.drop m = rs.drop m) (vg : val B gs = val B rs + X + a * B ^ m) (vh : val B hs = val B rs + X + b * B ^ m) : gs = hs ∧ a = b := by
  have s1 := val_split B gs m (by lia)
  have s2 := val_split B hs m (by lia)
  have s3 := val_split B rs m hm
  rw [dg] at s1
  rw [dh] at s2
  have b1 := val_bounds hB (hg.take m)
  have b2 := val_bounds hB (hh.take m)
  rw [List.length_take, Nat.min_eq_left (by lia)] at b1 b2
  have hP := pow_pos' hB m
  have : a = b := ov_uniq (X := val B (rs.take m) + X) hP (by lia) (by lia) (by lia) (by lia)
  subst this
  exact ⟨val_inj hB hg hh (by lia) (by lia), rfl⟩
theorem drop_set_lt {gs : List Int} {i k : Nat} {x : Int} (h : i < k) : (gs.set i x).drop k = gs.drop k := List.drop_set_of_lt h
noncomputable abbrev CRest : Ctx := ⟨Str.ofString "rest", [], []⟩
theorem w_put_back (xs ds r ys) (h : SPut xs ds r ys) : ds.length = 3 ∧ wpSs CRest (wpR CRest 2) (recI 33).body (put (putPs (base0 (recI 33).scope.names) ([Str.ofString "b", Str.ofString "at", Str.ofString "w"].zip ds)) (Str.ofString "rest") (.own xs)) fun fl ρ => retIs r fl ∧ got ρ (Str.ofString "rest") = some (.own ys) := by
  obtain ⟨w, rs, bs, rs', k, t, hw, hw1, hr, hb, hr', hrl, htl, hl, hd, hv⟩ := h
  refine ⟨rfl, ?_⟩
  have hB := powB (w := w)
  have h60 := pow60 hw1
  rw [show (recI 33).scope.names = [(Str.ofString "rest", .local), (Str.ofString "b", .local), (Str.ofString "at", .local), (Str.ofString "w", .local), (Str.ofString "carry", .local), (Str.ofString "mask", .local), (Str.ofString "spot", .local), (Str.ofString "other", .local), (Str.ofString "enumerate", .globalImplicit), (Str.ofString "len", .globalImplicit)] from rfl]
  simp only [base0, putPs, put, List.foldl_cons, List.foldl_nil, List.zip_cons_cons, List.zip_nil_right, List.zip_nil_left, ofString_beq, String.reduceBEq, Bool.false_eq_true, if_false, if_true, beq_self_eq_true]
  conv => arg 3; whnf
  repeat' first | (first | with_reducible refine' Z_cons ?_ | with_reducible refine' N_seq ?_ | ((with_reducible refine' E_val ?h ?_); (case h => exact rfl)) | with_reducible refine' E_int ?_ | with_reducible refine' E_bin ?_ | with_reducible refine' Es_nil ?_ | with_reducible refine' Es_cons ?_ | with_reducible refine' X_list ?_ | ((with_reducible refine' B_one ?w1 ?_); (case w1 => lia)) | with_reducible refine' B_sub ?_ | ((with_reducible refine' F_val ?r1 ?_); (case r1 => rfl)) | ((with_reducible refine' Z_tup ?r1 ?r2 ?_); (case r1 => rfl); (case r2 => rfl)) | ((with_reducible refine' Z_tupK ?h1 ?h2 ?h3 ?h4 ?h5 ?h6 ?h7 ?h8 ?_); (case h1 => exact rfl); (case h2 => rfl); (case h3 => exact Nat.le_of_ble_eq_true rfl); (case h4 => decide); (case h5 => (first | exact ofString_ne (by decide) | (refine' canPut_of (s := _) ?h (fun q => ?g); (case h => exact rfl); (case g => first | (cases q; done) | exact absurd q (by assumption))) | assumption)); (case h6 => simp only [List.forall_mem_cons]; (repeat' apply And.intro) <;> first | (first | exact ofString_ne (by decide) | (refine' canPut_of (s := _) ?h (fun q => ?g); (case h => exact rfl); (case g => first | (cases q; done) | exact absurd q (by assumption))) | assumption) | (intro x hx; cases hx)); (case h7 => rfl); (case h8 => exact rfl)) | ((with_reducible refine' S_enum ?h ?r1 ?_); (case h => exact rfl); (case r1 => rfl))) | lia
  refine for_enum (ofString_ne (by decide)) (fun s ρ => ∃ gs c t4 t5, ρ = ((Str.ofString "rest", oL gs) :: (Str.ofString "b", vL bs) :: (Str.ofString "at", vI t) :: (Str.ofString "w", vI w) :: (Str.ofString "carry", vI c) :: (Str.ofString "mask", vI (2 ^ w - 1)) :: (Str.ofString "spot", t4) :: (Str.ofString "other", t5) :: (Str.ofString "enumerate", Slot.glob) :: (Str.ofString "len", Slot.glob) :: []) ∧ t4 ≠ .glob ∧ t5 ≠ .glob ∧ gs.length = rs.length ∧ Rg (2 ^ w) gs ∧ gs.drop (t + s) = rs.drop (t + s) ∧ 0 ≤ c ∧ c ≤ 1 ∧ val (2 ^ w) gs + c * ((2 ^ w) ^ t * (2 ^ w) ^ s) = val (2 ^ w) rs + val (2 ^ w) (bs.take s) * (2 ^ w) ^ t) ⟨rs, 0, .unset, .unset, rfl, une, une, rfl, hr, rfl, by lia, by lia, by simp [val]⟩ ?_ ?_
  · rintro s _ hs ⟨gs, c, t4, t5, rfl, ht4, ht5, hgl, hgr, hgd, hc0, hc1, hgv⟩ K hK hR hBk
    have h2 := hb.getD hB s
    have h3 := hgr.getD hB (t + s)
    have eis : ((t : Int) + s).toNat = t + s := by lia
    repeat' first | (first | with_reducible refine' Z_cons ?_ | with_reducible refine' N_seq ?_ | with_reducible refine' Z_nil ?_ | ((with_reducible refine' E_val ?h ?_); (case h => exact rfl)) | with_reducible refine' E_bin ?_ | ((with_reducible refine' X_own ?h ?_); (case h => exact rfl)) | ((with_reducible refine' E_subOwn ?h ?_); (case h => exact rfl)) | ((with_reducible refine' Z_augK ?h1 ?h3 ?_); (case h1 => (first | exact ofString_ne (by decide) | (refine' canPut_of (s := _) ?h (fun q => ?g); (case h => exact rfl); (case g => first | (cases q; done) | exact absurd q (by assumption))) | assumption)); (case h3 => exact rfl)) | with_reducible refine' X_asInt ?_ | with_reducible refine' B_mask ?_ | with_reducible refine' B_shrN ?_ | with_reducible refine' B_add ?_ | with_reducible refine' I_item ?_ ?_ ?_ ?_ | ((with_reducible refine' Z_turn2 ?h1 ?h2 ?h3 ?h4 ?_); (case h1 => (first | exact ofString_ne (by decide) | (refine' canPut_of (s := _) ?h (fun q => ?g); (case h => exact rfl); (case g => first | (cases q; done) | exact absurd q (by assumption))) | assumption)); (case h2 => (first | exact ofString_ne (by decide) | (refine' canPut_of (s := _) ?h (fun q => ?g); (case h => exact rfl); (case g => first | (cases q; done) | exact absurd q (by assumption))) | assumption)); (case h3 => exact rfl); (case h4 => exact rfl)) | with_reducible refine' Z_set ?_ | ((with_reducible refine' Z_has ?h ?_); (case h => exact rfl)) | ((with_reducible refine' Z_setK ?h ?_ ?_ ?_ ?g ?_); (case h => exact rfl); (case g => exact rfl)) | ((with_reducible refine' Z_aug ?h ?g ?_); (case h => exact rfl); (case g => decide))) | lia
    all_goals simp only [eis]
    have hd := div_bounds (m := 2) hB (c := c + (gs.getD (t + s) 0 + bs.getD s 0)) (by lia) (by lia)
    have hm := mod_bounds (c + (gs.getD (t + s) 0 + bs.getD s 0)) hB
    refine hK _ ⟨_, _, _, _, rfl, vne, vne, by simpa using hgl, hgr.set _ hm.1 hm.2, ?_, hd.1, by lia, ?_⟩
    · rw [drop_set_lt (by lia), show t + (s + 1) = t + s + 1 by lia, ← List.drop_drop, hgd, List.drop_drop]
    · have hcs := carry_step (2 ^ w) 0 ((2 ^ w) ^ t * (2 ^ w) ^ s) (c + (gs.getD (t + s) 0 + bs.getD s 0))
      rw [val_set _ _ _ (by lia), val_take_succ', Int.pow_succ, Int.pow_add]
      grind
  · rintro _ ⟨gs, c, t4, t5, rfl, ht4, ht5, hgl, hgr, hgd, hc0, hc1, hgv⟩
    have eil : ((t : Int) + bs.length).toNat = t + bs.length := by lia
    repeat' first | (first | with_reducible refine' Z_cons ?_ | with_reducible refine' N_seq ?_ | with_reducible refine' Z_nil ?_ | ((with_reducible refine' E_val ?h ?_); (case h => exact rfl)) | with_reducible refine' E_bin ?_ | ((with_reducible refine' X_own ?h ?_); (case h => exact rfl)) | ((with_reducible refine' E_subOwn ?h ?_); (case h => exact rfl)) | ((with_reducible refine' E_len ?h ?g ?_); (case h => exact rfl); (case g => exact rfl)) | with_reducible refine' X_lenI ?_ ?_ | with_reducible refine' B_mask ?_ | with_reducible refine' B_add ?_ | with_reducible refine' I_item ?_ ?_ ?_ ?_ | with_reducible refine' Z_set ?_ | ((with_reducible refine' Z_has ?h ?_); (case h => exact rfl)) | ((with_reducible refine' Z_setK ?h ?_ ?_ ?_ ?g ?_); (case h => exact rfl); (case g => exact rfl))) | lia
    all_goals simp only [eil]
    have hm := mod_bounds (gs.getD (t + bs.length) 0 + c) hB
    have hdm := Int.emod_add_mul_ediv (gs.getD (t + bs.length) 0 + c) (2 ^ w)
    rw [List.take_length] at hgv
    have e := (same_of (gs := gs.set (t + bs.length) ((gs.getD (t + bs.length) 0 + c) % 2 ^ w)) (hs := rs') (rs := rs) (m := t + bs.length + 1) (X := val (2 ^ w) bs * (2 ^ w) ^ t) (a := -((gs.getD (t + bs.length) 0 + c) / 2 ^ w)) (b := -k) hB (by lia) (hgr.set _ hm.1 hm.2) hr' (by simpa using hgl) hl (by
      rw [drop_set_lt (by lia), ← List.drop_drop, hgd, List.drop_drop]) hd (by
      rw [val_set _ _ _ (by lia), Int.pow_succ, Int.pow_add]
      generalize (gs.getD (t + bs.length) 0 + c) % 2 ^ w = cm at *
      generalize (gs.getD (t + bs.length) 0 + c) / 2 ^ w = cd at *
      grind) (by rw [hv]; grind)).1
    rw [e]
    exact M_no (by exact rfl)
theorem take_bound {B l o c : Int} (hl : 0 ≤ l ∧ l < B) (ho : 0 ≤ o ∧ o < B) (hc : 0 ≤ c ∧ c ≤ B) (hB : 2 ≤ B) : 0 ≤ l * o + c ∧ l * o + c < B * B := by
  have h1 : 0 ≤ l * o := Int.mul_nonneg hl.1 ho.1
  have h2 : l * o ≤ (B - 1) * (B - 1) := Int.mul_le_mul (by lia) (by lia) ho.1 (by lia)
  refine ⟨by lia, ?_⟩
  grind
theorem take_step1 {B V c P Q l o T R g cm cd : Int} (hgv : V - c * (P * Q) = R - l * T * P) (hdm : cm + B * cd = l * o + c) : V + (g - cm + B - g) * (P * Q) - (cd + 1) * (P * (Q * B)) = R - l * (T + o * Q) * P := by grind
theorem take_step0 {B V c P Q l o T R g cm cd : Int} (hgv : V - c * (P * Q) = R - l * T * P) (hdm : cm + B * cd = l * o + c) : V + (g - cm - g) * (P * Q) - (cd + 0) * (P * (Q * B)) = R - l * (T + o * Q) * P := by grind
theorem take_end1 {B V c P Q X R g : Int} (hgv : V - c * (P * Q) = R - X) : V + (g - c + B - g) * (P * Q) = R + -X + 1 * (P * Q * B) := by grind
theorem take_end0 {B V c P Q X R g : Int} (hgv : V - c * (P * Q) = R - X) : V + (g - c - g) * (P * Q) = R + -X + 0 * (P * Q * B) := by grind
theorem w_take_away (xs ds r ys) (h : STake xs ds r ys) : ds.length = 4 ∧ wpSs CRest (wpR CRest 2) (recI 32).body (put (putPs (base0 (recI 32).scope.names) ([Str.ofString "b", Str.ofString "limb", Str.ofString "at", Str.ofString "w"].zip ds)) (Str.ofString "rest") (.own xs)) fun fl ρ => retIs r fl ∧ got ρ (Str.ofString "rest") = some (.own ys) := by
  obtain ⟨w, rs, bs, rs', l, ov, t, hw, hw1, hr, hb, hr', hrl, htl, hl0, hl1, hl, hd, hv⟩ := h
  refine ⟨rfl, ?_⟩
  have hB := powB (w := w)
  have hB1 := powB1 hw
  have h60 := pow60 hw1
  rw [show (recI 32).scope.names = [(Str.ofString "rest", .local), (Str.ofString "b", .local), (Str.ofString "limb", .local), (Str.ofString "at", .local), (Str.ofString "w", .local), (Str.ofString "carry", .local), (Str.ofString "base", .local), (Str.ofString "spot", .local), (Str.ofString "other", .local), (Str.ofString "here", .local), (Str.ofString "enumerate", .globalImplicit), (Str.ofString "len", .globalImplicit)] from rfl]
  simp only [base0, putPs, put, List.foldl_cons, List.foldl_nil, List.zip_cons_cons, List.zip_nil_right, List.zip_nil_left, ofString_beq, String.reduceBEq, Bool.false_eq_true, if_false, if_true, beq_self_eq_true]
  conv => arg 3; whnf
  repeat' first | (first | with_reducible refine' Z_cons ?_ | with_reducible refine' N_seq ?_ | ((with_reducible refine' E_val ?h ?_); (case h => exact rfl)) | with_reducible refine' E_int ?_ | with_reducible refine' E_bin ?_ | with_reducible refine' Es_nil ?_ | with_reducible refine' Es_cons ?_ | with_reducible refine' X_list ?_ | ((with_reducible refine' B_one ?w1 ?_); (case w1 => lia)) | ((with_reducible refine' F_val ?r1 ?_); (case r1 => rfl)) | ((with_reducible refine' Z_tup ?r1 ?r2 ?_); (case r1 => rfl); (case r2 => rfl)) | ((with_reducible refine' Z_tupK ?h1 ?h2 ?h3 ?h4 ?h5 ?h6 ?h7 ?h8 ?_); (case h1 => exact rfl); (case h2 => rfl); (case h3 => exact Nat.le_of_ble_eq_true rfl); (case h4 => decide); (case h5 => (first | exact ofString_ne (by decide) | (refine' canPut_of (s := _) ?h (fun q => ?g); (case h => exact rfl); (case g => first | (cases q; done) | exact absurd q (by assumption))) | assumption)); (case h6 => simp only [List.forall_mem_cons]; (repeat' apply And.intro) <;> first | (first | exact ofString_ne (by decide) | (refine' canPut_of (s := _) ?h (fun q => ?g); (case h => exact rfl); (case g => first | (cases q; done) | exact absurd q (by assumption))) | assumption) | (intro x hx; cases hx)); (case h7 => rfl); (case h8 => exact rfl)) | ((with_reducible refine' S_enum ?h ?r1 ?_); (case h => exact rfl); (case r1 => rfl))) | lia
  refine for_enum (ofString_ne (by decide)) (fun s ρ => ∃ gs c t3 t4 t5, ρ = ((Str.ofString "rest", oL gs) :: (Str.ofString "b", vL bs) :: (Str.ofString "limb", vI l) :: (Str.ofString "at", vI t) :: (Str.ofString "w", vI w) :: (Str.ofString "carry", vI c) :: (Str.ofString "base", vI (2 ^ w)) :: (Str.ofString "spot", t4) :: (Str.ofString "other", t5) :: (Str.ofString "here", t3) :: (Str.ofString "enumerate", Slot.glob) :: (Str.ofString "len", Slot.glob) :: []) ∧ t3 ≠ .glob ∧ t4 ≠ .glob ∧ t5 ≠ .glob ∧ gs.length = rs.length ∧ Rg (2 ^ w) gs ∧ gs.drop (t + s) = rs.drop (t + s) ∧ 0 ≤ c ∧ c ≤ 2 ^ w ∧ val (2 ^ w) gs - c * ((2 ^ w) ^ t * (2 ^ w) ^ s) = val (2 ^ w) rs - l * val (2 ^ w) (bs.take s) * (2 ^ w) ^ t) ⟨rs, 0, .unset, .unset, .unset, rfl, une, une, une, rfl, hr, rfl, by lia, by lia, by simp [val]⟩ ?_ ?_
  · rintro s _ hs ⟨gs, c, t3, t4, t5, rfl, ht3, ht4, ht5, hgl, hgr, hgd, hc0, hc1, hgv⟩ K hK hR hBk
    have h2 := hb.getD hB s
    have h3 := hgr.getD hB (t + s)
    have eis : ((t : Int) + s).toNat = t + s := by lia
    have hbd := take_bound ⟨hl0, hl1⟩ h2 ⟨hc0, hc1⟩ hB1
    have hd := div_bounds hB hbd.1 hbd.2
    have hm := mod_bounds (l * bs.getD s 0 + c) hB
    have hdm := Int.emod_add_mul_ediv (l * bs.getD s 0 + c) (2 ^ w)
    have hP : (2 ^ w : Int) ^ (s + 1) = (2 ^ w) ^ s * 2 ^ w := Int.pow_succ _ _
    have hPa : (2 ^ w : Int) ^ (t + s) = (2 ^ w) ^ t * (2 ^ w) ^ s := Int.pow_add _ _ _
    have hts := val_take_succ' (B := 2 ^ w) bs s
    repeat' first | (first | with_reducible refine' Z_cons ?_ | with_reducible refine' N_seq ?_ | with_reducible refine' Z_nil ?_ | ((with_reducible refine' E_val ?h ?_); (case h => exact rfl)) | with_reducible refine' E_int ?_ | with_reducible refine' E_bin ?_ | ((with_reducible refine' X_own ?h ?_); (case h => exact rfl)) | ((with_reducible refine' E_subOwn ?h ?_); (case h => exact rfl)) | with_reducible refine' E_if ?_ | ((with_reducible refine' Z_putI ?h1 ?h2 ?h3 ?_); (case h1 => (first | exact ofString_ne (by decide) | (refine' canPut_of (s := _) ?h (fun q => ?g); (case h => exact rfl); (case g => first | (cases q; done) | exact absurd q (by assumption))) | assumption)); (case h2 => (first | exact ofString_ne (by decide) | (refine' canPut_of (s := _) ?h (fun q => ?g); (case h => exact rfl); (case g => first | (cases q; done) | exact absurd q (by assumption))) | assumption)); (case h3 => exact rfl)) | with_reducible refine' B_add ?_ | with_reducible refine' B_sub ?_ | with_reducible refine' B_mul ?_ ?_ | with_reducible refine' B_div ?_ ?_ ?_ | with_reducible refine' B_mod ?_ ?_ | with_reducible refine' I_item ?_ ?_ ?_ ?_ | with_reducible refine' C_lt ?_ | ((with_reducible refine' br ?_ ?_) <;> intro _) | ((with_reducible refine' Z_turn2 ?h1 ?h2 ?h3 ?h4 ?_); (case h1 => (first | exact ofString_ne (by decide) | (refine' canPut_of (s := _) ?h (fun q => ?g); (case h => exact rfl); (case g => first | (cases q; done) | exact absurd q (by assumption))) | assumption)); (case h2 => (first | exact ofString_ne (by decide) | (refine' canPut_of (s := _) ?h (fun q => ?g); (case h => exact rfl); (case g => first | (cases q; done) | exact absurd q (by assumption))) | assumption)); (case h3 => exact rfl); (case h4 => exact rfl)) | ((with_reducible refine' T_cmp ?r1 ?_); (case r1 => rfl)) | with_reducible refine' Z_asg ?_ | with_reducible refine' F_bin ?_ | with_reducible refine' Z_set ?_ | ((with_reducible refine' Z_has ?h ?_); (case h => exact rfl)) | ((with_reducible refine' Z_setK ?h ?_ ?_ ?_ ?g ?_); (case h => exact rfl); (case g => exact rfl))) | lia
    all_goals try simp only [eis] at *
    all_goals (
      refine hK _ ⟨_, _, _, _, _, rfl, vne, vne, vne, by simpa using hgl, hgr.set _ (by lia) (by lia), ?_, by lia, by lia, ?_⟩
      · rw [drop_set_lt (by lia), show t + (s + 1) = t + s + 1 by lia, ← List.drop_drop, hgd, List.drop_drop]
      · rw [val_set _ _ _ (by lia), hts, hP, hPa]
        first | exact take_step1 hgv hdm | exact take_step0 hgv hdm)
  · rintro _ ⟨gs, c, t3, t4, t5, rfl, ht3, ht4, ht5, hgl, hgr, hgd, hc0, hc1, hgv⟩
    have eil : ((t : Int) + bs.length).toNat = t + bs.length := by lia
    have h3 := hgr.getD hB (t + bs.length)
    rw [List.take_length] at hgv
    repeat' first | (first | with_reducible refine' Z_cons ?_ | with_reducible refine' N_seq ?_ | with_reducible refine' R_seq ?_ | ((with_reducible refine' E_val ?h ?_); (case h => exact rfl)) | with_reducible refine' E_int ?_ | with_reducible refine' E_bin ?_ | ((with_reducible refine' X_own ?h ?_); (case h => exact rfl)) | ((with_reducible refine' E_subOwn ?h ?_); (case h => exact rfl)) | ((with_reducible refine' E_len ?h ?g ?_); (case h => exact rfl); (case g => exact rfl)) | with_reducible refine' X_lenI ?_ ?_ | with_reducible refine' E_if ?_ | ((with_reducible refine' Z_putI ?h1 ?h2 ?h3 ?_); (case h1 => (first | exact ofString_ne (by decide) | (refine' canPut_of (s := _) ?h (fun q => ?g); (case h => exact rfl); (case g => first | (cases q; done) | exact absurd q (by assumption))) | assumption)); (case h2 => (first | exact ofString_ne (by decide) | (refine' canPut_of (s := _) ?h (fun q => ?g); (case h => exact rfl); (case g => first | (cases q; done) | exact absurd q (by assumption))) | assumption)); (case h3 => exact rfl)) | with_reducible refine' B_add ?_ | with_reducible refine' B_sub ?_ | with_reducible refine' I_item ?_ ?_ ?_ ?_ | with_reducible refine' C_lt ?_ | ((with_reducible refine' br ?_ ?_) <;> intro _) | ((with_reducible refine' T_cmp ?r1 ?_); (case r1 => rfl)) | with_reducible refine' Z_asg ?_ | with_reducible refine' Z_ret ?_ | with_reducible refine' F_bin ?_ | with_reducible refine' Z_set ?_ | ((with_reducible refine' Z_has ?h ?_); (case h => exact rfl)) | ((with_reducible refine' Z_setK ?h ?_ ?_ ?_ ?g ?_); (case h => exact rfl); (case g => exact rfl))) | lia
    all_goals try simp only [eil] at *
    · have e := same_of (gs := gs.set (t + bs.length) (gs.getD (t + bs.length) 0 - c + 2 ^ w)) (hs := rs') (rs := rs) (m := t + bs.length + 1) (X := -(l * val (2 ^ w) bs * (2 ^ w) ^ t)) (a := 1) (b := ov) hB (by lia) (hgr.set _ (by lia) (by lia)) hr' (by simpa using hgl) hl (by
        rw [drop_set_lt (by lia), ← List.drop_drop, hgd, List.drop_drop]) hd (by
        rw [val_set _ _ _ (by lia), Int.pow_succ, Int.pow_add]
        exact take_end1 hgv) (by rw [hv]; lia)
      rw [e.1, ← e.2]
      exact M_is rfl (by exact rfl)
    · have e := same_of (gs := gs.set (t + bs.length) (gs.getD (t + bs.length) 0 - c)) (hs := rs') (rs := rs) (m := t + bs.length + 1) (X := -(l * val (2 ^ w) bs * (2 ^ w) ^ t)) (a := 0) (b := ov) hB (by lia) (hgr.set _ (by lia) (by lia)) hr' (by simpa using hgl) hl (by
        rw [drop_set_lt (by lia), ← List.drop_drop, hgd, List.drop_drop]) hd (by
        rw [val_set _ _ _ (by lia), Int.pow_succ, Int.pow_add]
        exact take_end0 hgv) (by rw [hv]; lia)
      rw [e.1, ← e.2]
      exact M_is rfl (by exact rfl)
/-- one row of the division -/
theorem row_guess {B : Int} (hB : 2 ≤ B) {gs bs : List Int} (hg : Rg B gs) (hb : Rg B bs) {n t : Nat} (hn : bs.length = n + 2) (htop : 0 < bs.getD (n + 1) 0) (hl : t + (n + 2) < gs.length) (hv : val B gs < val B bs * B ^ (t + 1)) {q : Int}
    (hq : q = if B - 1 < (gs.getD (t + n + 2) 0 * (B * B) + gs.getD (t + n + 1) 0 * B + gs.getD (t + n) 0) / (bs.getD (n + 1) 0 * B + bs.getD n 0) then B - 1 else (gs.getD (t + n + 2) 0 * (B * B) + gs.getD (t + n + 1) 0 * B + gs.getD (t + n) 0) / (bs.getD (n + 1) 0 * B + bs.getD n 0)) :
    val B (gs.drop t) / val B bs ≤ q ∧ q ≤ val B (gs.drop t) / val B bs + 1 := by
  have hB0 : 0 < B := by lia
  have bV := val_bounds hB0 hb
  have bG := val_bounds hB0 hg
  have hPt := pow_pos' hB0 t
  have hz : val B (gs.drop (t + n + 2 + 1)) = 0 := by
    have hlt : val B gs < B ^ (t + n + 2 + 1) := by
      have h1 : val B bs * B ^ (t + 1) ≤ B ^ (n + 2) * B ^ (t + 1) := Int.mul_le_mul_of_nonneg_right (by rw [← hn]; lia) (by have := pow_pos' hB0 (t + 1); lia)
      rw [← Int.pow_add] at h1
      rw [show t + n + 2 + 1 = n + 2 + (t + 1) by lia]; lia
    rw [drop_zeros hB0 hg (by lia) hlt, val_rep]
  have sV := val_split B bs n (by lia)
  have sW := val_split B (gs.drop t) n (by rw [List.length_drop]; lia)
  rw [List.drop_drop] at sW
  have d0 := val_drop (B := B) gs (t + n) (by lia)
  have d1 := val_drop (B := B) gs (t + n + 1) (by lia)
  have d2 := val_drop (B := B) gs (t + n + 2) (by lia)
  have v0 := val_drop (B := B) bs n (by lia)
  have v1 := val_drop (B := B) bs (n + 1) (by lia)
  rw [List.drop_of_length_le (show bs.length ≤ n + 1 + 1 by lia), val] at v1
  have hu0 := hg.getD hB0 (t + n)
  have hu1 := hg.getD hB0 (t + n + 1)
  have hu2 := hg.getD hB0 (t + n + 2)
  have hw0 := hb.getD hB0 n
  have hw1 := hb.getD hB0 (n + 1)
  have bl := val_bounds hB0 ((hg.drop t).take n)
  have bm := val_bounds hB0 (hb.take n)
  rw [List.length_take, List.length_drop, Nat.min_eq_left (by lia)] at bl
  rw [List.length_take, Nat.min_eq_left (by lia)] at bm
  have hE := pow_pos' hB0 n
  have hWB : val B (gs.drop t) < val B bs * B := by
    have sG := val_split B gs t (by lia)
    have := (val_bounds hB0 (hg.take t)).1
    rw [Int.pow_succ] at hv
    have h2 : B ^ t * val B (gs.drop t) < B ^ t * (val B bs * B) := by grind
    exact Int.lt_of_mul_lt_mul_left h2 (by lia)
  have eW : val B (gs.drop t) = (gs.getD (t + n + 2) 0 * (B * B) + gs.getD (t + n + 1) 0 * B + gs.getD (t + n) 0) * B ^ n + val B ((gs.drop t).take n) := by
    rw [sW, d0, d1, d2, hz]; grind
  have eV : val B bs = (bs.getD (n + 1) 0 * B + bs.getD n 0) * B ^ n + val B (bs.take n) := by
    rw [sV, v0, v1]; grind
  have hUn : 0 ≤ gs.getD (t + n + 2) 0 * (B * B) + gs.getD (t + n + 1) 0 * B + gs.getD (t + n) 0 :=
    Int.add_nonneg (Int.add_nonneg (Int.mul_nonneg hu2.1 (Int.mul_nonneg (by lia) (by lia))) (Int.mul_nonneg hu1.1 (by lia))) hu0.1
  have hVB : B ≤ bs.getD (n + 1) 0 * B + bs.getD n 0 := by
    have : 1 * B ≤ bs.getD (n + 1) 0 * B := Int.mul_le_mul_of_nonneg_right (by lia) (by lia)
    lia
  rw [eW, eV] at hWB ⊢
  exact knuth hB hE bl.1 bl.2 bm.1 bm.2 hUn hVB hWB hq
theorem row_exists {B : Int} (hB : 2 ≤ B) {gs bs : List Int} (hg : Rg B gs) (hb : Rg B bs) {n t : Nat} (hn : bs.length = n + 2) (hV : 0 < val B bs) (hl : t + (n + 2) < gs.length) (hv : val B gs < val B bs * B ^ (t + 1)) {q : Int}
    (h1 : val B (gs.drop t) / val B bs ≤ q) (h2 : q ≤ val B (gs.drop t) / val B bs + 1) :
    ∃ (ov : Int) (r1 : List Int), Rg B r1 ∧ r1.length = gs.length ∧ r1.drop (t + bs.length + 1) = gs.drop (t + bs.length + 1) ∧ val B r1 = val B gs - q * val B bs * B ^ t + ov * B ^ (t + bs.length + 1) ∧
      ((ov = 0 ∧ q = val B (gs.drop t) / val B bs) ∨ (ov = 1 ∧ q = val B (gs.drop t) / val B bs + 1 ∧ ∃ r2 : List Int, Rg B r2 ∧ r2.length = gs.length ∧ r2.drop (t + bs.length + 1) = r1.drop (t + bs.length + 1) ∧ val B r2 = val B gs - (q - 1) * val B bs * B ^ t ∧ val B r2 = val B r1 + val B bs * B ^ t - 1 * B ^ (t + bs.length + 1))) := by
  have hB0 : 0 < B := by lia
  have bV := val_bounds hB0 hb
  have bG := val_bounds hB0 hg
  have hPt := pow_pos' hB0 t
  have hPm := pow_pos' hB0 (t + bs.length + 1)
  have hPmB : B ^ (t + bs.length + 1) = B ^ bs.length * B ^ t * B := by rw [Int.pow_succ, Int.pow_add, Int.mul_comm (B ^ t)]
  have hlt : val B gs < B ^ (t + bs.length + 1) := by
    have h1 : val B bs * B ^ (t + 1) ≤ B ^ bs.length * B ^ (t + 1) := Int.mul_le_mul_of_nonneg_right (by lia) (by have := pow_pos' hB0 (t + 1); lia)
    rw [← Int.pow_add] at h1
    rw [show t + bs.length + 1 = bs.length + (t + 1) by lia]; lia
  have hle : B ^ (t + bs.length + 1) ≤ B ^ gs.length := pow_le' hB0 (by lia)
  have dz : ∀ r : List Int, Rg B r → r.length = gs.length → val B r < B ^ (t + bs.length + 1) → r.drop (t + bs.length + 1) = gs.drop (t + bs.length + 1) := by
    intro r hr hrl hrv
    rw [drop_zeros hB0 hr (by lia) hrv, drop_zeros hB0 hg (by lia) hlt, hrl]
  have sG := val_split B gs t (by lia)
  have bL := val_bounds hB0 (hg.take t)
  rw [List.length_take, Nat.min_eq_left (by lia)] at bL
  have hm := mod_bounds (val B (gs.drop t)) hV
  have hdm := Int.emod_add_mul_ediv (val B (gs.drop t)) (val B bs)
  generalize val B (gs.drop t) / val B bs = d at *
  generalize val B (gs.drop t) % val B bs = m at *
  generalize val B (gs.drop t) = W at *
  generalize val B (gs.take t) = L at *
  generalize hVe : val B bs = V at *
  have eY : val B gs - d * V * B ^ t = L + B ^ t * m := by rw [sG, ← hdm]; grind
  have hm0 : 0 ≤ B ^ t * m := Int.mul_nonneg (by lia) hm.1
  have hm1 : L + B ^ t * m < B ^ t * V := by
    have : B ^ t * (m + 1) ≤ B ^ t * V := Int.mul_le_mul_of_nonneg_left hm.2 (by lia)
    grind
  have hVt : B ^ t * V ≤ B ^ bs.length * B ^ t := by rw [Int.mul_comm]; exact Int.mul_le_mul_of_nonneg_right (by lia) (by lia)
  have hPP : B ^ bs.length * B ^ t ≤ B ^ (t + bs.length + 1) := by
    rw [hPmB]
    have : B ^ bs.length * B ^ t * 1 ≤ B ^ bs.length * B ^ t * B := Int.mul_le_mul_of_nonneg_left (by lia) (Int.mul_nonneg (by have := pow_pos' hB0 bs.length; lia) (by lia))
    lia
  rcases (show q = d ∨ q = d + 1 by lia) with e | e
  · obtain ⟨r1, a, b, c⟩ := digits hB0 gs.length (val B gs - d * V * B ^ t) (by lia) (by lia)
    refine ⟨0, r1, b, a, dz r1 b a (by lia), by rw [c, e]; lia, .inl ⟨rfl, e⟩⟩
  · have eX : val B gs - (d + 1) * V * B ^ t = L + B ^ t * m - B ^ t * V := by rw [← eY]; grind
    obtain ⟨r1, a, b, c⟩ := digits hB0 gs.length (val B gs - (d + 1) * V * B ^ t + B ^ (t + bs.length + 1)) (by lia) (by lia)
    obtain ⟨r2, a2, b2, c2⟩ := digits hB0 gs.length (val B gs - d * V * B ^ t) (by lia) (by lia)
    refine ⟨1, r1, b, a, dz r1 b a (by lia), by rw [c, e]; lia, .inr ⟨rfl, e, r2, b2, a2, ?_, by rw [c2, e]; grind, ?_⟩⟩
    · rw [dz r1 b a (by lia), dz r2 b2 a2 (by lia)]
    · rw [c, c2]; grind
theorem slice3 {gs : List Int} {k : Nat} (h : k + 2 < gs.length) : (gs.drop k).take 3 = [gs.getD k 0, gs.getD (k + 1) 0, gs.getD (k + 2) 0] := by
  rw [List.drop_eq_getElem_cons (by lia), List.drop_eq_getElem_cons (by lia), List.drop_eq_getElem_cons (by lia)]
  simp only [List.take_succ_cons, List.take_zero, List.getD_eq_getElem?_getD]
  rw [List.getElem?_eq_getElem (by lia), List.getElem?_eq_getElem (by lia), List.getElem?_eq_getElem (by lia)]
  rfl
noncomputable abbrev CRows : Ctx := ⟨Str.ofString "rest", [(Str.ofString "guessed_limb", SGuess)], [(Str.ofString "take_away", STake), (Str.ofString "put_back", SPut)]⟩
inductive SRows : SpecM
  | mk (w n m : Nat) (rs bs rs' qs : List Int) : 0 < w → w ≤ 60 → Rg (2 ^ w) rs → Rg (2 ^ w) bs → Rg (2 ^ w) rs' → Rg (2 ^ w) qs → bs.length = n + 2 → 0 < bs.getD (n + 1) 0 → rs.length = n + 2 + m → rs.length ≤ 100000 → val (2 ^ w) rs < val (2 ^ w) bs * (2 ^ w) ^ m → qs.length = m → rs'.length = rs.length →
      val (2 ^ w) qs = val (2 ^ w) rs / val (2 ^ w) bs → val (2 ^ w) rs' = val (2 ^ w) rs % val (2 ^ w) bs → SRows (IL rs) [dL bs, vInt w] (dL qs) (IL rs')
theorem row_lt {B : Int} (hB : 2 ≤ B) {gs : List Int} (hg : Rg B gs) {V : Int} (hV : 0 < V) {t : Nat} (ht : t ≤ gs.length) : val B gs - val B (gs.drop t) / V * V * B ^ t < V * B ^ t := by
  have hB0 : 0 < B := by lia
  have hPt := pow_pos' hB0 t
  have sG := val_split B gs t ht
  have bL := val_bounds hB0 (hg.take t)
  rw [List.length_take, Nat.min_eq_left (by lia)] at bL
  have hm := mod_bounds (val B (gs.drop t)) hV
  have hdm := Int.emod_add_mul_ediv (val B (gs.drop t)) V
  generalize val B (gs.drop t) / V = d at *
  generalize val B (gs.drop t) % V = m at *
  have eY : val B gs - d * V * B ^ t = val B (gs.take t) + B ^ t * m := by rw [sG, ← hdm]; grind
  have : B ^ t * (m + 1) ≤ B ^ t * V := Int.mul_le_mul_of_nonneg_left hm.2 (by lia)
  rw [eY]; grind
theorem row_sum {G V Q d P R : Int} (h : G + V * Q = R) : (G - d * V * P) + V * (Q + (d - 0) * P) = R := by grind
theorem w_divide_rows (xs ds r ys) (h : SRows xs ds r ys) : ds.length = 2 ∧ wpSs CRows (wpR CRows 2) (recI 34).body (put (putPs (base0 (recI 34).scope.names) ([Str.ofString "b", Str.ofString "w"].zip ds)) (Str.ofString "rest") (.own xs)) fun fl ρ => retIs r fl ∧ got ρ (Str.ofString "rest") = some (.own ys) := by
  obtain ⟨w, n, m, rs, bs, rs', qs, hw, hw1, hr, hb, hr', hqr, hn, htop, hm, hrl, hv, hql, hrl', hqv, hrv⟩ := h
  refine ⟨rfl, ?_⟩
  have hB := powB (w := w)
  have hB1 := powB1 hw
  have h60 := pow60 hw1
  have hV : 0 < val (2 ^ w) bs := by
    have h1 := val_split (2 ^ w) bs (n + 1) (by lia)
    have h2 := (val_bounds hB (hb.take (n + 1))).1
    have h3 := val_drop (B := 2 ^ w) bs (n + 1) (by lia)
    rw [List.drop_of_length_le (show bs.length ≤ n + 1 + 1 by lia), val] at h3
    have h4 : 0 < (2 ^ w : Int) ^ (n + 1) * val (2 ^ w) (bs.drop (n + 1)) := Int.mul_pos (pow_pos' hB _) (by lia)
    lia
  rw [show (recI 34).scope.names = [(Str.ofString "rest", .local), (Str.ofString "b", .local), (Str.ofString "w", .local), (Str.ofString "size", .local), (Str.ofString "quotient", .local), (Str.ofString "at", .local), (Str.ofString "limb", .local), (Str.ofString "len", .globalImplicit), (Str.ofString "range", .globalImplicit), (Str.ofString "guessed_limb", .globalImplicit), (Str.ofString "take_away", .globalImplicit), (Str.ofString "put_back", .globalImplicit)] from rfl]
  simp only [base0, putPs, put, List.foldl_cons, List.foldl_nil, List.zip_cons_cons, List.zip_nil_right, List.zip_nil_left, ofString_beq, String.reduceBEq, Bool.false_eq_true, if_false, if_true, beq_self_eq_true]
  conv => arg 3; whnf
  repeat' first | (first | with_reducible refine' Z_cons ?_ | with_reducible refine' N_seq ?_ | ((with_reducible refine' E_val ?h ?_); (case h => exact rfl)) | with_reducible refine' E_int ?_ | with_reducible refine' E_bin ?_ | ((with_reducible refine' E_lenOwnI ?h ?g ?_ ?_); (case h => exact rfl); (case g => exact rfl)) | ((with_reducible refine' E_len ?h ?g ?_); (case h => exact rfl); (case g => exact rfl)) | with_reducible refine' X_lenI ?_ ?_ | with_reducible refine' Es_nil ?_ | with_reducible refine' Es_cons ?_ | ((with_reducible refine' E_neg (U_neg' ?_))) | with_reducible refine' E_list ?_ | ((with_reducible refine' X_dats ?h ?g ?_); (case h => exact rfl); (case g => exact Nat.le_of_ble_eq_true rfl)) | ((with_reducible refine' Z_putL ?h1 ?h2 ?h3 ?_); (case h1 => (first | exact ofString_ne (by decide) | (refine' canPut_of (s := _) ?h (fun q => ?g); (case h => exact rfl); (case g => first | (cases q; done) | exact absurd q (by assumption))) | assumption)); (case h2 => (first | exact ofString_ne (by decide) | (refine' canPut_of (s := _) ?h (fun q => ?g); (case h => exact rfl); (case g => first | (cases q; done) | exact absurd q (by assumption))) | assumption)); (case h3 => exact rfl)) | ((with_reducible refine' Z_put ?h1 ?h2 ?h3 ?_); (case h1 => (first | exact ofString_ne (by decide) | (refine' canPut_of (s := _) ?h (fun q => ?g); (case h => exact rfl); (case g => first | (cases q; done) | exact absurd q (by assumption))) | assumption)); (case h2 => (first | exact ofString_ne (by decide) | (refine' canPut_of (s := _) ?h (fun q => ?g); (case h => exact rfl); (case g => first | (cases q; done) | exact absurd q (by assumption))) | assumption)); (case h3 => exact rfl)) | with_reducible refine' X_asInt ?_ | with_reducible refine' B_sub ?_ | with_reducible refine' B_repI ?_ ?_ ?_ | ((with_reducible refine' okI_of ?_ ?_) <;> lia) | with_reducible refine' Z_asg ?_ | with_reducible refine' F_bin ?_ | ((with_reducible refine' F_val ?r1 ?_); (case r1 => rfl)) | ((with_reducible refine' S_range ?h ?r1 ?g ?r2 ?_); (case h => exact rfl); (case g => exact fun q => by cases q); (case r1 => rfl); (case r2 => rfl)) | with_reducible refine' X_r3 ?_ ?_ ?_) | lia
  refine for_down (fun i ρ => ∃ gs qs' t1 t2, ρ = ((Str.ofString "rest", oL gs) :: (Str.ofString "b", vL bs) :: (Str.ofString "w", vI w) :: (Str.ofString "size", vI bs.length) :: (Str.ofString "quotient", oL qs') :: (Str.ofString "at", t1) :: (Str.ofString "limb", t2) :: (Str.ofString "len", Slot.glob) :: (Str.ofString "range", Slot.glob) :: (Str.ofString "guessed_limb", Slot.glob) :: (Str.ofString "take_away", Slot.glob) :: (Str.ofString "put_back", Slot.glob) :: []) ∧ t1 ≠ .glob ∧ t2 ≠ .glob ∧ gs.length = rs.length ∧ Rg (2 ^ w) gs ∧ qs'.length = m ∧ Rg (2 ^ w) qs' ∧ (∀ k, k < m - i → qs'.getD k 0 = 0) ∧ val (2 ^ w) gs + val (2 ^ w) bs * val (2 ^ w) qs' = val (2 ^ w) rs ∧ val (2 ^ w) gs < val (2 ^ w) bs * (2 ^ w) ^ (m - i)) ⟨rs, List.replicate m 0, .unset, .unset, by rw [show ((rs.length : Int) - bs.length).toNat = m by lia]; rfl, une, une, rfl, hr, by simp, Rg.rep hB _, fun k _ => getD_rep, by rw [val_rep]; simp, by rw [Nat.sub_zero]; exact hv⟩ ?_ ?_
  · rintro i _ hi ⟨gs, qs', t1, t2, rfl, ht1, ht2, hgl, hgr, hql', hqr', hqz, hgv, hglt⟩ K hK hR hBk
    obtain ⟨t, ht⟩ : ∃ t : Nat, m = t + 1 + i := ⟨m - 1 - i, by lia⟩
    have et : ((rs.length : Int) - bs.length - 1 - i) = t := by lia
    rw [et]
    rw [show m - i = t + 1 by lia] at hqz hglt
    have hu0 := hgr.getD hB (t + n)
    have hu1 := hgr.getD hB (t + n + 1)
    have hu2 := hgr.getD hB (t + n + 2)
    have hw0 := hb.getD hB n
    have hw1' := hb.getD hB (n + 1)
    obtain ⟨q, hq⟩ : ∃ q : Int, q = if 2 ^ w - 1 < (gs.getD (t + n + 2) 0 * (2 ^ w * 2 ^ w) + gs.getD (t + n + 1) 0 * 2 ^ w + gs.getD (t + n) 0) / (bs.getD (n + 1) 0 * 2 ^ w + bs.getD n 0) then 2 ^ w - 1 else (gs.getD (t + n + 2) 0 * (2 ^ w * 2 ^ w) + gs.getD (t + n + 1) 0 * 2 ^ w + gs.getD (t + n) 0) / (bs.getD (n + 1) 0 * 2 ^ w + bs.getD n 0) := ⟨_, rfl⟩
    have hgu := row_guess hB1 hgr hb hn htop (by lia) hglt hq
    obtain ⟨ov, r1, hr1, hl1, hd1, hv1, hcase⟩ := row_exists hB1 hgr hb hn hV (by lia) hglt hgu.1 hgu.2
    have hWnn : 0 ≤ val (2 ^ w) (gs.drop t) := (val_bounds hB (hgr.drop t)).1
    have hd0 : 0 ≤ val (2 ^ w) (gs.drop t) / val (2 ^ w) bs := Int.ediv_nonneg hWnn (by lia)
    have hqB : q ≤ 2 ^ w - 1 := by rw [hq]; split <;> lia
    have esl : (gs.drop ((t : Int) + bs.length - 2).toNat).take ((t : Int) + bs.length + 1 - ((t : Int) + bs.length - 2)).toNat = [gs.getD (t + n) 0, gs.getD (t + n + 1) 0, gs.getD (t + n + 2) 0] := by
      rw [show ((t : Int) + bs.length - 2).toNat = t + n by lia, show ((t : Int) + bs.length + 1 - ((t : Int) + bs.length - 2)).toNat = 3 by lia, slice3 (by lia)]
    have eb1 : ((bs.length : Int) - 1).toNat = n + 1 := by lia
    have eb2 : ((bs.length : Int) - 2).toNat = n := by lia
    repeat' first | (first | with_reducible refine' Z_cons ?_ | ((with_reducible refine' E_val ?h ?_); (case h => exact rfl)) | with_reducible refine' E_int ?_ | with_reducible refine' E_bin ?_ | with_reducible refine' X_dat ?_ | ((with_reducible refine' X_own ?h ?_); (case h => exact rfl)) | ((with_reducible refine' E_subOwn ?h ?_); (case h => exact rfl)) | ((with_reducible refine' E_subVal ?h ?_); (case h => exact rfl)) | ((with_reducible refine' Z_user ?h ?g ?_); (case h => exact rfl); (case g => exact fun q => by cases q)) | with_reducible refine' Es_nil ?_ | with_reducible refine' Es_cons ?_ | with_reducible refine' E_slice ?_ | with_reducible refine' O_none ?_ | with_reducible refine' O_some ?_ | with_reducible refine' O_int ?_ | with_reducible refine' B_add ?_ | with_reducible refine' B_sub ?_ | with_reducible refine' I_item ?_ ?_ ?_ ?_ | with_reducible refine' I_mid ?_ ?_ ?_ ?_ ?_ | ((with_reducible refine' Z_turn ?h1 ?h3 ?_); (case h1 => (first | exact ofString_ne (by decide) | (refine' canPut_of (s := _) ?h (fun q => ?g); (case h => exact rfl); (case g => first | (cases q; done) | exact absurd q (by assumption))) | assumption)); (case h3 => exact rfl)) | with_reducible refine' Z_asg ?_ | ((with_reducible refine' F_val ?r1 ?_); (case r1 => rfl))) | lia
    rw [esl, eb1, eb2]
    refine Z_useK (SGuess.mk w _ _ _ _ _ q hw hw1 hu0.1 hu0.2 hu1.1 hu1.2 hu2.1 hu2.2 htop hw1'.2 hw0.1 hw0.2 hq) ?_
    repeat' first | (first | with_reducible refine' Z_cons ?_ | with_reducible refine' N_seq ?_ | ((with_reducible refine' E_val ?h ?_); (case h => exact rfl)) | ((with_reducible refine' Z_mut ?h ?g ?_); (case h => exact rfl); (case g => exact rfl)) | with_reducible refine' Es_nil ?_ | with_reducible refine' Es_cons ?_ | ((with_reducible refine' Z_put ?h1 ?h2 ?h3 ?_); (case h1 => (first | exact ofString_ne (by decide) | (refine' canPut_of (s := _) ?h (fun q => ?g); (case h => exact rfl); (case g => first | (cases q; done) | exact absurd q (by assumption))) | assumption)); (case h2 => (first | exact ofString_ne (by decide) | (refine' canPut_of (s := _) ?h (fun q => ?g); (case h => exact rfl); (case g => first | (cases q; done) | exact absurd q (by assumption))) | assumption)); (case h3 => exact rfl)) | ((with_reducible refine' T_cmp ?r1 ?_); (case r1 => rfl)) | with_reducible refine' S_if ?_) | lia
    refine Z_mutK (ys := IL r1) (r := vInt ov) (by exact rfl) (STake.mk w gs bs r1 q ov t hw hw1 hgr hb hr1 (by lia) (by lia) (by lia) (by lia) hl1 hd1 hv1) (by exact rfl) ?_
    repeat' first | (first | with_reducible refine' Z_cons ?_ | with_reducible refine' N_seq ?_ | with_reducible refine' Z_nil ?_ | ((with_reducible refine' E_val ?h ?_); (case h => exact rfl)) | with_reducible refine' E_int ?_ | ((with_reducible refine' Z_mut ?h ?g ?_); (case h => exact rfl); (case g => exact rfl)) | with_reducible refine' Es_nil ?_ | with_reducible refine' Es_cons ?_ | ((with_reducible refine' Z_augK ?h1 ?h3 ?_); (case h1 => (first | exact ofString_ne (by decide) | (refine' canPut_of (s := _) ?h (fun q => ?g); (case h => exact rfl); (case g => first | (cases q; done) | exact absurd q (by assumption))) | assumption)); (case h3 => exact rfl)) | with_reducible refine' X_asInt ?_ | with_reducible refine' B_sub ?_ | with_reducible refine' C_eq ?_ | ((with_reducible refine' br ?_ ?_) <;> intro _) | with_reducible refine' Z_set ?_ | ((with_reducible refine' Z_has ?h ?_); (case h => exact rfl)) | ((with_reducible refine' Z_setK ?h ?_ ?_ ?_ ?g ?_); (case h => exact rfl); (case g => exact rfl)) | ((with_reducible refine' Z_aug ?h ?g ?_); (case h => exact rfl); (case g => decide)) | with_reducible refine' Z_expr ?_) | lia
    · rename_i hov
      rcases hcase with ⟨h0, _⟩ | ⟨_, hqd, r2, hr2, hl2, hd2, hv2, hv2'⟩
      · lia
      refine Z_mutK (ys := IL r2) (r := .dat .none) (by exact rfl) (SPut.mk w r1 bs r2 1 t hw hw1 hr1 hb hr2 (by lia) (by lia) (by lia) hd2 hv2') (by exact rfl) ?_
      repeat' first | (first | with_reducible refine' Z_cons ?_ | with_reducible refine' N_seq ?_ | with_reducible refine' Z_nil ?_ | ((with_reducible refine' E_val ?h ?_); (case h => exact rfl)) | with_reducible refine' Z_set ?_ | ((with_reducible refine' Z_has ?h ?_); (case h => exact rfl)) | ((with_reducible refine' Z_setK ?h ?_ ?_ ?_ ?g ?_); (case h => exact rfl); (case g => exact rfl))) | lia
      have eq1 : q - 1 = val (2 ^ w) (gs.drop t) / val (2 ^ w) bs := by lia
      rw [eq1] at hv2 ⊢
      refine hK _ ⟨_, _, _, _, rfl, vne, vne, by lia, hr2, by simpa using hql', hqr'.set _ hd0 (by lia), ?_, ?_, ?_⟩
      · intro k hk
        rw [getD_set_ne (by lia)]; exact hqz k (by lia)
      · rw [val_set _ _ _ (by lia), hv2, Int.toNat_natCast, hqz t (by lia)]
        exact row_sum hgv
      · rw [hv2, show m - (i + 1) = t by lia]
        exact row_lt hB1 hgr hV (by lia)
    · rename_i hov
      rcases hcase with ⟨h0, hqd⟩ | ⟨h1, _⟩
      rotate_left
      · lia
      rw [h0, Int.zero_mul, Int.add_zero, hqd] at hv1
      rw [hqd]
      rw [hqd] at hqB
      refine hK _ ⟨_, _, _, _, rfl, vne, vne, by lia, hr1, by simpa using hql', hqr'.set _ (by lia) (by lia), ?_, ?_, ?_⟩
      · intro k hk
        rw [getD_set_ne (by lia)]; exact hqz k (by lia)
      · rw [val_set _ _ _ (by lia), hv1, Int.toNat_natCast, hqz t (by lia)]
        exact row_sum hgv
      · rw [hv1, show m - (i + 1) = t by lia]
        exact row_lt hB1 hgr hV (by lia)
  · rintro _ ⟨gs, qs', t1, t2, rfl, ht1, ht2, hgl, hgr, hql', hqr', hqz, hgv, hglt⟩
    rw [show m - ((rs.length : Int) - bs.length - 1 - -1).toNat = 0 by lia, Int.pow_zero, Int.mul_one] at hglt
    have hg0 := (val_bounds hB hgr).1
    have e1 : val (2 ^ w) qs' = val (2 ^ w) rs / val (2 ^ w) bs := by
      rw [← hgv, Int.add_mul_ediv_left _ _ (by lia), Int.ediv_eq_zero_of_lt hg0 hglt, Int.zero_add]
    have e2 : val (2 ^ w) gs = val (2 ^ w) rs % val (2 ^ w) bs := by
      rw [← hgv, Int.add_mul_emod_self_left, Int.emod_eq_of_lt hg0 hglt]
    have e3 : qs' = qs := val_inj hB hqr' hqr (by lia) (by lia)
    have e4 : gs = rs' := val_inj hB hgr hr' (by lia) (by lia)
    subst e3 e4
    repeat' first | (first | with_reducible refine' Z_cons ?_ | with_reducible refine' N_seq ?_ | with_reducible refine' R_seq ?_ | ((with_reducible refine' M_is ?_ ?h); (case h => exact rfl)) | ((with_reducible refine' E_own ?h ?g ?_); (case h => exact rfl); (case g => exact rfl)) | with_reducible refine' Z_ret ?_ | with_reducible rfl) | lia
    all_goals trace_state
theorem len_of_lt {w n k : Nat} (hw : 0 < w) (h : (n : Int) < (2 ^ w) ^ k) : (limbs w n).length ≤ k := by
  rcases Nat.lt_or_ge k (limbs w n).length with hk | hk
  · have h1 := top_le powB (limbs_rg hw n) (limbs_top hw n) (by intro e; rw [e] at hk; simp at hk)
    have h2 := pow_le' (powB (w := w)) (show k ≤ (limbs w n).length - 1 by lia)
    rw [limbs_val hw] at h1
    lia
  · exact hk
theorem len_of_ge {w n k : Nat} (hw : 0 < w) (h : (2 ^ w) ^ k ≤ (n : Int)) : k < (limbs w n).length := by
  rcases Nat.lt_or_ge k (limbs w n).length with hk | hk
  · exact hk
  · have h1 := (val_bounds powB (limbs_rg hw n)).2
    have h2 := pow_le' (powB (w := w)) hk
    rw [limbs_val hw] at h1
    lia
theorem lt_len {w : Nat} (hw : 0 < w) (n : Nat) : (n : Int) < (2 ^ w) ^ (limbs w n).length := by
  have h1 := (val_bounds powB (limbs_rg hw n)).2
  rwa [limbs_val hw] at h1
theorem le_len {w n : Nat} (hw : 0 < w) (h : 0 < (limbs w n).length) : (2 ^ w) ^ ((limbs w n).length - 1) ≤ (n : Int) := by
  have h1 := top_le powB (limbs_rg hw n) (limbs_top hw n) (by intro e; rw [e] at h; simp at h)
  rwa [limbs_val hw] at h1
theorem limbs_ne {w n : Nat} (hw : 0 < w) (h : 0 < n) : 0 < (limbs w n).length := by
  rw [limbs_pos hw h]; simp
theorem last_pos {w n : Nat} (hw : 0 < w) (h : 0 < (limbs w n).length) : 0 < (limbs w n).getD ((limbs w n).length - 1) 0 := by
  have hr := (limbs_rg hw n).getD powB ((limbs w n).length - 1)
  have ht := limbs_top hw n ((limbs w n).getD ((limbs w n).length - 1) 0) (by
    rw [List.getLast?_eq_getElem?, List.getD_eq_getElem?_getD, List.getElem?_eq_getElem (by lia)]; rfl)
  lia
theorem lt_last {w n : Nat} (hw : 0 < w) (h : 0 < (limbs w n).length) : (n : Int) < ((limbs w n).getD ((limbs w n).length - 1) 0 + 1) * (2 ^ w) ^ ((limbs w n).length - 1) := by
  have h1 := val_take_succ (B := 2 ^ w) (limbs w n) ((limbs w n).length - 1) (by lia)
  rw [show (limbs w n).length - 1 + 1 = (limbs w n).length by lia, List.take_length, limbs_val hw] at h1
  have h2 := (val_bounds powB ((limbs_rg hw n).take ((limbs w n).length - 1))).2
  rw [List.length_take, Nat.min_eq_left (by lia)] at h2
  grind
noncomputable abbrev Sm (n : Nat) : Prop := n < 2 ^ 19000
theorem Sm.num {n : Nat} (h : Sm n) : Num n := Nat.lt_of_lt_of_le h (Nat.pow_le_pow_right (by decide) (by decide))
theorem Sm.shl {n s : Nat} (h : Sm n) (hs : s ≤ 60) : Num (n * 2 ^ s) := by
  have h1 : 2 ^ s ≤ 2 ^ 60 := Nat.pow_le_pow_right (by decide) hs
  have h2 : n * 2 ^ s < 2 ^ 19000 * 2 ^ 60 := Nat.lt_of_le_of_lt (Nat.mul_le_mul_left n h1) (Nat.mul_lt_mul_of_pos_right h (by decide))
  rw [← Nat.pow_add] at h2
  exact Nat.lt_of_lt_of_le h2 (Nat.pow_le_pow_right (by decide) (by decide))
noncomputable abbrev CDiv : Ctx := ⟨Str.ofString "", [(Str.ofString "compare", SCompare), (Str.ofString "divrem_small", SDivSmall), (Str.ofString "bits", SBits), (Str.ofString "shift_left", SShl), (Str.ofString "normal", SNormal), (Str.ofString "shift_right", SShr)], [(Str.ofString "divide_rows", SRows)]⟩
inductive SDiv : SpecF
  | mk (w x y : Nat) : 0 < w → w ≤ 60 → Sm x → Sm y → 0 < y → SDiv [dN w x, dN w y, vInt w] (.dat (.tuple [pN w (x / y), pN w (x % y)]))
theorem w_divrem_school (ds r) (h : SDiv ds r) : ds.length = 3 ∧ wpSs CDiv (wpR CDiv 2) (recI 35).body (putPs (base0 (recI 35).scope.names) ([Str.ofString "a", Str.ofString "b", Str.ofString "w"].zip ds)) fun fl _ => retIs r fl := by
  obtain ⟨w, x, y, hw, hw1, hx, hy, hy0⟩ := h
  refine ⟨rfl, ?_⟩
  have hB := powB (w := w)
  have hB1 := powB1 hw
  have hlx := len_le hw hx.num
  have hly := len_le hw hy.num
  have hyn := limbs_ne hw hy0
  rw [show (recI 35).scope.names = [(Str.ofString "a", .local), (Str.ofString "b", .local), (Str.ofString "w", .local), (Str.ofString "shift", .local), (Str.ofString "divisor", .local), (Str.ofString "rest", .local), (Str.ofString "quotient", .local), (Str.ofString "len", .globalImplicit), (Str.ofString "DivisionByZero", .globalImplicit), (Str.ofString "compare", .globalImplicit), (Str.ofString "divrem_small", .globalImplicit), (Str.ofString "bits", .globalImplicit), (Str.ofString "shift_left", .globalImplicit), (Str.ofString "divide_rows", .globalImplicit), (Str.ofString "normal", .globalImplicit), (Str.ofString "shift_right", .globalImplicit)] from rfl]
  simp only [base0, putPs, put, List.foldl_cons, List.foldl_nil, List.zip_cons_cons, List.zip_nil_right, List.zip_nil_left, ofString_beq, String.reduceBEq, Bool.false_eq_true, if_false, if_true, beq_self_eq_true]
  conv => arg 3; whnf
  repeat' first | (first | with_reducible refine' Z_cons ?_ | with_reducible refine' N_seq ?_ | with_reducible refine' R_seq ?_ | with_reducible refine' R_is ?_ | with_reducible refine' Z_nil ?_ | ((with_reducible refine' E_val ?h ?_); (case h => exact rfl)) | with_reducible refine' E_int ?_ | with_reducible refine' X_dat ?_ | ((with_reducible refine' E_subVal ?h ?_); (case h => exact rfl)) | ((with_reducible refine' E_len ?h ?g ?_); (case h => exact rfl); (case g => exact rfl)) | ((with_reducible refine' Z_user ?h ?g ?_); (case h => exact rfl); (case g => exact fun q => by cases q)) | with_reducible refine' X_lenI ?_ ?_ | with_reducible refine' Es_nil ?_ | with_reducible refine' Es_cons ?_ | ((with_reducible refine' E_neg (U_neg' ?_))) | with_reducible refine' E_tup ?_ | with_reducible refine' E_list ?_ | with_reducible refine' E_slice ?_ | with_reducible refine' O_none ?_ | ((with_reducible refine' X_dats ?h ?g ?_); (case h => exact rfl); (case g => exact Nat.le_of_ble_eq_true rfl)) | with_reducible refine' X_asInt ?_ | with_reducible refine' I_last ?_ ?_ ?_ | with_reducible refine' I_all ?_ ?_ | with_reducible refine' C_lt ?_ | with_reducible refine' C_eq ?_ | ((with_reducible refine' br ?_ ?_) <;> intro _) | ((with_reducible refine' T_cmp ?r1 ?_); (case r1 => rfl)) | with_reducible refine' Z_asg ?_ | with_reducible refine' Z_ret ?_ | with_reducible refine' S_if ?_ | with_reducible refine' F_bin ?_) | (refine Z_useK (SCompare.mk w x y hw hx.num hy.num) ?_) | lia
  · rename_i h0 h1
    have hxy : x < y := by unfold sgn at h1; split at h1 <;> (try split at h1) <;> lia
    rw [Nat.div_eq_of_lt hxy, Nat.mod_eq_of_lt hxy, pN, pN, limbs_zero]
    rfl
  · rename_i h0 h1 h2
    have hyw : y < 2 ^ w := by
      have := lt_len hw y
      rw [show (limbs w y).length = 1 by lia, Int.pow_one, ← pw] at this
      exact_mod_cast this
    refine Z_useK (SDivSmall.mk w x y hw hw1 hx.num hy0 hyw) ?_
    repeat' first | (first | with_reducible refine' R_seq ?_ | with_reducible refine' R_is ?_ | with_reducible rfl) | lia
  · rename_i h0 h1 h2
    have hyx : y ≤ x := by unfold sgn at h1; split at h1 <;> (try split at h1) <;> lia
    have hll : (limbs w y).length ≤ (limbs w x).length := by
      rcases Nat.lt_or_ge (limbs w x).length (limbs w y).length with h | h
      · have := len_lt hw h; lia
      · exact h
    have hlr := (limbs_rg hw y).getD hB ((limbs w y).length - 1)
    have hl0 := last_pos hw hyn
    generalize hl : (limbs w y).getD ((limbs w y).length - 1) 0 = l at *
    refine Z_useK (SBits.mk w l) ?_
    repeat' first | (first | with_reducible refine' Z_cons ?_ | with_reducible refine' N_seq ?_ | ((with_reducible refine' E_val ?h ?_); (case h => exact rfl)) | ((with_reducible refine' Z_user ?h ?g ?_); (case h => exact rfl); (case g => exact fun q => by cases q)) | with_reducible refine' Es_nil ?_ | with_reducible refine' Es_cons ?_ | ((with_reducible refine' Z_putI ?h1 ?h2 ?h3 ?_); (case h1 => (first | exact ofString_ne (by decide) | (refine' canPut_of (s := _) ?h (fun q => ?g); (case h => exact rfl); (case g => first | (cases q; done) | exact absurd q (by assumption))) | assumption)); (case h2 => (first | exact ofString_ne (by decide) | (refine' canPut_of (s := _) ?h (fun q => ?g); (case h => exact rfl); (case g => first | (cases q; done) | exact absurd q (by assumption))) | assumption)); (case h3 => exact rfl)) | with_reducible refine' B_sub ?_ | with_reducible refine' Z_asg ?_ | ((with_reducible refine' F_val ?r1 ?_); (case r1 => rfl))) | lia
    have hbl : Builtin.Int.intBits l ≤ w := intBits_le_iff.mpr (by
      have : ((l.natAbs : Nat) : Int) < ((2 ^ w : Nat) : Int) := by rw [pw]; lia
      exact_mod_cast this)
    have hbl0 : 0 < Builtin.Int.intBits l := by
      rcases Nat.eq_zero_or_pos (Builtin.Int.intBits l) with e | e
      · have := intBits_le_iff.mp (Nat.le_of_eq e)
        rw [Nat.pow_zero] at this
        lia
      · exact e
    have hlb : l + 1 ≤ 2 ^ Builtin.Int.intBits l := by
      have := intBits_le_iff.mp (Nat.le_refl (Builtin.Int.intBits l))
      have h3 : ((l.natAbs : Nat) : Int) < ((2 ^ Builtin.Int.intBits l : Nat) : Int) := by exact_mod_cast this
      rw [pw] at h3
      lia
    obtain ⟨s, hs⟩ : ∃ s : Nat, s = w - Builtin.Int.intBits l := ⟨_, rfl⟩
    have hsw : s < w := by lia
    have es : (w : Int) - (Builtin.Int.intBits l : Nat) = (s : Int) := by lia
    rw [es]
    have hS := powB (w := s)
    have hSe : (2 : Int) ^ Builtin.Int.intBits l * 2 ^ s = 2 ^ w := by rw [← Int.pow_add]; congr 1; lia
    have cy : ((y * 2 ^ s : Nat) : Int) = y * 2 ^ s := by rw [Int.natCast_mul, pw]
    have cx : ((x * 2 ^ s : Nat) : Int) = x * 2 ^ s := by rw [Int.natCast_mul, pw]
    have hyl : (limbs w (y * 2 ^ s)).length = (limbs w y).length := by
      have a1 := lt_last hw hyn
      rw [hl] at a1
      have hp := pow_pos' hB ((limbs w y).length - 1)
      have u1 : (limbs w (y * 2 ^ s)).length ≤ (limbs w y).length := by
        refine len_of_lt hw ?_
        rw [cy]
        have a2 : (l + 1) * (2 ^ w) ^ ((limbs w y).length - 1) ≤ 2 ^ Builtin.Int.intBits l * (2 ^ w) ^ ((limbs w y).length - 1) := Int.mul_le_mul_of_nonneg_right hlb (by lia)
        have a3 : (y : Int) * 2 ^ s < 2 ^ Builtin.Int.intBits l * (2 ^ w) ^ ((limbs w y).length - 1) * 2 ^ s := Int.mul_lt_mul_of_pos_right (by lia) hS
        have a4 : (2 : Int) ^ Builtin.Int.intBits l * (2 ^ w) ^ ((limbs w y).length - 1) * 2 ^ s = (2 ^ w) ^ (limbs w y).length := by
          conv => rhs; rw [show (limbs w y).length = (limbs w y).length - 1 + 1 by lia, Int.pow_succ, ← hSe]
          rw [hSe]
          grind
        lia
      have u2 : (limbs w y).length - 1 < (limbs w (y * 2 ^ s)).length := by
        refine len_of_ge hw ?_
        have a2 := le_len hw hyn
        have a3 : (y : Int) * 1 ≤ y * 2 ^ s := Int.mul_le_mul_of_nonneg_left (by lia) (by lia)
        rw [cy]; lia
      lia
    have hxl : (limbs w (x * 2 ^ s)).length ≤ (limbs w x).length + 1 := by
      refine len_of_lt hw ?_
      rw [cx, Int.pow_succ]
      have a1 := lt_len hw x
      have a2 : (2 : Int) ^ s ≤ 2 ^ w := pow_le' (by decide) (by lia)
      have a3 : (x : Int) * 2 ^ s < (2 ^ w) ^ (limbs w x).length * 2 ^ s := Int.mul_lt_mul_of_pos_right a1 hS
      have a4 : ((2 : Int) ^ w) ^ (limbs w x).length * 2 ^ s ≤ (2 ^ w) ^ (limbs w x).length * 2 ^ w := Int.mul_le_mul_of_nonneg_left a2 (by have := pow_pos' hB (limbs w x).length; lia)
      lia
    refine Z_useK (SShl.mk w y s hw hw1 hy.num hsw) ?_
    repeat' first | (first | with_reducible refine' Z_cons ?_ | with_reducible refine' N_seq ?_ | ((with_reducible refine' E_val ?h ?_); (case h => exact rfl)) | with_reducible refine' E_int ?_ | with_reducible refine' E_bin ?_ | ((with_reducible refine' E_len ?h ?g ?_); (case h => exact rfl); (case g => exact rfl)) | ((with_reducible refine' Z_user ?h ?g ?_); (case h => exact rfl); (case g => exact fun q => by cases q)) | ((with_reducible refine' Z_mut ?h ?g ?_); (case h => exact rfl); (case g => exact rfl)) | with_reducible refine' X_lenI ?_ ?_ | with_reducible refine' Es_nil ?_ | with_reducible refine' Es_cons ?_ | with_reducible refine' E_list ?_ | ((with_reducible refine' X_dats ?h ?g ?_); (case h => exact rfl); (case g => exact Nat.le_of_ble_eq_true rfl)) | ((with_reducible refine' Z_putL ?h1 ?h2 ?h3 ?_); (case h1 => (first | exact ofString_ne (by decide) | (refine' canPut_of (s := _) ?h (fun q => ?g); (case h => exact rfl); (case g => first | (cases q; done) | exact absurd q (by assumption))) | assumption)); (case h2 => (first | exact ofString_ne (by decide) | (refine' canPut_of (s := _) ?h (fun q => ?g); (case h => exact rfl); (case g => first | (cases q; done) | exact absurd q (by assumption))) | assumption)); (case h3 => exact rfl)) | ((with_reducible refine' Z_put ?h1 ?h2 ?h3 ?_); (case h1 => (first | exact ofString_ne (by decide) | (refine' canPut_of (s := _) ?h (fun q => ?g); (case h => exact rfl); (case g => first | (cases q; done) | exact absurd q (by assumption))) | assumption)); (case h2 => (first | exact ofString_ne (by decide) | (refine' canPut_of (s := _) ?h (fun q => ?g); (case h => exact rfl); (case g => first | (cases q; done) | exact absurd q (by assumption))) | assumption)); (case h3 => exact rfl)) | with_reducible refine' B_add ?_ | with_reducible refine' B_sub ?_ | with_reducible refine' B_catI ?_ ?_ | with_reducible refine' B_repI ?_ ?_ ?_ | with_reducible refine' Z_asg ?_ | with_reducible refine' F_bin ?_ | ((with_reducible refine' F_val ?r1 ?_); (case r1 => rfl))) | (refine Z_useK (SShl.mk w x s hw hw1 hx.num hsw) ?_) | lia
    · rw [List.length_replicate]; lia
    obtain ⟨n, hn⟩ : ∃ n : Nat, (limbs w y).length = n + 2 := ⟨(limbs w y).length - 2, by lia⟩
    obtain ⟨m, hm⟩ : ∃ m : Nat, (limbs w x).length + 1 = n + 2 + m := ⟨(limbs w x).length + 1 - (n + 2), by lia⟩
    obtain ⟨z, hz⟩ : ∃ z : Nat, z = (limbs w x).length + 1 - (limbs w (x * 2 ^ s)).length := ⟨_, rfl⟩
    rw [show ((limbs w x).length + 1 - (limbs w (x * 2 ^ s)).length : Int).toNat = z by lia]
    have hrl : (limbs w (x * 2 ^ s) ++ List.replicate z 0).length = n + 2 + m := by simp; lia
    have hrr : Rg (2 ^ w) (limbs w (x * 2 ^ s) ++ List.replicate z 0) := (limbs_rg hw _).append (Rg.rep hB _)
    have hrv : val (2 ^ w) (limbs w (x * 2 ^ s) ++ List.replicate z 0) = x * 2 ^ s := by rw [val_append, val_rep, limbs_val hw, cx]; simp
    have hbv : val (2 ^ w) (limbs w (y * 2 ^ s)) = y * 2 ^ s := by rw [limbs_val hw, cy]
    have hyp : (0 : Int) < y * 2 ^ s := Int.mul_pos (by lia) hS
    have hxp : (0 : Int) ≤ x * 2 ^ s := Int.mul_nonneg (by lia) (by lia)
    have hq0 : (0 : Int) ≤ x * 2 ^ s / (y * 2 ^ s) := Int.ediv_nonneg hxp (by lia)
    have hlt : (x : Int) * 2 ^ s < y * 2 ^ s * (2 ^ w) ^ m := by
      have a1 := lt_len hw x
      have a2 := le_len hw hyn
      have a3 : ((2 : Int) ^ w) ^ ((limbs w y).length - 1) * (2 ^ w) ^ m ≤ y * (2 ^ w) ^ m := Int.mul_le_mul_of_nonneg_right a2 (by have := pow_pos' hB m; lia)
      rw [← Int.pow_add, show (limbs w y).length - 1 + m = (limbs w x).length by lia] at a3
      have a4 : (x : Int) * 2 ^ s < y * (2 ^ w) ^ m * 2 ^ s := Int.mul_lt_mul_of_pos_right (by lia) hS
      grind
    have hqlt : (x : Int) * 2 ^ s / (y * 2 ^ s) < (2 ^ w) ^ m := Int.ediv_lt_of_lt_mul hyp (by rw [Int.mul_comm ((2 ^ w) ^ m)]; exact hlt)
    have hm2 := mod_bounds ((x : Int) * 2 ^ s) hyp
    obtain ⟨qs, q1, q2, q3⟩ := digits hB m _ hq0 hqlt
    have hylt : (y : Int) * 2 ^ s < (2 ^ w) ^ (n + 2 + m) := by
      have a1 := lt_len hw (y * 2 ^ s)
      have a2 := pow_le' hB (show (limbs w (y * 2 ^ s)).length ≤ n + 2 + m by lia)
      rw [cy] at a1
      lia
    obtain ⟨rs', r1, r2, r3⟩ := digits hB (n + 2 + m) _ hm2.1 (by lia)
    have hbt : 0 < (limbs w (y * 2 ^ s)).getD (n + 1) 0 := by
      have := last_pos hw (n := y * 2 ^ s) (by lia)
      rwa [show (limbs w (y * 2 ^ s)).length - 1 = n + 1 by lia] at this
    refine Z_mutK (ys := IL rs') (r := dL qs) (by exact rfl) (SRows.mk w n m _ (limbs w (y * 2 ^ s)) rs' qs hw hw1 hrr (limbs_rg hw _) r2 q2 (by lia) hbt hrl (by lia) (by rw [hrv, hbv]; exact hlt) q1 (by lia) (by rw [hrv, hbv]; exact q3) (by rw [hrv, hbv]; exact r3)) (by exact rfl) ?_
    have eqN : (val (2 ^ w) qs).toNat = x / y := by
      have : ((x / y : Nat) : Int) = val (2 ^ w) qs := by
        rw [q3, ← cx, ← cy, ← Int.natCast_ediv, Nat.mul_div_mul_right _ _ (Nat.pow_pos (by decide))]
      lia
    have erN : (val (2 ^ w) rs').toNat = x % y * 2 ^ s := by
      have : ((x % y * 2 ^ s : Nat) : Int) = val (2 ^ w) rs' := by
        rw [r3, ← cx, ← cy, ← Int.natCast_emod, Nat.mul_mod_mul_right]
      lia
    have hxy : Sm (x % y) := Nat.lt_of_le_of_lt (Nat.mod_le _ _) hx
    repeat' first | (first | with_reducible refine' Z_cons ?_ | with_reducible refine' N_seq ?_ | ((with_reducible refine' E_val ?h ?_); (case h => exact rfl)) | ((with_reducible refine' E_own ?h ?g ?_); (case h => exact rfl); (case g => exact rfl)) | ((with_reducible refine' Z_user ?h ?g ?_); (case h => exact rfl); (case g => exact fun q => by cases q)) | with_reducible refine' Es_nil ?_ | with_reducible refine' Es_cons ?_ | with_reducible refine' E_tup ?_ | ((with_reducible refine' Z_put ?h1 ?h2 ?h3 ?_); (case h1 => (first | exact ofString_ne (by decide) | (refine' canPut_of (s := _) ?h (fun q => ?g); (case h => exact rfl); (case g => first | (cases q; done) | exact absurd q (by assumption))) | assumption)); (case h2 => (first | exact ofString_ne (by decide) | (refine' canPut_of (s := _) ?h (fun q => ?g); (case h => exact rfl); (case g => first | (cases q; done) | exact absurd q (by assumption))) | assumption)); (case h3 => exact rfl)) | with_reducible refine' Z_ret ?_) | (refine Z_useK (SNormal.mk w qs hw q2 (by lia)) ?_) | (refine Z_useK (SNormal.mk w rs' hw r2 (by lia)) ?_) | lia
    rw [eqN, erN]
    refine Z_useK (SShr.mk w (x % y * 2 ^ s) s hw hw1 (hxy.shl (by lia)) hsw) ?_
    repeat' first | (first | with_reducible refine' R_seq ?_ | with_reducible refine' R_is ?_ | with_reducible refine' Es_nil ?_ | ((with_reducible refine' X_dats ?h ?g ?_); (case h => exact rfl); (case g => exact Nat.le_of_ble_eq_true rfl))) | lia
    rw [Nat.mul_div_cancel _ (Nat.pow_pos (by decide))]
noncomputable def Bd (k n : Nat) : Prop := n < 2 ^ k
theorem Bd.mono {a b n : Nat} (h : Bd a n) (hab : a ≤ b) : Bd b n := Nat.lt_of_lt_of_le h (Nat.pow_le_pow_right (by decide) hab)
theorem Bd.num {a n : Nat} (h : Bd a n) (hab : a ≤ 20000) : Num n := h.mono hab
theorem Bd.sm {a n : Nat} (h : Bd a n) (hab : a ≤ 19000) : Sm n := h.mono hab
theorem Bd.le {a m n : Nat} (h : Bd a n) (hm : m ≤ n) : Bd a m := Nat.lt_of_le_of_lt hm h
theorem Bd.mul {a b m n : Nat} (h : Bd a m) (h' : Bd b n) : Bd (a + b) (m * n) := by
  unfold Bd at *
  rw [Nat.pow_add]
  exact Nat.lt_of_le_of_lt (Nat.mul_le_mul_right n (Nat.le_of_lt h)) (Nat.mul_lt_mul_of_pos_left h' (Nat.pow_pos (by decide)))
theorem Bd.add {a m n : Nat} (h : Bd a m) (h' : Bd a n) : Bd (a + 1) (m + n) := by
  unfold Bd at *
  rw [Nat.pow_succ]; lia
noncomputable abbrev Sg (w : Nat) (z : Int) : PyData := .tuple [.bool (decide (z < 0)), pN w z.natAbs]
noncomputable abbrev dS (w : Nat) (z : Int) : Vx := .dat (Sg w z)
theorem limbs_len_pos {w n : Nat} (hw : 0 < w) : (0 < ((limbs w n).length : Int)) ↔ 0 < n := by
  constructor
  · intro h
    rcases Nat.eq_zero_or_pos n with e | e
    · subst e; rw [limbs_zero] at h; simp at h
    · exact e
  · intro h
    have := limbs_ne hw h
    lia
/-- signed -/
inductive SSigned : SpecF
  | mk (w : Nat) (b : Bool) (n : Nat) (z : Int) : 0 < w → Num n → z = (if b then -(n : Int) else n) → SSigned [.dat (.bool b), dN w n] (dS w z)
theorem w_signed (ds r) (h : SSigned ds r) : ds.length = 2 ∧ wpSs C0 (wpR C0 2) (recI 14).body (putPs (base0 (recI 14).scope.names) ([Str.ofString "is_below", Str.ofString "nat"].zip ds)) fun fl _ => retIs r fl := by
  obtain ⟨w, b, n, z, hw, hn, hz⟩ := h
  refine ⟨rfl, ?_⟩
  have hl := len_le hw hn
  have hp := limbs_len_pos (n := n) hw
  rw [show (recI 14).scope.names = [(Str.ofString "is_below", .local), (Str.ofString "nat", .local), (Str.ofString "len", .globalImplicit)] from rfl]
  simp only [base0, putPs, put, List.foldl_cons, List.foldl_nil, List.zip_cons_cons, List.zip_nil_right, List.zip_nil_left, ofString_beq, String.reduceBEq, Bool.false_eq_true, if_false, if_true, beq_self_eq_true]
  conv => arg 3; whnf
  repeat' first | (first | with_reducible refine' Z_cons ?_ | with_reducible refine' R_seq ?_ | with_reducible refine' R_is ?_ | ((with_reducible refine' E_val ?h ?_); (case h => exact rfl)) | with_reducible refine' E_int ?_ | ((with_reducible refine' E_len ?h ?g ?_); (case h => exact rfl); (case g => exact rfl)) | with_reducible refine' X_lenI ?_ ?_ | with_reducible refine' Es_nil ?_ | with_reducible refine' Es_cons ?_ | with_reducible refine' E_and ?_ | ((with_reducible refine' E_cmp ?r1 ?_); (case r1 => rfl)) | with_reducible refine' E_tup ?_ | ((with_reducible refine' X_dats ?h ?g ?_); (case h => exact rfl); (case g => exact Nat.le_of_ble_eq_true rfl)) | with_reducible refine' X_bool ?_ | with_reducible refine' C_gt ?_ | ((with_reducible refine' brB ?_ ?_) <;> intro _) | with_reducible refine' Z_ret ?_) | lia
  · rename_i hb
    subst hb
    have e1 : z = -(n : Int) := by rw [hz]; rfl
    have e2 : decide (0 < ((limbs w n).length : Int)) = decide (z < 0) := by rw [decide_eq_decide, hp, e1]; lia
    rw [e2, show n = z.natAbs by lia]
  · rename_i hb
    subst hb
    have e1 : z = (n : Int) := by rw [hz]; rfl
    have e2 : false = decide (z < 0) := by rw [eq_comm, decide_eq_false_iff_not]; lia
    rw [e2, show n = z.natAbs by lia]
noncomputable abbrev CNeg : Ctx := ⟨Str.ofString "", [(Str.ofString "signed", SSigned)], []⟩
inductive SNeg : SpecF
  | mk (w : Nat) (z : Int) : 0 < w → Num z.natAbs → SNeg [dS w z] (dS w (-z))
theorem w_s_neg (ds r) (h : SNeg ds r) : ds.length = 1 ∧ wpSs CNeg (wpR CNeg 2) (recI 15).body (putPs (base0 (recI 15).scope.names) ([Str.ofString "x"].zip ds)) fun fl _ => retIs r fl := by
  obtain ⟨w, z, hw, hn⟩ := h
  refine ⟨rfl, ?_⟩
  rw [show (recI 15).scope.names = [(Str.ofString "x", .local), (Str.ofString "signed", .globalImplicit)] from rfl]
  simp only [base0, putPs, put, List.foldl_cons, List.foldl_nil, List.zip_cons_cons, List.zip_nil_right, List.zip_nil_left, ofString_beq, String.reduceBEq, Bool.false_eq_true, if_false, if_true, beq_self_eq_true]
  conv => arg 3; whnf
  repeat' first | (first | with_reducible refine' Z_cons ?_ | with_reducible refine' E_int ?_ | with_reducible refine' X_dat ?_ | ((with_reducible refine' E_subVal ?h ?_); (case h => exact rfl)) | ((with_reducible refine' Z_user ?h ?g ?_); (case h => exact rfl); (case g => exact fun q => by cases q)) | with_reducible refine' Es_nil ?_ | with_reducible refine' Es_cons ?_ | ((with_reducible refine' E_not (U_not' ?_))) | with_reducible refine' X_bool ?_ | with_reducible refine' I_t0 ?_ | with_reducible refine' I_t1 ?_ | with_reducible refine' Z_ret ?_) | lia
  refine Z_useK (SSigned.mk w _ z.natAbs (-z) hw hn ?_) ?_
  · by_cases h : z < 0
    · rw [decide_eq_true h]; simp; lia
    · rw [decide_eq_false h]; simp; lia
  repeat' first | (first | with_reducible refine' R_seq ?_ | with_reducible refine' R_is ?_ | with_reducible rfl) | lia
noncomputable abbrev CSAdd : Ctx := ⟨Str.ofString "", [(Str.ofString "signed", SSigned), (Str.ofString "add", SAdd), (Str.ofString "compare", SCompare), (Str.ofString "sub", SSub)], []⟩
inductive SSAdd : SpecF
  | mk (w : Nat) (x y : Int) : 0 < w → w ≤ 60 → Bd 19000 x.natAbs → Bd 19000 y.natAbs → SSAdd [dS w x, dS w y, vInt w] (dS w (x + y))
theorem w_s_add (ds r) (h : SSAdd ds r) : ds.length = 3 ∧ wpSs CSAdd (wpR CSAdd 2) (recI 16).body (putPs (base0 (recI 16).scope.names) ([Str.ofString "x", Str.ofString "y", Str.ofString "w"].zip ds)) fun fl _ => retIs r fl := by
  obtain ⟨w, x, y, hw, hw1, hx, hy⟩ := h
  refine ⟨rfl, ?_⟩
  have nx : Num x.natAbs := hx.num (by decide)
  have ny : Num y.natAbs := hy.num (by decide)
  have nxy : Num (x.natAbs + y.natAbs) := (hx.add hy).num (by decide)
  rw [show (recI 16).scope.names = [(Str.ofString "x", .local), (Str.ofString "y", .local), (Str.ofString "w", .local), (Str.ofString "signed", .globalImplicit), (Str.ofString "add", .globalImplicit), (Str.ofString "compare", .globalImplicit), (Str.ofString "sub", .globalImplicit)] from rfl]
  simp only [base0, putPs, put, List.foldl_cons, List.foldl_nil, List.zip_cons_cons, List.zip_nil_right, List.zip_nil_left, ofString_beq, String.reduceBEq, Bool.false_eq_true, if_false, if_true, beq_self_eq_true]
  conv => arg 3; whnf
  repeat' first | (first | with_reducible refine' Z_cons ?_ | with_reducible refine' N_seq ?_ | with_reducible refine' Z_nil ?_ | ((with_reducible refine' E_val ?h ?_); (case h => exact rfl)) | with_reducible refine' E_int ?_ | with_reducible refine' X_dat ?_ | ((with_reducible refine' E_subVal ?h ?_); (case h => exact rfl)) | ((with_reducible refine' Z_user ?h ?g ?_); (case h => exact rfl); (case g => exact fun q => by cases q)) | with_reducible refine' Es_nil ?_ | with_reducible refine' Es_cons ?_ | with_reducible refine' I_t0 ?_ | with_reducible refine' I_t1 ?_ | with_reducible refine' C_lt ?_ | with_reducible refine' C_eqB ?_ | ((with_reducible refine' br ?_ ?_) <;> intro _) | ((with_reducible refine' T_cmp ?r1 ?_); (case r1 => rfl)) | with_reducible refine' Z_ret ?_ | with_reducible refine' S_if ?_) | (refine Z_useK (SCompare.mk w _ _ hw nx ny) ?_) | (refine Z_useK (SAdd.mk w _ _ hw (by lia) nx ny) ?_) | lia
  · rename_i h
    rw [decide_eq_decide] at h
    refine Z_useK (SSigned.mk w _ _ (x + y) hw nxy ?_) ?_
    · by_cases q : x < 0
      · rw [decide_eq_true q]; simp; lia
      · rw [decide_eq_false q]; simp; lia
    repeat' first | (first | with_reducible refine' R_seq ?_ | with_reducible refine' R_is ?_ | with_reducible rfl) | lia
  · rename_i h h2
    rw [decide_eq_decide] at h
    have hlt : x.natAbs < y.natAbs := by unfold sgn at h2; split at h2 <;> (try split at h2) <;> lia
    refine Z_useK (SSub.mk w _ _ hw (by lia) ny (by lia)) ?_
    repeat' first | (first | with_reducible refine' Es_nil ?_) | lia
    refine Z_useK (SSigned.mk w _ _ (x + y) hw (Nat.lt_of_le_of_lt (Nat.sub_le _ _) ny) ?_) ?_
    · by_cases q : y < 0
      · rw [decide_eq_true q]; simp; lia
      · rw [decide_eq_false q]; simp; lia
    repeat' first | (first | with_reducible refine' R_seq ?_ | with_reducible refine' R_is ?_ | with_reducible rfl) | lia
  · rename_i h h2
    rw [decide_eq_decide] at h
    have hlt : y.natAbs ≤ x.natAbs := by unfold sgn at h2; split at h2 <;> (try split at h2) <;> lia
    refine Z_useK (SSub.mk w _ _ hw (by lia) nx hlt) ?_
    repeat' first | (first | with_reducible refine' Es_nil ?_) | lia
    refine Z_useK (SSigned.mk w _ _ (x + y) hw (Nat.lt_of_le_of_lt (Nat.sub_le _ _) nx) ?_) ?_
    · by_cases q : x < 0
      · rw [decide_eq_true q]; simp; lia
      · rw [decide_eq_false q]; simp; lia
    repeat' first | (first | with_reducible refine' R_seq ?_ | with_reducible refine' R_is ?_ | with_reducible rfl) | lia
noncomputable abbrev CSSub : Ctx := ⟨Str.ofString "", [(Str.ofString "s_add", SSAdd), (Str.ofString "s_neg", SNeg)], []⟩
inductive SSSub : SpecF
  | mk (w : Nat) (x y : Int) : 0 < w → w ≤ 60 → Bd 19000 x.natAbs → Bd 19000 y.natAbs → SSSub [dS w x, dS w y, vInt w] (dS w (x - y))
theorem w_s_sub (ds r) (h : SSSub ds r) : ds.length = 3 ∧ wpSs CSSub (wpR CSSub 2) (recI 17).body (putPs (base0 (recI 17).scope.names) ([Str.ofString "x", Str.ofString "y", Str.ofString "w"].zip ds)) fun fl _ => retIs r fl := by
  obtain ⟨w, x, y, hw, hw1, hx, hy⟩ := h
  refine ⟨rfl, ?_⟩
  rw [show (recI 17).scope.names = [(Str.ofString "x", .local), (Str.ofString "y", .local), (Str.ofString "w", .local), (Str.ofString "s_add", .globalImplicit), (Str.ofString "s_neg", .globalImplicit)] from rfl]
  simp only [base0, putPs, put, List.foldl_cons, List.foldl_nil, List.zip_cons_cons, List.zip_nil_right, List.zip_nil_left, ofString_beq, String.reduceBEq, Bool.false_eq_true, if_false, if_true, beq_self_eq_true]
  conv => arg 3; whnf
  repeat' first | (first | with_reducible refine' Z_cons ?_ | with_reducible refine' R_seq ?_ | with_reducible refine' R_is ?_ | ((with_reducible refine' E_val ?h ?_); (case h => exact rfl)) | ((with_reducible refine' Z_user ?h ?g ?_); (case h => exact rfl); (case g => exact fun q => by cases q)) | with_reducible refine' Es_nil ?_ | with_reducible refine' Es_cons ?_ | with_reducible refine' Z_ret ?_) | (refine Z_useK (SNeg.mk w y hw (hy.num (by decide))) ?_) | (refine Z_useK (SSAdd.mk w x (-y) hw hw1 hx (by rw [Int.natAbs_neg]; exact hy)) ?_) | omega
  rw [Int.sub_eq_add_neg]
noncomputable abbrev CSMul : Ctx := ⟨Str.ofString "", [(Str.ofString "signed", SSigned), (Str.ofString "mul_school", SMul)], []⟩
noncomputable abbrev fMul : Vx := .fn (Str.ofString "mul_school")
noncomputable abbrev fDiv : Vx := .fn (Str.ofString "divrem_school")
inductive SSMul : SpecF
  | mk (w : Nat) (x y : Int) : 0 < w → w ≤ 60 → Bd 9000 x.natAbs → Bd 9000 y.natAbs → SSMul [dS w x, dS w y, vInt w, fMul] (dS w (x * y))
theorem w_s_mul (ds r) (h : SSMul ds r) : ds.length = 4 ∧ wpSs CSMul (wpR CSMul 2) (recI 18).body (putPs (base0 (recI 18).scope.names) ([Str.ofString "x", Str.ofString "y", Str.ofString "w", Str.ofString "mul"].zip ds)) fun fl _ => retIs r fl := by
  obtain ⟨w, x, y, hw, hw1, hx, hy⟩ := h
  refine ⟨rfl, ?_⟩
  rw [show (recI 18).scope.names = [(Str.ofString "x", .local), (Str.ofString "y", .local), (Str.ofString "w", .local), (Str.ofString "mul", .local), (Str.ofString "signed", .globalImplicit)] from rfl]
  simp only [base0, putPs, put, List.foldl_cons, List.foldl_nil, List.zip_cons_cons, List.zip_nil_right, List.zip_nil_left, ofString_beq, String.reduceBEq, Bool.false_eq_true, if_false, if_true, beq_self_eq_true]
  conv => arg 3; whnf
  repeat' first | (first | with_reducible refine' Z_cons ?_ | ((with_reducible refine' E_val ?h ?_); (case h => exact rfl)) | with_reducible refine' E_int ?_ | with_reducible refine' X_dat ?_ | ((with_reducible refine' E_subVal ?h ?_); (case h => exact rfl)) | ((with_reducible refine' Z_user ?h ?g ?_); (case h => exact rfl); (case g => exact fun q => by cases q)) | with_reducible refine' Es_nil ?_ | with_reducible refine' Es_cons ?_ | ((with_reducible refine' E_cmp ?r1 ?_); (case r1 => rfl)) | with_reducible refine' I_t0 ?_ | with_reducible refine' I_t1 ?_ | with_reducible refine' C_neB ?_ | with_reducible refine' Z_ret ?_) | (refine Z_useK (SMul.mk w _ _ hw hw1 (hx.num (by decide)) (hy.num (by decide))) ?_) | lia
  refine Z_useK (SSigned.mk w _ _ (x * y) hw ((hx.mul hy).num (by decide)) ?_) ?_
  · rw [← Int.natAbs_mul]
    by_cases p : x < 0 <;> by_cases q : y < 0
    · rw [decide_eq_true p, decide_eq_true q]
      have : 0 ≤ -x * -y := Int.mul_nonneg (by lia) (by lia)
      rw [Int.neg_mul_neg] at this
      simp; lia
    · rw [decide_eq_true p, decide_eq_false q]
      have : 0 ≤ -x * y := Int.mul_nonneg (by lia) (by lia)
      rw [Int.neg_mul] at this
      simp; lia
    · rw [decide_eq_false p, decide_eq_true q]
      have : 0 ≤ x * -y := Int.mul_nonneg (by lia) (by lia)
      rw [Int.mul_neg] at this
      simp; lia
    · rw [decide_eq_false p, decide_eq_false q]
      have : 0 ≤ x * y := Int.mul_nonneg (by lia) (by lia)
      simp; lia
  repeat' first | (first | with_reducible refine' R_seq ?_ | with_reducible refine' R_is ?_ | with_reducible rfl) | lia
theorem Sg_nat (w n : Nat) : Sg w (n : Int) = .tuple [.bool false, pN w n] := by
  rw [Sg, decide_eq_false (by lia), Int.natAbs_natCast]
theorem dS_nat (w n : Nat) : dS w (n : Int) = .dat (.tuple [.bool false, pN w n]) := by rw [dS, Sg_nat]
noncomputable abbrev CTdiv : Ctx := ⟨Str.ofString "", [(Str.ofString "signed", SSigned), (Str.ofString "divrem_school", SDiv)], []⟩
inductive STdiv : SpecF
  | mk (w a b : Nat) : 0 < w → w ≤ 60 → Sm a → Sm b → 0 < b → STdiv [dS w a, dS w b, vInt w, fDiv] (.dat (.tuple [Sg w ((a / b : Nat) : Int), Sg w ((a % b : Nat) : Int)]))
theorem w_tdiv (ds r) (h : STdiv ds r) : ds.length = 4 ∧ wpSs CTdiv (wpR CTdiv 2) (recI 19).body (putPs (base0 (recI 19).scope.names) ([Str.ofString "x", Str.ofString "y", Str.ofString "w", Str.ofString "divrem"].zip ds)) fun fl _ => retIs r fl := by
  obtain ⟨w, a, b, hw, hw1, ha, hb, hb0⟩ := h
  refine ⟨rfl, ?_⟩
  rw [dS_nat, dS_nat]
  have hlb := len_le hw hb.num
  have hbp := limbs_ne hw hb0
  rw [show (recI 19).scope.names = [(Str.ofString "x", .local), (Str.ofString "y", .local), (Str.ofString "w", .local), (Str.ofString "divrem", .local), (Str.ofString "quotient", .local), (Str.ofString "rest", .local), (Str.ofString "len", .globalImplicit), (Str.ofString "DivisionByZero", .globalImplicit), (Str.ofString "signed", .globalImplicit)] from rfl]
  simp only [base0, putPs, put, List.foldl_cons, List.foldl_nil, List.zip_cons_cons, List.zip_nil_right, List.zip_nil_left, ofString_beq, String.reduceBEq, Bool.false_eq_true, if_false, if_true, beq_self_eq_true]
  conv => arg 3; whnf
  repeat' first | (first | with_reducible refine' Z_cons ?_ | with_reducible refine' N_seq ?_ | with_reducible refine' Z_nil ?_ | ((with_reducible refine' E_val ?h ?_); (case h => exact rfl)) | with_reducible refine' E_int ?_ | with_reducible refine' X_dat ?_ | ((with_reducible refine' E_subVal ?h ?_); (case h => exact rfl)) | ((with_reducible refine' E_len ?h ?g ?_); (case h => exact rfl); (case g => exact rfl)) | ((with_reducible refine' Z_user ?h ?g ?_); (case h => exact rfl); (case g => exact fun q => by cases q)) | with_reducible refine' X_lenI ?_ ?_ | with_reducible refine' Es_nil ?_ | with_reducible refine' Es_cons ?_ | ((with_reducible refine' E_cmp ?r1 ?_); (case r1 => rfl)) | with_reducible refine' E_tup ?_ | with_reducible refine' I_t0 ?_ | with_reducible refine' I_t1 ?_ | with_reducible refine' C_eq ?_ | with_reducible refine' C_neB ?_ | ((with_reducible refine' br ?_ ?_) <;> intro _) | ((with_reducible refine' T_cmp ?r1 ?_); (case r1 => rfl)) | with_reducible refine' Z_ret ?_ | with_reducible refine' S_if ?_ | ((with_reducible refine' Z_tupV ?r1 ?_); (case r1 => rfl)) | ((with_reducible refine' Z_tupVK ?h1 ?h2 ?h4 ?h6 ?h8 ?_); (case h1 => exact rfl); (case h2 => rfl); (case h4 => decide); (case h6 => simp only [List.forall_mem_cons]; (repeat' apply And.intro) <;> first | (first | exact ofString_ne (by decide) | (refine' canPut_of (s := _) ?h (fun q => ?g); (case h => exact rfl); (case g => first | (cases q; done) | exact absurd q (by assumption))) | assumption) | (intro x hx; cases hx)); (case h8 => exact rfl))) | (refine Z_useK (SDiv.mk w a b hw hw1 ha hb hb0) ?_) | lia
  refine Z_useK (SSigned.mk w _ (a / b) ((a / b : Nat) : Int) hw (Nat.lt_of_le_of_lt (Nat.div_le_self _ _) ha.num) (by simp)) ?_
  repeat' first | (first | ((with_reducible refine' E_val ?h ?_); (case h => exact rfl)) | with_reducible refine' E_int ?_ | with_reducible refine' X_dat ?_ | ((with_reducible refine' E_subVal ?h ?_); (case h => exact rfl)) | ((with_reducible refine' Z_user ?h ?g ?_); (case h => exact rfl); (case g => exact fun q => by cases q)) | with_reducible refine' Es_nil ?_ | with_reducible refine' Es_cons ?_ | with_reducible refine' I_t0 ?_) | lia
  refine Z_useK (SSigned.mk w _ (a % b) ((a % b : Nat) : Int) hw (Nat.lt_of_le_of_lt (Nat.mod_le _ _) ha.num) (by simp)) ?_
  repeat' first | (first | with_reducible refine' R_seq ?_ | with_reducible refine' R_is ?_ | with_reducible refine' Es_nil ?_ | ((with_reducible refine' X_dats ?h ?g ?_); (case h => exact rfl); (case g => exact Nat.le_of_ble_eq_true rfl)) | with_reducible rfl) | lia
noncomputable abbrev CCdiv : Ctx := ⟨Str.ofString "", [(Str.ofString "tdiv", STdiv), (Str.ofString "add_limb", SAddLimb), (Str.ofString "s_sub", SSSub)], []⟩
inductive SCdiv : SpecF
  | mk (w a b q : Nat) (r : Int) : 0 < w → w ≤ 60 → Sm a → Sm b → 0 < b → q = (if 0 < a % b then a / b + 1 else a / b) → r = (if 0 < a % b then ((a % b : Nat) : Int) - b else ((a % b : Nat) : Int)) → SCdiv [dS w a, dS w b, vInt w, fDiv] (.dat (.tuple [Sg w (q : Int), Sg w r]))
theorem w_cdiv (ds r) (h : SCdiv ds r) : ds.length = 4 ∧ wpSs CCdiv (wpR CCdiv 2) (recI 20).body (putPs (base0 (recI 20).scope.names) ([Str.ofString "x", Str.ofString "y", Str.ofString "w", Str.ofString "divrem"].zip ds)) fun fl _ => retIs r fl := by
  obtain ⟨w, a, b, q, r, hw, hw1, ha, hb, hb0, hq, hr⟩ := h
  refine ⟨rfl, ?_⟩
  have n1 : Num (a % b) := Nat.lt_of_le_of_lt (Nat.mod_le _ _) ha.num
  have n2 : Num (a / b) := Nat.lt_of_le_of_lt (Nat.div_le_self _ _) ha.num
  have hl := len_le hw n1
  have hp := limbs_len_pos (n := a % b) hw
  have h1w : 1 < 2 ^ w := Nat.one_lt_two_pow (by lia)
  rw [show (recI 20).scope.names = [(Str.ofString "x", .local), (Str.ofString "y", .local), (Str.ofString "w", .local), (Str.ofString "divrem", .local), (Str.ofString "quotient", .local), (Str.ofString "rest", .local), (Str.ofString "tdiv", .globalImplicit), (Str.ofString "len", .globalImplicit), (Str.ofString "add_limb", .globalImplicit), (Str.ofString "s_sub", .globalImplicit)] from rfl]
  simp only [base0, putPs, put, List.foldl_cons, List.foldl_nil, List.zip_cons_cons, List.zip_nil_right, List.zip_nil_left, ofString_beq, String.reduceBEq, Bool.false_eq_true, if_false, if_true, beq_self_eq_true]
  conv => arg 3; whnf
  repeat' first | (first | with_reducible refine' Z_cons ?_ | with_reducible refine' N_seq ?_ | with_reducible refine' R_seq ?_ | with_reducible refine' R_is ?_ | with_reducible refine' Z_nil ?_ | ((with_reducible refine' E_val ?h ?_); (case h => exact rfl)) | with_reducible refine' E_int ?_ | with_reducible refine' E_bool ?_ | with_reducible refine' X_dat ?_ | ((with_reducible refine' E_subVal ?h ?_); (case h => exact rfl)) | ((with_reducible refine' E_len ?h ?g ?_); (case h => exact rfl); (case g => exact rfl)) | ((with_reducible refine' Z_user ?h ?g ?_); (case h => exact rfl); (case g => exact fun q => by cases q)) | with_reducible refine' X_lenI ?_ ?_ | with_reducible refine' Es_nil ?_ | with_reducible refine' Es_cons ?_ | with_reducible refine' E_tup ?_ | ((with_reducible refine' X_dats ?h ?g ?_); (case h => exact rfl); (case g => exact Nat.le_of_ble_eq_true rfl)) | with_reducible refine' I_t0 ?_ | with_reducible refine' I_t1 ?_ | with_reducible refine' C_gt ?_ | with_reducible refine' C_eqB ?_ | ((with_reducible refine' brN ?_ ?_) <;> intro _) | with_reducible refine' brF' ?_ | with_reducible refine' brT' ?_ | with_reducible refine' T_bool ?_ | ((with_reducible refine' T_cmp ?r1 ?_); (case r1 => rfl)) | with_reducible refine' Ts_nilA ?_ | with_reducible refine' Ts_and ?_ | with_reducible refine' Z_ret ?_ | with_reducible refine' S_if ?_ | ((with_reducible refine' Z_tupV ?r1 ?_); (case r1 => rfl)) | ((with_reducible refine' Z_tupVK ?h1 ?h2 ?h4 ?h6 ?h8 ?_); (case h1 => exact rfl); (case h2 => rfl); (case h4 => decide); (case h6 => simp only [List.forall_mem_cons]; (repeat' apply And.intro) <;> first | (first | exact ofString_ne (by decide) | (refine' canPut_of (s := _) ?h (fun q => ?g); (case h => exact rfl); (case g => first | (cases q; done) | exact absurd q (by assumption))) | assumption) | (intro x hx; cases hx)); (case h8 => exact rfl))) | (refine Z_useK (STdiv.mk w a b hw hw1 ha hb hb0) ?_) | omega
  all_goals simp only [Int.natAbs_natCast] at *
  · omega
  · rename_i h h2
    have h0 := hp.mp h
    rw [if_pos h0] at hq hr
    refine Z_useK (SAddLimb.mk w (a / b) 1 hw (by lia) n2 h1w) ?_
    repeat' first | (first | ((with_reducible refine' E_val ?h ?_); (case h => exact rfl)) | ((with_reducible refine' Z_user ?h ?g ?_); (case h => exact rfl); (case g => exact fun q => by cases q)) | with_reducible refine' Es_nil ?_ | with_reducible refine' Es_cons ?_ | ((with_reducible refine' X_dats ?h ?g ?_); (case h => exact rfl); (case g => exact Nat.le_of_ble_eq_true rfl))) | omega
    refine Z_useK (SSSub.mk w ((a % b : Nat) : Int) b hw hw1 (by rw [Int.natAbs_natCast]; exact Nat.lt_of_le_of_lt (Nat.mod_le _ _) ha) (by rw [Int.natAbs_natCast]; exact hb)) ?_
    repeat' first | (first | with_reducible refine' R_seq ?_ | with_reducible refine' R_is ?_ | with_reducible refine' Es_nil ?_ | ((with_reducible refine' X_dats ?h ?g ?_); (case h => exact rfl); (case g => exact Nat.le_of_ble_eq_true rfl))) | omega
    rw [hq, hr, Sg_nat]
  · rename_i h h2
    exact absurd (by rw [decide_eq_false (by lia), decide_eq_false (by lia)]) h2
  · rename_i h
    have h0 : ¬ 0 < a % b := fun q => h (hp.mpr q)
    rw [if_neg h0] at hq hr
    rw [hq, hr]
noncomputable abbrev CCommon : Ctx := ⟨Str.ofString "", [(Str.ofString "normal", SNormal), (Str.ofString "divrem_school", SDiv)], []⟩
inductive SCommon : SpecF
  | mk (w a b : Nat) : 0 < w → w ≤ 60 → Sm a → Sm b → SCommon [dN w a, dN w b, vInt w, fDiv] (dN w (Nat.gcd a b))
theorem w_common (ds r) (h : SCommon ds r) : ds.length = 4 ∧ wpSs CCommon (wpR CCommon 2) (recI 22).body (putPs (base0 (recI 22).scope.names) ([Str.ofString "a", Str.ofString "b", Str.ofString "w", Str.ofString "divrem"].zip ds)) fun fl _ => retIs r fl := by
  obtain ⟨w, a, b, hw, hw1, ha, hb⟩ := h
  refine ⟨rfl, ?_⟩
  rw [show (recI 22).scope.names = [(Str.ofString "a", .local), (Str.ofString "b", .local), (Str.ofString "w", .local), (Str.ofString "divrem", .local), (Str.ofString "len", .globalImplicit), (Str.ofString "normal", .globalImplicit)] from rfl]
  simp only [base0, putPs, put, List.foldl_cons, List.foldl_nil, List.zip_cons_cons, List.zip_nil_right, List.zip_nil_left, ofString_beq, String.reduceBEq, Bool.false_eq_true, if_false, if_true, beq_self_eq_true]
  conv => arg 3; whnf
  repeat' first | (first | with_reducible refine' Z_cons ?_ | with_reducible refine' S_while ?_) | lia
  refine while_inv (fun n ρ => ∃ x, ρ = ((Str.ofString "a", .val (dN w x)) :: (Str.ofString "b", .val (dN w n)) :: (Str.ofString "w", vI w) :: (Str.ofString "divrem", .val fDiv) :: (Str.ofString "len", Slot.glob) :: (Str.ofString "normal", Slot.glob) :: []) ∧ Sm x ∧ Sm n ∧ Nat.gcd x n = Nat.gcd a b) b ⟨a, rfl, ha, hb, rfl⟩ ?_
  rintro n _ ⟨x, rfl, hx, hn, hg⟩ K hK hR
  have hl := len_le hw hn.num
  have hlx := len_le hw hx.num
  have hp := limbs_len_pos (n := n) hw
  repeat' first | (first | with_reducible refine' Z_cons ?_ | with_reducible refine' N_seq ?_ | ((with_reducible refine' E_val ?h ?_); (case h => exact rfl)) | with_reducible refine' E_int ?_ | ((with_reducible refine' E_len ?h ?g ?_); (case h => exact rfl); (case g => exact rfl)) | ((with_reducible refine' Z_user ?h ?g ?_); (case h => exact rfl); (case g => exact fun q => by cases q)) | ((with_reducible refine' E_sub ?h ?_); (case h => exact rfl)) | with_reducible refine' X_lenI ?_ ?_ | with_reducible refine' Es_nil ?_ | with_reducible refine' Es_cons ?_ | with_reducible refine' C_gt ?_ | ((with_reducible refine' brN ?_ ?_) <;> intro _) | with_reducible refine' R_step ?_ | ((with_reducible refine' T_cmp ?r1 ?_); (case r1 => rfl)) | with_reducible refine' Z_ret ?_ | ((with_reducible refine' F_val ?r1 ?_); (case r1 => rfl)) | ((with_reducible refine' Z_tup ?r1 ?r2 ?_); (case r1 => rfl); (case r2 => rfl))) | lia
  · rename_i h
    have h0 : 0 < n := hp.mp h
    have hm : Sm (x % n) := Nat.lt_of_le_of_lt (Nat.mod_le _ _) hx
    refine Z_useK (SDiv.mk w x n hw hw1 hx hn h0) ?_
    repeat' first | (first | with_reducible refine' N_seq ?_ | with_reducible refine' Z_nil ?_ | with_reducible refine' E_int ?_ | with_reducible refine' X_dat ?_ | with_reducible refine' Es_nil ?_ | with_reducible refine' I_t1 ?_ | ((with_reducible refine' Z_tupK ?h1 ?h2 ?h3 ?h4 ?h5 ?h6 ?h7 ?h8 ?_); (case h1 => exact rfl); (case h2 => rfl); (case h3 => exact Nat.le_of_ble_eq_true rfl); (case h4 => decide); (case h5 => (first | exact ofString_ne (by decide) | (refine' canPut_of (s := _) ?h (fun q => ?g); (case h => exact rfl); (case g => first | (cases q; done) | exact absurd q (by assumption))) | assumption)); (case h6 => simp only [List.forall_mem_cons]; (repeat' apply And.intro) <;> first | (first | exact ofString_ne (by decide) | (refine' canPut_of (s := _) ?h (fun q => ?g); (case h => exact rfl); (case g => first | (cases q; done) | exact absurd q (by assumption))) | assumption) | (intro x hx; cases hx)); (case h7 => rfl); (case h8 => exact rfl))) | lia
    exact hK (x % n) _ (Nat.mod_lt _ h0) ⟨n, rfl, hn, hm, by rw [← hg, Nat.gcd_comm x n, Nat.gcd_rec n x, Nat.gcd_comm]⟩
  · rename_i h
    have h0 : n = 0 := by
      rcases Nat.eq_zero_or_pos n with e | e
      · exact e
      · exact absurd (hp.mpr e) h
    subst h0
    refine Z_useK (SNormal.mk w _ hw (limbs_rg hw x) (by lia)) ?_
    repeat' first | (first | with_reducible refine' R_seq ?_ | with_reducible refine' R_is ?_) | lia
    rw [Nat.gcd_zero_right] at hg
    rw [limbs_val hw, Int.toNat_natCast, hg]
noncomputable abbrev CCut : Ctx := ⟨Str.ofString "", [(Str.ofString "divrem_school", SDiv)], []⟩
inductive SCut : SpecF
  | mk (w : Nat) (z : Int) (d : Nat) : 0 < w → w ≤ 60 → Sm z.natAbs → Sm d → 0 < d → (d : Int) ∣ z → SCut [dS w z, dN w d, vInt w, fDiv] (dS w (z / d))
theorem w_cut_signed (ds r) (h : SCut ds r) : ds.length = 4 ∧ wpSs CCut (wpR CCut 2) (recI 23).body (putPs (base0 (recI 23).scope.names) ([Str.ofString "x", Str.ofString "d", Str.ofString "w", Str.ofString "divrem"].zip ds)) fun fl _ => retIs r fl := by
  obtain ⟨w, z, d, hw, hw1, hz, hd, hd0, hdz⟩ := h
  refine ⟨rfl, ?_⟩
  rw [show (recI 23).scope.names = [(Str.ofString "x", .local), (Str.ofString "d", .local), (Str.ofString "w", .local), (Str.ofString "divrem", .local)] from rfl]
  simp only [base0, putPs, put, List.foldl_cons, List.foldl_nil, List.zip_cons_cons, List.zip_nil_right, List.zip_nil_left, ofString_beq, String.reduceBEq, Bool.false_eq_true, if_false, if_true, beq_self_eq_true]
  conv => arg 3; whnf
  repeat' first | (first | with_reducible refine' Z_cons ?_ | with_reducible refine' R_seq ?_ | with_reducible refine' R_is ?_ | ((with_reducible refine' E_val ?h ?_); (case h => exact rfl)) | with_reducible refine' E_int ?_ | with_reducible refine' X_dat ?_ | ((with_reducible refine' E_subVal ?h ?_); (case h => exact rfl)) | ((with_reducible refine' Z_user ?h ?g ?_); (case h => exact rfl); (case g => exact fun q => by cases q)) | ((with_reducible refine' E_sub ?h ?_); (case h => exact rfl)) | with_reducible refine' Es_nil ?_ | with_reducible refine' Es_cons ?_ | with_reducible refine' E_tup ?_ | ((with_reducible refine' X_dats ?h ?g ?_); (case h => exact rfl); (case g => exact Nat.le_of_ble_eq_true rfl)) | with_reducible refine' I_t0 ?_ | with_reducible refine' I_t1 ?_ | with_reducible refine' Z_ret ?_) | (refine Z_useK (SDiv.mk w _ d hw hw1 hz hd hd0) ?_) | lia
  obtain ⟨k, rfl⟩ := hdz
  have e1 : (d : Int) * k / d = k := Int.mul_ediv_cancel_left _ (by lia)
  have e2 : ((d : Int) * k).natAbs / d = k.natAbs := by rw [Int.natAbs_mul, Int.natAbs_natCast, Nat.mul_div_cancel_left _ hd0]
  have e3 : decide ((d : Int) * k < 0) = decide (k < 0) := by
    rw [decide_eq_decide]
    constructor
    · intro h
      rcases (show k < 0 ∨ 0 ≤ k by lia) with q | q
      · exact q
      · have := Int.mul_nonneg (show (0 : Int) ≤ d by lia) q; lia
    · intro h
      exact Int.mul_neg_of_pos_of_neg (by lia) h
  rw [e1, e2, e3]
inductive SSignedOf : SpecF
  | mk (w n : Nat) : SSignedOf [dN w n] (dS w n)
theorem w_signed_of (ds r) (h : SSignedOf ds r) : ds.length = 1 ∧ wpSs C0 (wpR C0 2) (recI 24).body (putPs (base0 (recI 24).scope.names) ([Str.ofString "nat"].zip ds)) fun fl _ => retIs r fl := by
  obtain ⟨w, n⟩ := h
  refine ⟨rfl, ?_⟩
  rw [show (recI 24).scope.names = [(Str.ofString "nat", .local)] from rfl]
  simp only [base0, putPs, put, List.foldl_cons, List.foldl_nil, List.zip_cons_cons, List.zip_nil_right, List.zip_nil_left, ofString_beq, String.reduceBEq, Bool.false_eq_true, if_false, if_true, beq_self_eq_true]
  conv => arg 3; whnf
  repeat' first | (first | with_reducible refine' Z_cons ?_ | with_reducible refine' R_seq ?_ | with_reducible refine' R_is ?_ | ((with_reducible refine' E_val ?h ?_); (case h => exact rfl)) | with_reducible refine' E_bool ?_ | with_reducible refine' Es_nil ?_ | with_reducible refine' Es_cons ?_ | with_reducible refine' E_tup ?_ | ((with_reducible refine' X_dats ?h ?g ?_); (case h => exact rfl); (case g => exact Nat.le_of_ble_eq_true rfl)) | with_reducible refine' Z_ret ?_) | lia
  rw [dS_nat]
noncomputable abbrev Fr (w : Nat) (z : Int) (d : Nat) : PyData := .tuple [Sg w z, pN w d]
noncomputable abbrev dF (w : Nat) (z : Int) (d : Nat) : Vx := .dat (Fr w z d)
noncomputable abbrev CRNeg : Ctx := ⟨Str.ofString "", [(Str.ofString "s_neg", SNeg)], []⟩
inductive SRNeg : SpecF
  | mk (w : Nat) (z : Int) (d : Nat) : 0 < w → Num z.natAbs → SRNeg [dF w z d] (dF w (-z) d)
theorem w_r_neg (ds r) (h : SRNeg ds r) : ds.length = 1 ∧ wpSs CRNeg (wpR CRNeg 2) (recI 25).body (putPs (base0 (recI 25).scope.names) ([Str.ofString "x"].zip ds)) fun fl _ => retIs r fl := by
  obtain ⟨w, z, d, hw, hz⟩ := h
  refine ⟨rfl, ?_⟩
  rw [show (recI 25).scope.names = [(Str.ofString "x", .local), (Str.ofString "s_neg", .globalImplicit)] from rfl]
  simp only [base0, putPs, put, List.foldl_cons, List.foldl_nil, List.zip_cons_cons, List.zip_nil_right, List.zip_nil_left, ofString_beq, String.reduceBEq, Bool.false_eq_true, if_false, if_true, beq_self_eq_true]
  conv => arg 3; whnf
  repeat' first | (first | with_reducible refine' Z_cons ?_ | with_reducible refine' R_seq ?_ | with_reducible refine' R_is ?_ | with_reducible refine' E_int ?_ | with_reducible refine' X_dat ?_ | ((with_reducible refine' E_subVal ?h ?_); (case h => exact rfl)) | ((with_reducible refine' Z_user ?h ?g ?_); (case h => exact rfl); (case g => exact fun q => by cases q)) | with_reducible refine' Es_nil ?_ | with_reducible refine' Es_cons ?_ | with_reducible refine' E_tup ?_ | ((with_reducible refine' X_dats ?h ?g ?_); (case h => exact rfl); (case g => exact Nat.le_of_ble_eq_true rfl)) | with_reducible refine' I_t0 ?_ | with_reducible refine' I_t1 ?_ | with_reducible refine' Z_ret ?_ | with_reducible rfl) | (refine Z_useK (SNeg.mk w z hw hz) ?_) | lia
noncomputable def raddT (a : Int) (b : Nat) (c : Int) (d : Nat) : Int := a * (d / Nat.gcd b d : Nat) + c * (b / Nat.gcd b d : Nat)
noncomputable def radd1 (a : Int) (b : Nat) (c : Int) (d : Nat) : Int := if raddT a b c d = 0 then 0 else raddT a b c d / (Nat.gcd (raddT a b c d).natAbs (Nat.gcd b d) : Nat)
noncomputable def radd2 (a : Int) (b : Nat) (c : Int) (d : Nat) : Nat := if raddT a b c d = 0 then 1 else b / Nat.gcd b d * (d / Nat.gcd (raddT a b c d).natAbs (Nat.gcd b d))
noncomputable abbrev CRAdd : Ctx := ⟨Str.ofString "", [(Str.ofString "common", SCommon), (Str.ofString "divrem_school", SDiv), (Str.ofString "s_add", SSAdd), (Str.ofString "s_mul", SSMul), (Str.ofString "signed_of", SSignedOf), (Str.ofString "cut_signed", SCut), (Str.ofString "mul_school", SMul)], []⟩
inductive SRAdd : SpecF
  | mk (w : Nat) (a : Int) (b : Nat) (c : Int) (d : Nat) : 0 < w → w ≤ 60 → Bd 4000 a.natAbs → Bd 4000 b → Bd 4000 c.natAbs → Bd 4000 d → 0 < b → 0 < d → SRAdd [dF w a b, dF w c d, vInt w, fMul, fDiv] (dF w (radd1 a b c d) (radd2 a b c d))
theorem w_r_add (ds r) (h : SRAdd ds r) : ds.length = 5 ∧ wpSs CRAdd (wpR CRAdd 2) (recI 26).body (putPs (base0 (recI 26).scope.names) ([Str.ofString "x", Str.ofString "y", Str.ofString "w", Str.ofString "mul", Str.ofString "divrem"].zip ds)) fun fl _ => retIs r fl := by
  obtain ⟨w, a, b, c, d, hw, hw1, ha, hb, hc, hd, hb0, hd0⟩ := h
  refine ⟨rfl, ?_⟩
  have hg0 : 0 < Nat.gcd b d := Nat.gcd_pos_of_pos_left _ hb0
  have hgb : Bd 4000 (Nat.gcd b d) := hb.le (Nat.gcd_le_left _ hb0)
  have hbq : Bd 4000 (b / Nat.gcd b d) := hb.le (Nat.div_le_self _ _)
  have hdq : Bd 4000 (d / Nat.gcd b d) := hd.le (Nat.div_le_self _ _)
  have e : raddT a b c d = a * (d / Nat.gcd b d : Nat) + c * (b / Nat.gcd b d : Nat) := rfl
  have ht1 : Bd 8000 (a * (d / Nat.gcd b d : Nat)).natAbs := by rw [Int.natAbs_mul, Int.natAbs_natCast]; exact ha.mul hdq
  have ht2 : Bd 8000 (c * (b / Nat.gcd b d : Nat)).natAbs := by rw [Int.natAbs_mul, Int.natAbs_natCast]; exact hc.mul hbq
  have ht : Bd 8001 (raddT a b c d).natAbs := (ht1.add ht2).le (by rw [e]; lia)
  have hlt := len_le hw (ht.num (by decide))
  have hlp := limbs_len_pos (n := (raddT a b c d).natAbs) hw
  rw [show (recI 26).scope.names = [(Str.ofString "x", .local), (Str.ofString "y", .local), (Str.ofString "w", .local), (Str.ofString "mul", .local), (Str.ofString "divrem", .local), (Str.ofString "told", .local), (Str.ofString "here", .local), (Str.ofString "there", .local), (Str.ofString "top", .local), (Str.ofString "out", .local), (Str.ofString "common", .globalImplicit), (Str.ofString "s_add", .globalImplicit), (Str.ofString "s_mul", .globalImplicit), (Str.ofString "signed_of", .globalImplicit), (Str.ofString "len", .globalImplicit), (Str.ofString "cut_signed", .globalImplicit)] from rfl]
  simp only [base0, putPs, put, List.foldl_cons, List.foldl_nil, List.zip_cons_cons, List.zip_nil_right, List.zip_nil_left, ofString_beq, String.reduceBEq, Bool.false_eq_true, if_false, if_true, beq_self_eq_true]
  conv => arg 3; whnf
  repeat' first | (first | with_reducible refine' Z_cons ?_ | with_reducible refine' N_seq ?_ | ((with_reducible refine' E_val ?h ?_); (case h => exact rfl)) | with_reducible refine' E_int ?_ | with_reducible refine' X_dat ?_ | ((with_reducible refine' E_subVal ?h ?_); (case h => exact rfl)) | ((with_reducible refine' Z_user ?h ?g ?_); (case h => exact rfl); (case g => exact fun q => by cases q)) | ((with_reducible refine' E_sub ?h ?_); (case h => exact rfl)) | with_reducible refine' Es_nil ?_ | with_reducible refine' Es_cons ?_ | ((with_reducible refine' Z_put ?h1 ?h2 ?h3 ?_); (case h1 => (first | exact ofString_ne (by decide) | (refine' canPut_of (s := _) ?h (fun q => ?g); (case h => exact rfl); (case g => first | (cases q; done) | exact absurd q (by assumption))) | assumption)); (case h2 => (first | exact ofString_ne (by decide) | (refine' canPut_of (s := _) ?h (fun q => ?g); (case h => exact rfl); (case g => first | (cases q; done) | exact absurd q (by assumption))) | assumption)); (case h3 => exact rfl)) | with_reducible refine' I_t0 ?_ | with_reducible refine' I_t1 ?_ | with_reducible refine' Z_asg ?_ | ((with_reducible refine' F_val ?r1 ?_); (case r1 => rfl)) | ((with_reducible refine' Z_tup ?r1 ?r2 ?_); (case r1 => rfl); (case r2 => rfl)) | ((with_reducible refine' Z_tupK ?h1 ?h2 ?h3 ?h4 ?h5 ?h6 ?h7 ?h8 ?_); (case h1 => exact rfl); (case h2 => rfl); (case h3 => exact Nat.le_of_ble_eq_true rfl); (case h4 => decide); (case h5 => (first | exact ofString_ne (by decide) | (refine' canPut_of (s := _) ?h (fun q => ?g); (case h => exact rfl); (case g => first | (cases q; done) | exact absurd q (by assumption))) | assumption)); (case h6 => simp only [List.forall_mem_cons]; (repeat' apply And.intro) <;> first | (first | exact ofString_ne (by decide) | (refine' canPut_of (s := _) ?h (fun q => ?g); (case h => exact rfl); (case g => first | (cases q; done) | exact absurd q (by assumption))) | assumption) | (intro x hx; cases hx)); (case h7 => rfl); (case h8 => exact rfl))) | (refine Z_useK (SCommon.mk w b d hw hw1 (hb.sm (by decide)) (hd.sm (by decide))) ?_) | (refine Z_useK (SDiv.mk w b _ hw hw1 (hb.sm (by decide)) (hgb.sm (by decide)) hg0) ?_) | (refine Z_useK (SDiv.mk w d _ hw hw1 (hd.sm (by decide)) (hgb.sm (by decide)) hg0) ?_) | (refine Z_useK (SSignedOf.mk w _) ?_) | lia
  refine Z_useK (SSMul.mk w a (d / Nat.gcd b d : Nat) hw hw1 (ha.mono (by decide)) (by rw [Int.natAbs_natCast]; exact hdq.mono (by decide))) ?_
  repeat' first | (first | ((with_reducible refine' E_val ?h ?_); (case h => exact rfl)) | with_reducible refine' E_int ?_ | with_reducible refine' X_dat ?_ | ((with_reducible refine' E_subVal ?h ?_); (case h => exact rfl)) | ((with_reducible refine' Z_user ?h ?g ?_); (case h => exact rfl); (case g => exact fun q => by cases q)) | with_reducible refine' Es_nil ?_ | with_reducible refine' Es_cons ?_ | with_reducible refine' I_t0 ?_) | (refine Z_useK (SSignedOf.mk w _) ?_) | lia
  refine Z_useK (SSMul.mk w c (b / Nat.gcd b d : Nat) hw hw1 (hc.mono (by decide)) (by rw [Int.natAbs_natCast]; exact hbq.mono (by decide))) ?_
  repeat' first | (first | ((with_reducible refine' E_val ?h ?_); (case h => exact rfl)) | with_reducible refine' Es_nil ?_ | with_reducible refine' Es_cons ?_) | lia
  refine Z_useK (SSAdd.mk w _ _ hw hw1 (ht1.mono (by decide)) (ht2.mono (by decide))) ?_
  rw [← e]
  have hr1 : radd1 a b c d = if raddT a b c d = 0 then 0 else raddT a b c d / (Nat.gcd (raddT a b c d).natAbs (Nat.gcd b d) : Nat) := rfl
  have hr2 : radd2 a b c d = if raddT a b c d = 0 then 1 else b / Nat.gcd b d * (d / Nat.gcd (raddT a b c d).natAbs (Nat.gcd b d)) := rfl
  rw [hr1, hr2]
  generalize raddT a b c d = t at *
  repeat' first | (first | with_reducible refine' Z_cons ?_ | with_reducible refine' N_seq ?_ | with_reducible refine' R_seq ?_ | with_reducible refine' R_is ?_ | with_reducible refine' Z_nil ?_ | ((with_reducible refine' E_val ?h ?_); (case h => exact rfl)) | with_reducible refine' E_int ?_ | with_reducible refine' X_dat ?_ | ((with_reducible refine' E_subVal ?h ?_); (case h => exact rfl)) | ((with_reducible refine' E_len ?h ?g ?_); (case h => exact rfl); (case g => exact rfl)) | ((with_reducible refine' Z_user ?h ?g ?_); (case h => exact rfl); (case g => exact fun q => by cases q)) | with_reducible refine' X_lenI ?_ ?_ | with_reducible refine' Es_nil ?_ | with_reducible refine' Es_cons ?_ | with_reducible refine' E_tup ?_ | with_reducible refine' E_list ?_ | ((with_reducible refine' X_dats ?h ?g ?_); (case h => exact rfl); (case g => exact Nat.le_of_ble_eq_true rfl)) | ((with_reducible refine' Z_put ?h1 ?h2 ?h3 ?_); (case h1 => (first | exact ofString_ne (by decide) | (refine' canPut_of (s := _) ?h (fun q => ?g); (case h => exact rfl); (case g => first | (cases q; done) | exact absurd q (by assumption))) | assumption)); (case h2 => (first | exact ofString_ne (by decide) | (refine' canPut_of (s := _) ?h (fun q => ?g); (case h => exact rfl); (case g => first | (cases q; done) | exact absurd q (by assumption))) | assumption)); (case h3 => exact rfl)) | with_reducible refine' I_t1 ?_ | with_reducible refine' C_eq ?_ | ((with_reducible refine' br ?_ ?_) <;> intro _) | ((with_reducible refine' T_cmp ?r1 ?_); (case r1 => rfl)) | with_reducible refine' Z_asg ?_ | with_reducible refine' Z_ret ?_ | with_reducible refine' S_if ?_ | ((with_reducible refine' F_val ?r1 ?_); (case r1 => rfl))) | lia
  · rename_i h
    have h0 : t = 0 := by
      rcases Nat.eq_zero_or_pos t.natAbs with q | q
      · lia
      · have := hlp.mpr q; lia
    rw [if_pos h0, if_pos h0, h0]
    have : pN w 1 = .list [.int 1] := by rw [pN, limbs_one hw (by decide) (Nat.one_lt_two_pow (by lia))]; rfl
    rw [← this]
  · rename_i h
    have h0 : t ≠ 0 := by
      intro q
      subst q
      rw [Int.natAbs_zero, limbs_zero] at h
      exact h rfl
    rw [if_neg h0, if_neg h0]
    have ho0 : 0 < Nat.gcd t.natAbs (Nat.gcd b d) := Nat.gcd_pos_of_pos_right _ hg0
    have hob : Bd 4000 (Nat.gcd t.natAbs (Nat.gcd b d)) := hgb.le (Nat.gcd_le_right _ hg0)
    have hdo : Bd 4000 (d / Nat.gcd t.natAbs (Nat.gcd b d)) := hd.le (Nat.div_le_self _ _)
    have hdvd : ((Nat.gcd t.natAbs (Nat.gcd b d) : Nat) : Int) ∣ t := Int.ofNat_dvd_left.mpr (Nat.gcd_dvd_left _ _)
    refine Z_useK (SCommon.mk w t.natAbs (Nat.gcd b d) hw hw1 (ht.sm (by decide)) (hgb.sm (by decide))) ?_
    repeat' first | (first | with_reducible refine' Z_cons ?_ | with_reducible refine' N_seq ?_ | ((with_reducible refine' E_val ?h ?_); (case h => exact rfl)) | ((with_reducible refine' Z_user ?h ?g ?_); (case h => exact rfl); (case g => exact fun q => by cases q)) | with_reducible refine' Es_nil ?_ | with_reducible refine' Es_cons ?_ | with_reducible refine' E_tup ?_ | ((with_reducible refine' Z_put ?h1 ?h2 ?h3 ?_); (case h1 => (first | exact ofString_ne (by decide) | (refine' canPut_of (s := _) ?h (fun q => ?g); (case h => exact rfl); (case g => first | (cases q; done) | exact absurd q (by assumption))) | assumption)); (case h2 => (first | exact ofString_ne (by decide) | (refine' canPut_of (s := _) ?h (fun q => ?g); (case h => exact rfl); (case g => first | (cases q; done) | exact absurd q (by assumption))) | assumption)); (case h3 => exact rfl)) | with_reducible refine' Z_ret ?_) | lia
    refine Z_useK (SCut.mk w t _ hw hw1 (ht.sm (by decide)) (hob.sm (by decide)) ho0 hdvd) ?_
    repeat' first | (first | ((with_reducible refine' E_val ?h ?_); (case h => exact rfl)) | with_reducible refine' E_int ?_ | with_reducible refine' X_dat ?_ | ((with_reducible refine' E_subVal ?h ?_); (case h => exact rfl)) | ((with_reducible refine' Z_user ?h ?g ?_); (case h => exact rfl); (case g => exact fun q => by cases q)) | ((with_reducible refine' E_sub ?h ?_); (case h => exact rfl)) | with_reducible refine' Es_nil ?_ | with_reducible refine' Es_cons ?_ | with_reducible refine' I_t0 ?_ | with_reducible refine' I_t1 ?_) | (refine Z_useK (SDiv.mk w d _ hw hw1 (hd.sm (by decide)) (hob.sm (by decide)) ho0) ?_) | lia
    refine Z_useK (SMul.mk w _ _ hw hw1 (hbq.num (by decide)) (hdo.num (by decide))) ?_
    repeat' first | (first | with_reducible refine' R_seq ?_ | with_reducible refine' R_is ?_ | with_reducible refine' Es_nil ?_ | ((with_reducible refine' X_dats ?h ?g ?_); (case h => exact rfl); (case g => exact Nat.le_of_ble_eq_true rfl)) | with_reducible rfl) | lia
noncomputable abbrev CRSub : Ctx := ⟨Str.ofString "", [(Str.ofString "r_add", SRAdd), (Str.ofString "r_neg", SRNeg)], []⟩
inductive SRSub : SpecF
  | mk (w : Nat) (a : Int) (b : Nat) (c : Int) (d : Nat) : 0 < w → w ≤ 60 → Bd 4000 a.natAbs → Bd 4000 b → Bd 4000 c.natAbs → Bd 4000 d → 0 < b → 0 < d → SRSub [dF w a b, dF w c d, vInt w, fMul, fDiv] (dF w (radd1 a b (-c) d) (radd2 a b (-c) d))
theorem w_r_sub (ds r) (h : SRSub ds r) : ds.length = 5 ∧ wpSs CRSub (wpR CRSub 2) (recI 27).body (putPs (base0 (recI 27).scope.names) ([Str.ofString "x", Str.ofString "y", Str.ofString "w", Str.ofString "mul", Str.ofString "divrem"].zip ds)) fun fl _ => retIs r fl := by
  obtain ⟨w, a, b, c, d, hw, hw1, ha, hb, hc, hd, hb0, hd0⟩ := h
  refine ⟨rfl, ?_⟩
  rw [show (recI 27).scope.names = [(Str.ofString "x", .local), (Str.ofString "y", .local), (Str.ofString "w", .local), (Str.ofString "mul", .local), (Str.ofString "divrem", .local), (Str.ofString "r_add", .globalImplicit), (Str.ofString "r_neg", .globalImplicit)] from rfl]
  simp only [base0, putPs, put, List.foldl_cons, List.foldl_nil, List.zip_cons_cons, List.zip_nil_right, List.zip_nil_left, ofString_beq, String.reduceBEq, Bool.false_eq_true, if_false, if_true, beq_self_eq_true]
  conv => arg 3; whnf
  repeat' first | (first | with_reducible refine' Z_cons ?_ | with_reducible refine' R_seq ?_ | with_reducible refine' R_is ?_ | ((with_reducible refine' E_val ?h ?_); (case h => exact rfl)) | ((with_reducible refine' Z_user ?h ?g ?_); (case h => exact rfl); (case g => exact fun q => by cases q)) | with_reducible refine' Es_nil ?_ | with_reducible refine' Es_cons ?_ | with_reducible refine' Z_ret ?_ | with_reducible rfl) | (refine Z_useK (SRNeg.mk w c d hw (hc.num (by decide))) ?_) | (refine Z_useK (SRAdd.mk w a b (-c) d hw hw1 ha hb (by rw [Int.natAbs_neg]; exact hc) hd hb0 hd0) ?_) | lia
theorem I_l0 {a : PyData} {r : List PyData} {K : Vx → Prop} (h : K (.dat a)) : subV (.list (a :: r)) (.dat (.int 0)) K := ⟨by decide, by decide, by simp; lia, a, by simp, h⟩
theorem I_l1 {a b : PyData} {r : List PyData} {K : Vx → Prop} (h : K (.dat b)) : subV (.list (a :: b :: r)) (.dat (.int 1)) K := ⟨by decide, by decide, by simp; lia, b, by simp, h⟩
theorem Z_set0 {KS : Fl → Rho → Prop} {x : Str} {ρ ρ2 : Rho} {a d : PyData} {r : List PyData} (e : got ρ x = some (.own (a :: r))) (e2 : put ρ x (.own (d :: r)) = ρ2) (h : Nx KS ρ2) : SetK KS x (.dat d) (.dat (.int 0)) ρ :=
  ⟨a :: r, d, 0, e, rfl, rfl, by decide, by simp only [List.length_cons]; lia, by decide, by
    show Nx KS (put ρ x (.own (d :: r)))
    rw [e2]; exact h⟩
noncomputable abbrev CLoaf : Ctx := ⟨Str.ofString "loaf", [], []⟩
noncomputable def draw (k : Nat) (ns : List Int) (m : Int) : Int := if k + 1 ≤ ns.length then ns.getD k 0 % m else (5 * ((k + 1 : Nat) : Int) + ((k + 1 : Nat) : Int) / 2 + 6) % m
inductive SShared : SpecM
  | mk (k : Nat) (ns : List Int) (m : Int) : 0 < m → k ≤ 10 → ns.length ≤ 1000 → SShared [.int k, .list (IL ns)] [vInt m] (vInt (draw k ns m)) [.int ((k + 1 : Nat) : Int), .list (IL ns)]
theorem w_law_shared (xs ds r ys) (h : SShared xs ds r ys) : ds.length = 1 ∧ wpSs CLoaf (wpR CLoaf 2) (recI 37).body (put (putPs (base0 (recI 37).scope.names) ([Str.ofString "many"].zip ds)) (Str.ofString "loaf") (.own xs)) fun fl ρ => retIs r fl ∧ got ρ (Str.ofString "loaf") = some (.own ys) := by
  obtain ⟨k, ns, m, hm, hk, hn⟩ := h
  refine ⟨rfl, ?_⟩
  rw [show (recI 37).scope.names = [(Str.ofString "loaf", .local), (Str.ofString "many", .local), (Str.ofString "len", .globalImplicit)] from rfl]
  simp only [base0, putPs, put, List.foldl_cons, List.foldl_nil, List.zip_cons_cons, List.zip_nil_right, List.zip_nil_left, ofString_beq, String.reduceBEq, Bool.false_eq_true, if_false, if_true, beq_self_eq_true]
  conv => arg 3; whnf
  repeat' first | (with_reducible refine' I_l0 ?_) | (with_reducible refine' I_l1 ?_) | (refine Z_set0 (by exact rfl) (by exact rfl) ?_) | (first | with_reducible refine' Z_cons ?_ | with_reducible refine' N_seq ?_ | with_reducible refine' R_seq ?_ | ((with_reducible refine' M_is ?_ ?h); (case h => exact rfl)) | with_reducible refine' Z_nil ?_ | ((with_reducible refine' E_val ?h ?_); (case h => exact rfl)) | with_reducible refine' E_int ?_ | with_reducible refine' E_bin ?_ | with_reducible refine' X_dat ?_ | ((with_reducible refine' X_own ?h ?_); (case h => exact rfl)) | ((with_reducible refine' E_subOwn ?h ?_); (case h => exact rfl)) | ((with_reducible refine' E_len ?h ?g ?_); (case h => exact rfl); (case g => exact rfl)) | ((with_reducible refine' E_sub ?h ?_); (case h => exact rfl)) | with_reducible refine' X_lenI ?_ ?_ | with_reducible refine' B_add ?_ | with_reducible refine' B_sub ?_ | with_reducible refine' B_mul ?_ ?_ | with_reducible refine' B_div ?_ ?_ ?_ | with_reducible refine' B_mod ?_ ?_ | with_reducible refine' I_item ?_ ?_ ?_ ?_ | with_reducible refine' C_le ?_ | ((with_reducible refine' br ?_ ?_) <;> intro _) | ((with_reducible refine' T_cmp ?r1 ?_); (case r1 => rfl)) | with_reducible refine' Z_ret ?_ | with_reducible refine' S_if ?_ | with_reducible refine' Z_set ?_ | ((with_reducible refine' Z_has ?h ?_); (case h => exact rfl))) | lia
  · rename_i h
    have ek : (k : Int) + 1 = ((k + 1 : Nat) : Int) := by lia
    rw [ek, show (((k + 1 : Nat) : Int) - 1).toNat = k by lia]
    rw [show ns.getD k 0 % m = draw k ns m by rw [draw, if_pos (by lia)]]
  · rename_i h
    have ek : (k : Int) + 1 = ((k + 1 : Nat) : Int) := by lia
    rw [ek]
    rw [show (5 * ((k + 1 : Nat) : Int) + ((k + 1 : Nat) : Int) / 2 + 6) % m = draw k ns m by rw [draw, if_neg (by lia)]]
inductive SLimbs : SpecF
  | mk (w n : Nat) : 0 < w → w ≤ 60 → Num n → SLimbs [vInt n, vInt w] (dN w n)
theorem w_law_limbs (ds r) (h : SLimbs ds r) : ds.length = 2 ∧ wpSs C0 (wpR C0 2) (recI 38).body (putPs (base0 (recI 38).scope.names) ([Str.ofString "number", Str.ofString "w"].zip ds)) fun fl _ => retIs r fl := by
  obtain ⟨w, n, hw, hw1, hn⟩ := h
  refine ⟨rfl, ?_⟩
  have hB := powB (w := w)
  have h60 := pow60 hw1
  have hln := len_le hw hn
  rw [show (recI 38).scope.names = [(Str.ofString "number", .local), (Str.ofString "w", .local), (Str.ofString "found", .local)] from rfl]
  simp only [base0, putPs, put, List.foldl_cons, List.foldl_nil, List.zip_cons_cons, List.zip_nil_right, List.zip_nil_left, ofString_beq, String.reduceBEq, Bool.false_eq_true, if_false, if_true, beq_self_eq_true]
  conv => arg 3; whnf
  repeat' first | (first | with_reducible refine' Z_cons ?_ | with_reducible refine' N_seq ?_ | with_reducible refine' Es_nil ?_ | ((with_reducible refine' X_dats ?h ?g ?_); (case h => exact rfl); (case g => exact Nat.le_of_ble_eq_true rfl)) | ((with_reducible refine' Z_putE ?h1 ?h2 ?h3 ?_); (case h1 => (first | exact ofString_ne (by decide) | (refine' canPut_of (s := _) ?h (fun q => ?g); (case h => exact rfl); (case g => first | (cases q; done) | exact absurd q (by assumption))) | assumption)); (case h2 => (first | exact ofString_ne (by decide) | (refine' canPut_of (s := _) ?h (fun q => ?g); (case h => exact rfl); (case g => first | (cases q; done) | exact absurd q (by assumption))) | assumption)); (case h3 => exact rfl)) | with_reducible refine' Z_asg ?_ | with_reducible refine' F_list ?_ | with_reducible refine' S_while ?_) | lia
  refine while_inv (fun m ρ => ∃ fs, ρ = ((Str.ofString "number", vI m) :: (Str.ofString "w", vI w) :: (Str.ofString "found", oL fs) :: []) ∧ fs ++ limbs w m = limbs w n) n ⟨[], rfl, rfl⟩ ?_
  rintro m _ ⟨fs, rfl, hfs⟩ K hK hR
  have hl : fs.length + (limbs w m).length = (limbs w n).length := by rw [← hfs, List.length_append]
  have em : ((m % 2 ^ w : Nat) : Int) = (m : Int) % 2 ^ w := by rw [Int.natCast_emod, pw]
  have ed : ((m / 2 ^ w : Nat) : Int) = (m : Int) / 2 ^ w := by rw [Int.natCast_ediv, pw]
  repeat' first | (first | with_reducible refine' Z_cons ?_ | with_reducible refine' N_seq ?_ | with_reducible refine' R_seq ?_ | with_reducible refine' R_is ?_ | with_reducible refine' Z_nil ?_ | ((with_reducible refine' E_val ?h ?_); (case h => exact rfl)) | ((with_reducible refine' E_own ?h ?g ?_); (case h => exact rfl); (case g => exact rfl)) | with_reducible refine' E_int ?_ | with_reducible refine' E_bin ?_ | ((with_reducible refine' Z_putI ?h1 ?h2 ?h3 ?_); (case h1 => (first | exact ofString_ne (by decide) | (refine' canPut_of (s := _) ?h (fun q => ?g); (case h => exact rfl); (case g => first | (cases q; done) | exact absurd q (by assumption))) | assumption)); (case h2 => (first | exact ofString_ne (by decide) | (refine' canPut_of (s := _) ?h (fun q => ?g); (case h => exact rfl); (case g => first | (cases q; done) | exact absurd q (by assumption))) | assumption)); (case h3 => exact rfl)) | ((with_reducible refine' B_pow2 ?w1 ?_); (case w1 => lia)) | with_reducible refine' B_div ?_ ?_ ?_ | with_reducible refine' B_mod ?_ ?_ | with_reducible refine' C_gt ?_ | ((with_reducible refine' brN ?_ ?_) <;> intro _) | with_reducible refine' R_step ?_ | ((with_reducible refine' T_cmp ?r1 ?_); (case r1 => rfl)) | with_reducible refine' Z_asg ?_ | with_reducible refine' Z_ret ?_ | with_reducible refine' F_bin ?_ | ((with_reducible refine' Z_app ?hm ?r1 ?h ?_); (case hm => exact ⟨_, fun env => rfl⟩); (case h => exact rfl); (case r1 => rfl)) | ((with_reducible refine' Z_appK ?h ?_ ?g ?_); (case h => exact rfl); (case g => exact rfl))) | lia
  · rename_i h
    have h0 : 0 < m := by lia
    rw [← em, ← ed]
    exact hK (m / 2 ^ w) _ (Nat.div_lt_self h0 (two_le_pow hw)) ⟨_, rfl, by rw [← hfs, limbs_pos hw h0]; simp⟩
  · rename_i h
    have h0 : m = 0 := by lia
    subst h0
    rw [limbs_zero, List.append_nil] at hfs
    rw [hfs]
inductive SWorth : SpecF
  | mk (w n : Nat) : 0 < w → w ≤ 60 → n < 2 ^ 60 → SWorth [dN w n, vInt w] (vInt n)
theorem w_law_worth (ds r) (h : SWorth ds r) : ds.length = 2 ∧ wpSs C0 (wpR C0 2) (recI 39).body (putPs (base0 (recI 39).scope.names) ([Str.ofString "limbs", Str.ofString "w"].zip ds)) fun fl _ => retIs r fl := by
  obtain ⟨w, n, hw, hw1, hn⟩ := h
  refine ⟨rfl, ?_⟩
  have hB := powB (w := w)
  have hln : (limbs w n).length ≤ 60 := limbs_len_le hw n 60 hn
  rw [show (recI 39).scope.names = [(Str.ofString "limbs", .local), (Str.ofString "w", .local), (Str.ofString "worth", .local), (Str.ofString "limb", .local)] from rfl]
  simp only [base0, putPs, put, List.foldl_cons, List.foldl_nil, List.zip_cons_cons, List.zip_nil_right, List.zip_nil_left, ofString_beq, String.reduceBEq, Bool.false_eq_true, if_false, if_true, beq_self_eq_true]
  conv => arg 3; whnf
  repeat' first | (first | with_reducible refine' Z_cons ?_ | with_reducible refine' N_seq ?_ | with_reducible refine' E_int ?_ | with_reducible refine' X_dat ?_ | ((with_reducible refine' E_subVal ?h ?_); (case h => exact rfl)) | ((with_reducible refine' E_neg (U_neg' ?_))) | with_reducible refine' E_slice ?_ | with_reducible refine' O_none ?_ | with_reducible refine' O_some ?_ | with_reducible refine' O_int ?_ | ((with_reducible refine' Z_put ?h1 ?h2 ?h3 ?_); (case h1 => (first | exact ofString_ne (by decide) | (refine' canPut_of (s := _) ?h (fun q => ?g); (case h => exact rfl); (case g => first | (cases q; done) | exact absurd q (by assumption))) | assumption)); (case h2 => (first | exact ofString_ne (by decide) | (refine' canPut_of (s := _) ?h (fun q => ?g); (case h => exact rfl); (case g => first | (cases q; done) | exact absurd q (by assumption))) | assumption)); (case h3 => exact rfl)) | with_reducible refine' X_asInt ?_ | with_reducible refine' X_list ?_ | with_reducible refine' I_rev ?_ ?_ | with_reducible refine' Z_asg ?_ | ((with_reducible refine' F_val ?r1 ?_); (case r1 => rfl)) | ((with_reducible refine' S_for ?h ?r1 ?_); (case h => exact rfl); (case r1 => rfl))) | lia
  refine for_lst (fun i ρ => ∃ t, ρ = ((Str.ofString "limbs", .val (dN w n)) :: (Str.ofString "w", vI w) :: (Str.ofString "worth", vI (val (2 ^ w) ((limbs w n).drop ((limbs w n).length - i)))) :: (Str.ofString "limb", t) :: []) ∧ t ≠ .glob) ⟨.unset, by rw [Nat.sub_zero, List.drop_length]; rfl, une⟩ ?_ ?_
  · rintro i _ hi ⟨t, rfl, ht⟩ K hK hR hBk
    rw [List.length_reverse] at hi
    obtain ⟨j, hj⟩ : ∃ j : Nat, (limbs w n).length = j + 1 + i := ⟨(limbs w n).length - 1 - i, by lia⟩
    have hv := val_split (2 ^ w) (limbs w n) (j + 1) (by lia)
    have hb0 := val_bounds hB ((limbs_rg hw n).drop (j + 1))
    have hb1 := val_bounds hB ((limbs_rg hw n).take (j + 1))
    rw [limbs_val hw] at hv
    rw [show (limbs w n).length - i = j + 1 by lia]
    have hbig : val (2 ^ w) ((limbs w n).drop (j + 1)) ≤ n := by
      have h1 := pow_pos' hB (j + 1)
      have : 1 * val (2 ^ w) ((limbs w n).drop (j + 1)) ≤ (2 ^ w) ^ (j + 1) * val (2 ^ w) ((limbs w n).drop (j + 1)) := Int.mul_le_mul_of_nonneg_right (by lia) hb0.1
      lia
    have er : (limbs w n).reverse.getD i 0 = (limbs w n).getD j 0 := by
      rw [List.getD_eq_getElem?_getD, List.getD_eq_getElem?_getD, List.getElem?_reverse (by lia), show (limbs w n).length - 1 - i = j by lia]
    rw [er]
    repeat' first | (first | with_reducible refine' Z_cons ?_ | with_reducible refine' N_seq ?_ | with_reducible refine' Z_nil ?_ | ((with_reducible refine' E_val ?h ?_); (case h => exact rfl)) | with_reducible refine' E_int ?_ | with_reducible refine' E_bin ?_ | ((with_reducible refine' Z_putI ?h1 ?h2 ?h3 ?_); (case h1 => (first | exact ofString_ne (by decide) | (refine' canPut_of (s := _) ?h (fun q => ?g); (case h => exact rfl); (case g => first | (cases q; done) | exact absurd q (by assumption))) | assumption)); (case h2 => (first | exact ofString_ne (by decide) | (refine' canPut_of (s := _) ?h (fun q => ?g); (case h => exact rfl); (case g => first | (cases q; done) | exact absurd q (by assumption))) | assumption)); (case h3 => exact rfl)) | ((with_reducible refine' B_pow2 ?w1 ?_); (case w1 => lia)) | with_reducible refine' B_add ?_ | with_reducible refine' B_mul ?_ ?_ | ((with_reducible refine' Z_turn ?h1 ?h3 ?_); (case h1 => (first | exact ofString_ne (by decide) | (refine' canPut_of (s := _) ?h (fun q => ?g); (case h => exact rfl); (case g => first | (cases q; done) | exact absurd q (by assumption))) | assumption)); (case h3 => exact rfl)) | with_reducible refine' Z_asg ?_ | with_reducible refine' F_bin ?_) | lia
    have e : val (2 ^ w) ((limbs w n).drop (j + 1)) * 2 ^ w + (limbs w n).getD j 0 = val (2 ^ w) ((limbs w n).drop ((limbs w n).length - (i + 1))) := by
      rw [show (limbs w n).length - (i + 1) = j by lia, val_drop _ j (by lia), Int.add_comm, Int.mul_comm]
    rw [e]
    exact hK _ ⟨_, rfl, vne⟩
  · rintro _ ⟨t, rfl, ht⟩
    rw [List.length_reverse, Nat.sub_self, List.drop_zero, limbs_val hw]
    repeat' first | (first | with_reducible refine' Z_cons ?_ | with_reducible refine' N_seq ?_ | with_reducible refine' R_seq ?_ | with_reducible refine' R_is ?_ | ((with_reducible refine' E_val ?h ?_); (case h => exact rfl)) | with_reducible refine' Z_ret ?_ | with_reducible rfl) | lia
noncomputable abbrev CLeast : Ctx := ⟨Str.ofString "", [(Str.ofString "_law_limbs", SLimbs)], []⟩
inductive SLeast : SpecF
  | mk (w t b : Nat) : 0 < w → w ≤ 60 → t < 2 ^ 60 → b < 2 ^ 60 → 0 < b → SLeast [vInt t, vInt b, vInt w] (dF w ((t / Nat.gcd t b : Nat) : Int) (b / Nat.gcd t b))
theorem w_law_least (ds r) (h : SLeast ds r) : ds.length = 3 ∧ wpSs CLeast (wpR CLeast 2) (recI 40).body (putPs (base0 (recI 40).scope.names) ([Str.ofString "top", Str.ofString "bottom", Str.ofString "w"].zip ds)) fun fl _ => retIs r fl := by
  obtain ⟨w, t, b, hw, hw1, ht, hb, hb0⟩ := h
  refine ⟨rfl, ?_⟩
  have hsmall : ∀ k : Nat, k < 2 ^ 60 → Num k := fun k hk => Nat.lt_of_lt_of_le hk (Nat.pow_le_pow_right (by decide) (by decide))
  rw [show (recI 40).scope.names = [(Str.ofString "top", .local), (Str.ofString "bottom", .local), (Str.ofString "w", .local), (Str.ofString "here", .local), (Str.ofString "there", .local), (Str.ofString "_law_limbs", .globalImplicit)] from rfl]
  simp only [base0, putPs, put, List.foldl_cons, List.foldl_nil, List.zip_cons_cons, List.zip_nil_right, List.zip_nil_left, ofString_beq, String.reduceBEq, Bool.false_eq_true, if_false, if_true, beq_self_eq_true]
  conv => arg 3; whnf
  repeat' first | (first | with_reducible refine' Z_cons ?_ | with_reducible refine' N_seq ?_ | ((with_reducible refine' E_val ?h ?_); (case h => exact rfl)) | with_reducible refine' Es_nil ?_ | with_reducible refine' Es_cons ?_ | ((with_reducible refine' F_val ?r1 ?_); (case r1 => rfl)) | ((with_reducible refine' Z_tup ?r1 ?r2 ?_); (case r1 => rfl); (case r2 => rfl)) | ((with_reducible refine' Z_tupK ?h1 ?h2 ?h3 ?h4 ?h5 ?h6 ?h7 ?h8 ?_); (case h1 => exact rfl); (case h2 => rfl); (case h3 => exact Nat.le_of_ble_eq_true rfl); (case h4 => decide); (case h5 => (first | exact ofString_ne (by decide) | (refine' canPut_of (s := _) ?h (fun q => ?g); (case h => exact rfl); (case g => first | (cases q; done) | exact absurd q (by assumption))) | assumption)); (case h6 => simp only [List.forall_mem_cons]; (repeat' apply And.intro) <;> first | (first | exact ofString_ne (by decide) | (refine' canPut_of (s := _) ?h (fun q => ?g); (case h => exact rfl); (case g => first | (cases q; done) | exact absurd q (by assumption))) | assumption) | (intro x hx; cases hx)); (case h7 => rfl); (case h8 => exact rfl)) | with_reducible refine' S_while ?_) | lia
  refine while_inv (fun n ρ => ∃ x : Nat, ρ = ((Str.ofString "top", vI t) :: (Str.ofString "bottom", vI b) :: (Str.ofString "w", vI w) :: (Str.ofString "here", vI x) :: (Str.ofString "there", vI n) :: (Str.ofString "_law_limbs", Slot.glob) :: []) ∧ (0 < x ∨ 0 < n) ∧ Nat.gcd x n = Nat.gcd t b) b ⟨t, rfl, .inr hb0, rfl⟩ ?_
  rintro n _ ⟨x, rfl, hxn, hg⟩ K hK hR
  have hg0 : 0 < Nat.gcd t b := Nat.gcd_pos_of_pos_right _ hb0
  have hgb : Nat.gcd t b ≤ b := Nat.gcd_le_right _ hb0
  have hdt : t / Nat.gcd t b ≤ t := Nat.div_le_self _ _
  have hdb : b / Nat.gcd t b ≤ b := Nat.div_le_self _ _
  have hx0 : n = 0 → x = Nat.gcd t b := by intro e; subst e; rw [← hg, Nat.gcd_zero_right]
  repeat' first | (first | with_reducible refine' Z_cons ?_ | with_reducible refine' N_seq ?_ | with_reducible refine' Z_nil ?_ | ((with_reducible refine' E_val ?h ?_); (case h => exact rfl)) | with_reducible refine' E_int ?_ | with_reducible refine' E_bool ?_ | with_reducible refine' E_bin ?_ | ((with_reducible refine' Z_user ?h ?g ?_); (case h => exact rfl); (case g => exact fun q => by cases q)) | with_reducible refine' Es_nil ?_ | with_reducible refine' Es_cons ?_ | with_reducible refine' E_tup ?_ | with_reducible refine' B_div ?_ ?_ ?_ | with_reducible refine' B_mod ?_ ?_ | with_reducible refine' C_gt ?_ | ((with_reducible refine' brN ?_ ?_) <;> intro _) | with_reducible refine' R_step ?_ | ((with_reducible refine' T_cmp ?r1 ?_); (case r1 => rfl)) | with_reducible refine' Z_ret ?_ | ((with_reducible refine' F_val ?r1 ?_); (case r1 => rfl)) | ((with_reducible refine' Z_tup ?r1 ?r2 ?_); (case r1 => rfl); (case r2 => rfl)) | ((with_reducible refine' Z_tupK ?h1 ?h2 ?h3 ?h4 ?h5 ?h6 ?h7 ?h8 ?_); (case h1 => exact rfl); (case h2 => rfl); (case h3 => exact Nat.le_of_ble_eq_true rfl); (case h4 => decide); (case h5 => (first | exact ofString_ne (by decide) | (refine' canPut_of (s := _) ?h (fun q => ?g); (case h => exact rfl); (case g => first | (cases q; done) | exact absurd q (by assumption))) | assumption)); (case h6 => simp only [List.forall_mem_cons]; (repeat' apply And.intro) <;> first | (first | exact ofString_ne (by decide) | (refine' canPut_of (s := _) ?h (fun q => ?g); (case h => exact rfl); (case g => first | (cases q; done) | exact absurd q (by assumption))) | assumption) | (intro x hx; cases hx)); (case h7 => rfl); (case h8 => exact rfl))) | lia
  · rename_i h
    rw [← Int.natCast_emod]
    exact hK (x % n) _ (Nat.mod_lt _ (by lia)) ⟨n, rfl, .inl (by lia), by rw [← hg, Nat.gcd_comm x n, Nat.gcd_rec n x, Nat.gcd_comm]⟩
  · rename_i h
    have hx := hx0 (by lia)
    have hg' : Nat.gcd x n = x := by rw [hg, hx]
    rw [hx]
    generalize Nat.gcd t b = g at *
    rw [← Int.natCast_ediv]
    refine Z_useK (SLimbs.mk w _ hw hw1 (hsmall _ (by lia))) ?_
    repeat' first | (first | ((with_reducible refine' E_val ?h ?_); (case h => exact rfl)) | with_reducible refine' E_bin ?_ | ((with_reducible refine' Z_user ?h ?g ?_); (case h => exact rfl); (case g => exact fun q => by cases q)) | with_reducible refine' Es_nil ?_ | with_reducible refine' Es_cons ?_ | ((with_reducible refine' X_dats ?h ?g ?_); (case h => exact rfl); (case g => exact Nat.le_of_ble_eq_true rfl)) | with_reducible refine' B_div ?_ ?_ ?_) | lia
    rw [← Int.natCast_ediv]
    refine Z_useK (SLimbs.mk w _ hw hw1 (hsmall _ (by lia))) ?_
    repeat' first | (first | with_reducible refine' R_seq ?_ | with_reducible refine' R_is ?_ | with_reducible refine' Es_nil ?_ | ((with_reducible refine' X_dats ?h ?g ?_); (case h => exact rfl); (case g => exact Nat.le_of_ble_eq_true rfl))) | lia
    show _ = Vx.dat (.tuple [Sg w _, pN w _])
    rw [Sg_nat]
theorem canLay_IL : ∀ ns : List Int, PyData.canLayAll0 (IL ns) = true
  | [] => rfl
  | n :: r => by
    show (PyData.canLay0 (.int n) && PyData.canLayAll0 (IL r)) = true
    rw [canLay_IL r]; rfl
theorem depth_IL : ∀ ns : List Int, PyData.depthAll (IL ns) = 0
  | [] => rfl
  | n :: r => by
    show max (PyData.depth (.int n)) (PyData.depthAll (IL r)) = 0
    rw [depth_IL r]; rfl
theorem shaped_S (w : Nat) (z : Int) : SeqAt.shaped (Sg w z) = true := by
  simp only [SeqAt.shaped, PyData.canLay0, PyData.canLayAll0, canLay_IL, PyData.depth, PyData.depthAll, depth_IL]
  decide
theorem shaped_F (w : Nat) (z : Int) (d : Nat) : SeqAt.shaped (Fr w z d) = true := by
  simp only [SeqAt.shaped, PyData.canLay0, PyData.canLayAll0, canLay_IL, PyData.depth, PyData.depthAll, depth_IL]
  decide
theorem limbs_inj {w : Nat} (hw : 0 < w) {a b : Nat} : limbs w a = limbs w b ↔ a = b := by
  constructor
  · intro h
    have h1 := limbs_val hw a
    rw [h, limbs_val hw] at h1
    lia
  · intro h; rw [h]
theorem eqv_S {w : Nat} (hw : 0 < w) (z y : Int) : PyData.eqv (Sg w z) (Sg w y) = decide (z = y) := by
  simp only [PyData.eqv, PyData.eqvAll, ked_eqvAll, Bool.and_true]
  rw [Bool.eq_iff_iff, Bool.and_eq_true, decide_eq_true_iff, decide_eq_true_iff, limbs_inj hw, beq_iff_eq, decide_eq_decide]
  lia
theorem eqv_F {w : Nat} (hw : 0 < w) (z y : Int) (d e : Nat) : PyData.eqv (Fr w z d) (Fr w y e) = decide (z = y ∧ d = e) := by
  have h := eqv_S hw z y
  unfold Sg at h
  show PyData.eqvAll [Sg w z, pN w d] [Sg w y, pN w e] = _
  simp only [PyData.eqvAll]
  rw [eqv_S hw]
  simp only [PyData.eqv, ked_eqvAll, Bool.and_true]
  rw [Bool.eq_iff_iff, Bool.and_eq_true, decide_eq_true_iff, decide_eq_true_iff, decide_eq_true_iff, limbs_inj hw]
theorem C_eqF {w : Nat} {z y : Int} {d e : Nat} {a b : PyData} {KB : Bool → Prop} (hw : 0 < w) (e1 : a = Fr w z d) (e2 : b = Fr w y e) (h : KB (decide (z = y ∧ d = e))) : cmpV .Eq (.dat a) (.dat b) KB := by
  subst e1 e2
  refine ⟨shaped_F w z d, shaped_F w y e, ?_⟩
  simp only [eqv_F hw]; exact h
theorem C_neF {w : Nat} {z y : Int} {d e : Nat} {a b : PyData} {KB : Bool → Prop} (hw : 0 < w) (e1 : a = Fr w z d) (e2 : b = Fr w y e) (h : KB (decide (¬ (z = y ∧ d = e)))) : cmpV .NotEq (.dat a) (.dat b) KB := by
  subst e1 e2
  refine ⟨shaped_F w z d, shaped_F w y e, ?_⟩
  simp only [eqv_F hw, ← decide_not]; exact h
theorem C_neS {w : Nat} {z y : Int} {a b : PyData} {KB : Bool → Prop} (hw : 0 < w) (e1 : a = Sg w z) (e2 : b = Sg w y) (h : KB (decide (¬ (z = y)))) : cmpV .NotEq (.dat a) (.dat b) KB := by
  subst e1 e2
  refine ⟨shaped_S w z, shaped_S w y, ?_⟩
  simp only [eqv_S hw, ← decide_not]; exact h
theorem one_p {w : Nat} (hw : 0 < w) : PyData.list [.int 1] = pN w 1 := by rw [pN, limbs_one hw (by decide) (Nat.one_lt_two_pow (by lia))]; rfl
theorem nil_p (w : Nat) : PyData.list [] = pN w 0 := by rw [pN, limbs_zero]; rfl
theorem one_S {w : Nat} (hw : 0 < w) : PyData.tuple [.bool false, .list [.int 1]] = Sg w 1 := by rw [one_p hw]; exact (Sg_nat w 1).symm
theorem nil_S (w : Nat) : PyData.tuple [.bool false, .list []] = Sg w 0 := by rw [nil_p w]; exact (Sg_nat w 0).symm
theorem zero_F {w : Nat} (hw : 0 < w) : PyData.tuple [.tuple [.bool false, .list []], .list [.int 1]] = Fr w 0 1 := by rw [nil_S w, one_p hw]
/-! ## the plain law -/
noncomputable def hOf (n d : Nat) : Nat := if 0 < d % n then d / n + 1 else d / n
noncomputable abbrev St := Nat × Nat × Nat × List Nat
noncomputable def nx (s : St) : St := if s.1 = 0 then s else
  ((s.1 * hOf s.1 s.2.1 - s.2.1) / Nat.gcd (s.1 * hOf s.1 s.2.1 - s.2.1) (s.2.1 * hOf s.1 s.2.1), s.2.1 * hOf s.1 s.2.1 / Nat.gcd (s.1 * hOf s.1 s.2.1 - s.2.1) (s.2.1 * hOf s.1 s.2.1), hOf s.1 s.2.1, s.2.2.2 ++ [hOf s.1 s.2.1])
noncomputable def it : Nat → St → St
  | 0, s => s
  | k + 1, s => nx (it k s)
noncomputable def ok1 (s : St) : Bool := decide (s.1 < 2 ^ 30) && decide (s.2.1 < 2 ^ 30) && decide (s.2.2.1 < 2 ^ 30) && decide (0 < s.2.1) && decide (0 < s.2.2.1) && decide (s.2.2.2.length ≤ 13) &&
  (if s.1 = 0 then decide (s.2.1 = 1) else
    decide (hOf s.1 s.2.1 < 2 ^ 30) && decide (0 < hOf s.1 s.2.1) && decide (s.2.1 ≤ s.1 * hOf s.1 s.2.1) &&
    decide (radd1 s.1 s.2.1 (-1) (hOf s.1 s.2.1) = ((nx s).1 : Int)) && decide (radd2 s.1 s.2.1 (-1) (hOf s.1 s.2.1) = (nx s).2.1) && decide ((nx s).1 < s.1) && decide (s.2.2.1 * (s.2.2.1 - 1) < hOf s.1 s.2.1))
noncomputable def acc (hs : List Nat) : Int × Nat := hs.foldl (fun p h => (radd1 p.1 p.2 1 h, radd2 p.1 p.2 1 h)) (0, 1)
noncomputable def ok2 (p : Int × Nat) (h : Nat) : Bool := decide (p.1.natAbs < 2 ^ 60) && decide (p.2 < 2 ^ 60) && decide (0 < p.2) && decide (h < 2 ^ 60) && decide (0 < h)
noncomputable def fin (s : St) (n d : Nat) : Bool := decide (s.1 = 0) && decide (s.2.1 = 1) && (List.range s.2.2.2.length).all (fun i => ok2 (acc (s.2.2.2.take i)) (s.2.2.2.getD i 0)) && decide (acc s.2.2.2 = ((n : Int), d))
noncomputable def chk (t b : Nat) : Bool := (List.range 13).all (fun i => ok1 (it i (t / Nat.gcd t b, b / Nat.gcd t b, 1, []))) && fin (it 13 (t / Nat.gcd t b, b / Nat.gcd t b, 1, [])) (t / Nat.gcd t b) (b / Nat.gcd t b)
theorem all_ok : ((List.range 14).all fun b => (List.range b).all fun t => decide (b < 2) || decide (t = 0) || chk t b) = true := by decide +kernel
theorem chk_ok {t b : Nat} (h1 : 0 < t) (h2 : t < b) (h3 : b < 14) : chk t b = true := by
  have h := List.all_eq_true.mp all_ok b (List.mem_range.mpr h3)
  have h' := List.all_eq_true.mp h t (List.mem_range.mpr h2)
  rw [Bool.or_eq_true, Bool.or_eq_true, decide_eq_true_iff, decide_eq_true_iff] at h'
  rcases h' with (h' | h') | h'
  · lia
  · lia
  · exact h'
noncomputable def md : Nat → Nat
  | 0 => 1
  | i + 1 => md i * (md i + 1)
theorem md_ok : ((List.range 3).all fun i => decide (radd1 1 (md i) (-1) (md i + 1) = 1) && decide (radd2 1 (md i) (-1) (md i + 1) = md (i + 1)) && decide (md i < 2 ^ 20) && decide (0 < md i) && decide (md (i + 1) < 2 ^ 20)) = true := by decide +kernel
noncomputable abbrev CLaw : Ctx := ⟨Str.ofString "loaf", [(Str.ofString "_law_least", SLeast), (Str.ofString "cdiv", SCdiv), (Str.ofString "divrem_school", SDiv), (Str.ofString "_law_worth", SWorth), (Str.ofString "r_sub", SRSub), (Str.ofString "mul_school", SMul), (Str.ofString "compare", SCompare), (Str.ofString "r_add", SRAdd), (Str.ofString "s_add", SSAdd), (Str.ofString "s_mul", SSMul), (Str.ofString "_law_limbs", SLimbs)], [(Str.ofString "_law_shared", SShared)]⟩
theorem draw_bounds (k : Nat) (xs : List Int) {m : Int} (hm : 0 < m) : 0 ≤ draw k xs m ∧ draw k xs m < m := by
  unfold draw
  split <;> exact mod_bounds _ hm
theorem Bd_of {n k : Nat} (h : n < 2 ^ 60) (hk : 60 ≤ k) : Bd k n := Bd.mono (a := 60) h hk
noncomputable abbrev lf (k : Nat) (xs : List Int) : Slot := .own [.int ((k : Nat) : Int), .list (IL xs)]
noncomputable abbrev LF (w n d : Nat) : PyData := .tuple [.tuple [.bool false, pN w n], pN w d]
theorem LF_eq (w n d : Nat) : LF w n d = Fr w (n : Int) d := by rw [LF, Fr, Sg_nat]
noncomputable abbrev PT (w h : Nat) : PyData := .tuple [.tuple [.bool false, .list [.int 1]], pN w h]
theorem PT_eq {w : Nat} (hw : 0 < w) (h : Nat) : PT w h = Fr w 1 h := by rw [PT, one_S hw]
theorem it_fix {s : St} {i : Nat} (h : (it i s).1 = 0) : ∀ k, it (i + k) s = it i s
  | 0 => rfl
  | k + 1 => by
    show nx (it (i + k) s) = _
    rw [it_fix h k, nx, if_pos h]
theorem w_law (ns xs : List Int) (hl : xs.length ≤ 1000) : wpSs CLaw (wpR CLaw 3) ((recI 41).body.drop 1) ((Str.ofString "script", vL ns) :: (Str.ofString "loaf", lf 0 xs) :: (Str.ofString "w", Slot.unset) :: (Str.ofString "bottom", Slot.unset) :: (Str.ofString "begun", Slot.unset) :: (Str.ofString "left", Slot.unset) :: (Str.ofString "some", Slot.unset) :: (Str.ofString "before", Slot.unset) :: (Str.ofString "turn", Slot.unset) :: (Str.ofString "whole", Slot.unset) :: (Str.ofString "part", Slot.unset) :: (Str.ofString "here", Slot.unset) :: (Str.ofString "top", Slot.unset) :: (Str.ofString "below", Slot.unset) :: (Str.ofString "later", Slot.unset) :: (Str.ofString "whole_again", Slot.unset) :: (Str.ofString "rest", Slot.unset) :: (Str.ofString "many", Slot.unset) :: (Str.ofString "made", Slot.unset) :: (Str.ofString "above", Slot.unset) :: (Str.ofString "_law_shared", Slot.glob) :: (Str.ofString "_law_least", Slot.glob) :: (Str.ofString "range", Slot.glob) :: (Str.ofString "cdiv", Slot.glob) :: (Str.ofString "divrem_school", Slot.glob) :: (Str.ofString "_law_worth", Slot.glob) :: (Str.ofString "r_sub", Slot.glob) :: (Str.ofString "mul_school", Slot.glob) :: (Str.ofString "compare", Slot.glob) :: (Str.ofString "r_add", Slot.glob) :: (Str.ofString "s_add", Slot.glob) :: (Str.ofString "s_mul", Slot.glob) :: (Str.ofString "_law_limbs", Slot.glob) :: []) fun fl _ => retIs (.dat (.bool true)) fl := by
  have d0 := draw_bounds 0 xs (m := 6) (by decide)
  have d1 := draw_bounds (0 + 1) xs (m := 12) (by decide)
  obtain ⟨w, hw⟩ : ∃ w : Nat, 3 + draw 0 xs 6 = (w : Int) := ⟨(3 + draw 0 xs 6).toNat, by lia⟩
  obtain ⟨b, hb⟩ : ∃ b : Nat, 2 + draw (0 + 1) xs 12 = (b : Int) := ⟨(2 + draw (0 + 1) xs 12).toNat, by lia⟩
  have d2 := draw_bounds (0 + 1 + 1) xs (m := (b : Int) - 1) (by lia)
  obtain ⟨t, ht⟩ : ∃ t : Nat, 1 + draw (0 + 1 + 1) xs ((b : Int) - 1) = (t : Int) := ⟨(1 + draw (0 + 1 + 1) xs ((b : Int) - 1)).toNat, by lia⟩
  have hw0 : 0 < w := by lia
  have hw8 : w ≤ 60 := by lia
  have hck := chk_ok (t := t) (b := b) (by lia) (by lia) (by lia)
  conv => arg 3; whnf
  repeat' first | (first | with_reducible refine' Z_cons ?_ | with_reducible refine' N_seq ?_ | ((with_reducible refine' E_val ?h ?_); (case h => exact rfl)) | with_reducible refine' E_int ?_ | with_reducible refine' E_bin ?_ | ((with_reducible refine' Z_user ?h ?g ?_); (case h => exact rfl); (case g => exact fun q => by cases q)) | ((with_reducible refine' Z_mut ?h ?g ?_); (case h => exact rfl); (case g => exact rfl)) | with_reducible refine' Es_nil ?_ | with_reducible refine' Es_cons ?_ | with_reducible refine' B_add ?_ | with_reducible refine' B_sub ?_ | with_reducible refine' Z_asg ?_ | with_reducible refine' F_bin ?_ | ((with_reducible refine' F_val ?r1 ?_); (case r1 => rfl)) | ((with_reducible refine' Z_tup ?r1 ?r2 ?_); (case r1 => rfl); (case r2 => rfl)) | ((with_reducible refine' Z_tupK ?h1 ?h2 ?h3 ?h4 ?h5 ?h6 ?h7 ?h8 ?_); (case h1 => exact rfl); (case h2 => rfl); (case h3 => exact Nat.le_of_ble_eq_true rfl); (case h4 => decide); (case h5 => (first | exact ofString_ne (by decide) | (refine' canPut_of (s := _) ?h (fun q => ?g); (case h => exact rfl); (case g => first | (cases q; done) | exact absurd q (by assumption))) | assumption)); (case h6 => simp only [List.forall_mem_cons]; (repeat' apply And.intro) <;> first | (first | exact ofString_ne (by decide) | (refine' canPut_of (s := _) ?h (fun q => ?g); (case h => exact rfl); (case g => first | (cases q; done) | exact absurd q (by assumption))) | assumption) | (intro x hx; cases hx)); (case h7 => rfl); (case h8 => exact rfl))) | (refine Z_mutK (by exact rfl) (SShared.mk 0 xs 6 (by decide) (by decide) hl) (by exact rfl) ?_) | (refine Z_mutK (by exact rfl) (SShared.mk (0 + 1) xs 12 (by decide) (by decide) hl) (by exact rfl) ?_) | lia
  rw [hw, hb]
  repeat' first | fail | lia
  refine Z_mutK (by exact rfl) (SShared.mk (0 + 1 + 1) xs ((b : Int) - 1) (by lia) (by decide) hl) (by exact rfl) ?_
  repeat' first | (first | ((with_reducible refine' E_val ?h ?_); (case h => exact rfl)) | with_reducible refine' Es_nil ?_ | with_reducible refine' Es_cons ?_ | with_reducible refine' B_add ?_) | lia
  rw [ht]
  refine Z_useK (SLeast.mk w t b hw0 hw8 (by lia) (by lia) (by lia)) ?_
  unfold chk at hck
  have hg0 : 0 < Nat.gcd t b := Nat.gcd_pos_of_pos_left _ (by lia)
  generalize t / Nat.gcd t b = n0 at *
  generalize b / Nat.gcd t b = e0 at *
  rw [Bool.and_eq_true] at hck
  obtain ⟨hok, hfin⟩ := hck
  repeat' first | (first | with_reducible refine' Z_cons ?_ | with_reducible refine' N_seq ?_ | ((with_reducible refine' E_val ?h ?_); (case h => exact rfl)) | with_reducible refine' E_int ?_ | with_reducible refine' Es_nil ?_ | with_reducible refine' Es_cons ?_ | with_reducible refine' E_list ?_ | ((with_reducible refine' X_dats ?h ?g ?_); (case h => exact rfl); (case g => exact Nat.le_of_ble_eq_true rfl)) | ((with_reducible refine' Z_put ?h1 ?h2 ?h3 ?_); (case h1 => (first | exact ofString_ne (by decide) | (refine' canPut_of (s := _) ?h (fun q => ?g); (case h => exact rfl); (case g => first | (cases q; done) | exact absurd q (by assumption))) | assumption)); (case h2 => (first | exact ofString_ne (by decide) | (refine' canPut_of (s := _) ?h (fun q => ?g); (case h => exact rfl); (case g => first | (cases q; done) | exact absurd q (by assumption))) | assumption)); (case h3 => exact rfl)) | ((with_reducible refine' okI_of ?_ ?_) <;> lia) | ((with_reducible refine' F_val ?r1 ?_); (case r1 => rfl)) | ((with_reducible refine' Z_tup ?r1 ?r2 ?_); (case r1 => rfl); (case r2 => rfl)) | ((with_reducible refine' Z_tupK ?h1 ?h2 ?h3 ?h4 ?h5 ?h6 ?h7 ?h8 ?_); (case h1 => exact rfl); (case h2 => rfl); (case h3 => exact Nat.le_of_ble_eq_true rfl); (case h4 => decide); (case h5 => (first | exact ofString_ne (by decide) | (refine' canPut_of (s := _) ?h (fun q => ?g); (case h => exact rfl); (case g => first | (cases q; done) | exact absurd q (by assumption))) | assumption)); (case h6 => simp only [List.forall_mem_cons]; (repeat' apply And.intro) <;> first | (first | exact ofString_ne (by decide) | (refine' canPut_of (s := _) ?h (fun q => ?g); (case h => exact rfl); (case g => first | (cases q; done) | exact absurd q (by assumption))) | assumption) | (intro x hx; cases hx)); (case h7 => rfl); (case h8 => exact rfl)) | ((with_reducible refine' S_range ?h ?r1 ?g ?r2 ?_); (case h => exact rfl); (case g => exact fun q => by cases q); (case r1 => rfl); (case r2 => rfl)) | with_reducible refine' X_r1 ?_ ?_) | lia
  generalize hKS : seqK CLaw (wpR CLaw 3) _ _ = KS
  have fin' : ∀ ρ, (∃ bf hs t1 t2 t3 t4 t5 t6 t7, it 13 (n0, e0, 1, []) = (0, 1, bf, hs) ∧ ρ = ((Str.ofString "script", vL ns) :: (Str.ofString "loaf", lf 3 xs) :: (Str.ofString "w", vI w) :: (Str.ofString "bottom", vI b) :: (Str.ofString "begun", .val (dF w n0 e0)) :: (Str.ofString "left", .val (.dat (LF w 0 1))) :: (Str.ofString "some", .val (.dat (.list (hs.map (PT w))))) :: (Str.ofString "before", vI bf) :: (Str.ofString "turn", t1) :: (Str.ofString "whole", t2) :: (Str.ofString "part", t3) :: (Str.ofString "here", t4) :: (Str.ofString "top", t5) :: (Str.ofString "below", t6) :: (Str.ofString "later", t7) :: (Str.ofString "whole_again", Slot.unset) :: (Str.ofString "rest", Slot.unset) :: (Str.ofString "many", Slot.unset) :: (Str.ofString "made", Slot.unset) :: (Str.ofString "above", Slot.unset) :: (Str.ofString "_law_shared", Slot.glob) :: (Str.ofString "_law_least", Slot.glob) :: (Str.ofString "range", Slot.glob) :: (Str.ofString "cdiv", Slot.glob) :: (Str.ofString "divrem_school", Slot.glob) :: (Str.ofString "_law_worth", Slot.glob) :: (Str.ofString "r_sub", Slot.glob) :: (Str.ofString "mul_school", Slot.glob) :: (Str.ofString "compare", Slot.glob) :: (Str.ofString "r_add", Slot.glob) :: (Str.ofString "s_add", Slot.glob) :: (Str.ofString "s_mul", Slot.glob) :: (Str.ofString "_law_limbs", Slot.glob) :: []) ∧ t1 ≠ .glob ∧ t2 ≠ .glob ∧ t3 ≠ .glob ∧ t4 ≠ .glob ∧ t5 ≠ .glob ∧ t6 ≠ .glob ∧ t7 ≠ .glob) → Nx KS ρ := by
    rintro _ ⟨bf, hs, t1, t2, t3, t4, t5, t6, t7, hit, rfl, h1, h2, h3, h4, h5, h6, h7⟩
    subst hKS
    have hf := hfin
    rw [hit] at hf
    unfold fin at hf
    simp only [Bool.and_eq_true, decide_eq_true_iff] at hf
    obtain ⟨⟨⟨-, -⟩, f3⟩, f4⟩ := hf
    repeat' first | (first | with_reducible refine' Z_cons ?_ | with_reducible refine' N_seq ?_ | ((with_reducible refine' E_val ?h ?_); (case h => exact rfl)) | with_reducible refine' E_int ?_ | with_reducible refine' E_bool ?_ | with_reducible refine' Es_nil ?_ | with_reducible refine' Es_cons ?_ | with_reducible refine' E_tup ?_ | with_reducible refine' E_list ?_ | ((with_reducible refine' X_dats ?h ?g ?_); (case h => exact rfl); (case g => exact Nat.le_of_ble_eq_true rfl)) | ((with_reducible refine' Z_put ?h1 ?h2 ?h3 ?_); (case h1 => (first | exact ofString_ne (by decide) | (refine' canPut_of (s := _) ?h (fun q => ?g); (case h => exact rfl); (case g => first | (cases q; done) | exact absurd q (by assumption))) | assumption)); (case h2 => (first | exact ofString_ne (by decide) | (refine' canPut_of (s := _) ?h (fun q => ?g); (case h => exact rfl); (case g => first | (cases q; done) | exact absurd q (by assumption))) | assumption)); (case h3 => exact rfl)) | with_reducible refine' X_list ?_ | with_reducible refine' Z_asg ?_ | ((with_reducible refine' F_val ?r1 ?_); (case r1 => rfl)) | ((with_reducible refine' S_for ?h ?r1 ?_); (case h => exact rfl); (case r1 => rfl))) | lia
    refine for_dat (fun j ρ => ∃ t3, ρ = ((Str.ofString "script", vL ns) :: (Str.ofString "loaf", lf 3 xs) :: (Str.ofString "w", vI w) :: (Str.ofString "bottom", vI b) :: (Str.ofString "begun", .val (dF w n0 e0)) :: (Str.ofString "left", .val (.dat (LF w 0 1))) :: (Str.ofString "some", .val (.dat (.list (hs.map (PT w))))) :: (Str.ofString "before", vI bf) :: (Str.ofString "turn", t1) :: (Str.ofString "whole", t2) :: (Str.ofString "part", t3) :: (Str.ofString "here", t4) :: (Str.ofString "top", t5) :: (Str.ofString "below", t6) :: (Str.ofString "later", t7) :: (Str.ofString "whole_again", .val (dF w (acc (hs.take j)).1 (acc (hs.take j)).2)) :: (Str.ofString "rest", Slot.unset) :: (Str.ofString "many", Slot.unset) :: (Str.ofString "made", Slot.unset) :: (Str.ofString "above", Slot.unset) :: (Str.ofString "_law_shared", Slot.glob) :: (Str.ofString "_law_least", Slot.glob) :: (Str.ofString "range", Slot.glob) :: (Str.ofString "cdiv", Slot.glob) :: (Str.ofString "divrem_school", Slot.glob) :: (Str.ofString "_law_worth", Slot.glob) :: (Str.ofString "r_sub", Slot.glob) :: (Str.ofString "mul_school", Slot.glob) :: (Str.ofString "compare", Slot.glob) :: (Str.ofString "r_add", Slot.glob) :: (Str.ofString "s_add", Slot.glob) :: (Str.ofString "s_mul", Slot.glob) :: (Str.ofString "_law_limbs", Slot.glob) :: []) ∧ t3 ≠ .glob) ⟨t3, by rw [zero_F hw0]; rfl, h3⟩ ?_ ?_
    · rintro j dd _ hj ⟨t3, rfl, h3⟩ K hK hR hBk
      have hjl : j < hs.length := by
        have := (List.getElem?_eq_some_iff.mp hj).1; simpa using this
      have hdd : dd = PT w (hs.getD j 0) := by
        rw [List.getElem?_map, List.getElem?_eq_getElem hjl] at hj
        rw [List.getD_eq_getElem?_getD, List.getElem?_eq_getElem hjl]
        exact (Option.some.inj hj).symm
      subst hdd
      have hacc : acc (hs.take (j + 1)) = (radd1 (acc (hs.take j)).1 (acc (hs.take j)).2 1 (hs.getD j 0), radd2 (acc (hs.take j)).1 (acc (hs.take j)).2 1 (hs.getD j 0)) := by
        rw [List.take_add_one, List.getElem?_eq_getElem hjl, List.getD_eq_getElem?_getD, List.getElem?_eq_getElem hjl]
        unfold acc
        rw [List.foldl_append]; rfl
      have hk := List.all_eq_true.mp f3 j (List.mem_range.mpr hjl)
      unfold ok2 at hk
      simp only [Bool.and_eq_true, decide_eq_true_iff] at hk
      obtain ⟨⟨⟨⟨k1, k2⟩, k3⟩, k4⟩, k5⟩ := hk
      have hb1 : Bd 4000 (1 : Int).natAbs := Bd_of (by decide) (by decide)
      repeat' first | (first | with_reducible refine' Z_cons ?_ | ((with_reducible refine' E_val ?h ?_); (case h => exact rfl)) | ((with_reducible refine' E_glob ?h ?g ?_); (case h => exact rfl); (case g => exact rfl)) | ((with_reducible refine' Z_user ?h ?g ?_); (case h => exact rfl); (case g => exact fun q => by cases q)) | with_reducible refine' Es_nil ?_ | with_reducible refine' Es_cons ?_ | ((with_reducible refine' Z_turn ?h1 ?h3 ?_); (case h1 => (first | exact ofString_ne (by decide) | (refine' canPut_of (s := _) ?h (fun q => ?g); (case h => exact rfl); (case g => first | (cases q; done) | exact absurd q (by assumption))) | assumption)); (case h3 => exact rfl)) | with_reducible refine' Z_asg ?_ | ((with_reducible refine' F_val ?r1 ?_); (case r1 => rfl))) | lia
      refine Z_useK (r := dF w (acc (hs.take (j + 1))).1 (acc (hs.take (j + 1))).2) (by
        rw [hacc, PT_eq hw0]
        exact SRAdd.mk w _ _ 1 _ hw0 hw8 (Bd_of k1 (by decide)) (Bd_of k2 (by decide)) hb1 (Bd_of k4 (by decide)) k3 k5) ?_
      repeat' first | (first | with_reducible refine' N_seq ?_ | with_reducible refine' Z_nil ?_ | ((with_reducible refine' Z_put ?h1 ?h2 ?h3 ?_); (case h1 => (first | exact ofString_ne (by decide) | (refine' canPut_of (s := _) ?h (fun q => ?g); (case h => exact rfl); (case g => first | (cases q; done) | exact absurd q (by assumption))) | assumption)); (case h2 => (first | exact ofString_ne (by decide) | (refine' canPut_of (s := _) ?h (fun q => ?g); (case h => exact rfl); (case g => first | (cases q; done) | exact absurd q (by assumption))) | assumption)); (case h3 => exact rfl))) | lia
      exact hK _ ⟨_, rfl, vne⟩
    · rintro _ ⟨t3, rfl, h3⟩
      rw [List.length_map, List.take_length, f4]
      repeat' first | (refine C_neF (z := 0) (y := 0) (d := 1) (e := 1) hw0 (LF_eq w 0 1) (zero_F hw0) ?_) | (refine C_neF (z := (n0 : Int)) (y := n0) (d := e0) (e := e0) hw0 rfl rfl ?_) | (first | with_reducible refine' Z_cons ?_ | with_reducible refine' N_seq ?_ | with_reducible refine' R_seq ?_ | with_reducible refine' R_is ?_ | with_reducible refine' Z_nil ?_ | ((with_reducible refine' E_val ?h ?_); (case h => exact rfl)) | with_reducible refine' E_int ?_ | with_reducible refine' E_bool ?_ | with_reducible refine' Es_nil ?_ | with_reducible refine' Es_cons ?_ | with_reducible refine' E_tup ?_ | with_reducible refine' E_list ?_ | ((with_reducible refine' X_dats ?h ?g ?_); (case h => exact rfl); (case g => exact Nat.le_of_ble_eq_true rfl)) | ((with_reducible refine' br ?_ ?_) <;> intro _) | with_reducible refine' brF' ?_ | with_reducible refine' brT' ?_ | ((with_reducible refine' okI_of ?_ ?_) <;> lia) | with_reducible refine' T_bool ?_ | ((with_reducible refine' T_cmp ?r1 ?_); (case r1 => rfl)) | with_reducible refine' Ts_nilO ?_ | with_reducible refine' Ts_or ?_ | with_reducible refine' Z_ret ?_ | with_reducible refine' S_if ?_ | ((with_reducible refine' F_val ?r1 ?_); (case r1 => rfl)) | ((with_reducible refine' Z_tup ?r1 ?r2 ?_); (case r1 => rfl); (case r2 => rfl)) | ((with_reducible refine' Z_tupK ?h1 ?h2 ?h3 ?h4 ?h5 ?h6 ?h7 ?h8 ?_); (case h1 => exact rfl); (case h2 => rfl); (case h3 => exact Nat.le_of_ble_eq_true rfl); (case h4 => decide); (case h5 => (first | exact ofString_ne (by decide) | (refine' canPut_of (s := _) ?h (fun q => ?g); (case h => exact rfl); (case g => first | (cases q; done) | exact absurd q (by assumption))) | assumption)); (case h6 => simp only [List.forall_mem_cons]; (repeat' apply And.intro) <;> first | (first | exact ofString_ne (by decide) | (refine' canPut_of (s := _) ?h (fun q => ?g); (case h => exact rfl); (case g => first | (cases q; done) | exact absurd q (by assumption))) | assumption) | (intro x hx; cases hx)); (case h7 => rfl); (case h8 => exact rfl)) | ((with_reducible refine' S_range ?h ?r1 ?g ?r2 ?_); (case h => exact rfl); (case g => exact fun q => by cases q); (case r1 => rfl); (case r2 => rfl)) | with_reducible refine' X_r1 ?_ ?_) | lia
      refine for_up (fun i ρ => ∃ t1 t8, ρ = ((Str.ofString "script", vL ns) :: (Str.ofString "loaf", lf 3 xs) :: (Str.ofString "w", vI w) :: (Str.ofString "bottom", vI b) :: (Str.ofString "begun", .val (dF w n0 e0)) :: (Str.ofString "left", .val (.dat (LF w 0 1))) :: (Str.ofString "some", .val (.dat (.list (hs.map (PT w))))) :: (Str.ofString "before", vI bf) :: (Str.ofString "turn", t1) :: (Str.ofString "whole", t2) :: (Str.ofString "part", t3) :: (Str.ofString "here", t4) :: (Str.ofString "top", t5) :: (Str.ofString "below", t6) :: (Str.ofString "later", t7) :: (Str.ofString "whole_again", .val (dF w n0 e0)) :: (Str.ofString "rest", .val (dF w 1 (md i))) :: (Str.ofString "many", .val (dS w (md i))) :: (Str.ofString "made", vI (md i)) :: (Str.ofString "above", t8) :: (Str.ofString "_law_shared", Slot.glob) :: (Str.ofString "_law_least", Slot.glob) :: (Str.ofString "range", Slot.glob) :: (Str.ofString "cdiv", Slot.glob) :: (Str.ofString "divrem_school", Slot.glob) :: (Str.ofString "_law_worth", Slot.glob) :: (Str.ofString "r_sub", Slot.glob) :: (Str.ofString "mul_school", Slot.glob) :: (Str.ofString "compare", Slot.glob) :: (Str.ofString "r_add", Slot.glob) :: (Str.ofString "s_add", Slot.glob) :: (Str.ofString "s_mul", Slot.glob) :: (Str.ofString "_law_limbs", Slot.glob) :: []) ∧ t1 ≠ .glob ∧ t8 ≠ .glob) ⟨t1, .unset, by rw [one_S hw0, one_p hw0]; rfl, h1, une⟩ ?_ ?_
      · rintro i _ hi ⟨t1, t8, rfl, h1, h8⟩ K hK hR hBk
        have hm := List.all_eq_true.mp md_ok i (List.mem_range.mpr hi)
        simp only [Bool.and_eq_true, decide_eq_true_iff] at hm
        obtain ⟨⟨⟨⟨r1, r2⟩, r3⟩, r4⟩, r5⟩ := hm
        have hb1 : Bd 4000 (1 : Int).natAbs := Bd_of (by decide) (by decide)
        have e1 : ((md i + 1 : Nat) : Int) = (md i : Int) + 1 := by lia
        have e2 : (md i : Int) * ((md i : Int) + 1) = ((md (i + 1) : Nat) : Int) := by
          rw [← e1, ← Int.natCast_mul]; rfl
        have hma : Bd 60 ((md i : Nat) : Int).natAbs := by rw [Int.natAbs_natCast]; exact Nat.lt_of_lt_of_le r3 (by decide)
        have hmb : Bd 60 (md i + 1) := Nat.lt_of_lt_of_le (show md i + 1 < 2 ^ 21 by lia) (by decide)
        repeat' first | (first | with_reducible refine' Z_cons ?_ | ((with_reducible refine' E_val ?h ?_); (case h => exact rfl)) | with_reducible refine' E_int ?_ | with_reducible refine' E_bool ?_ | ((with_reducible refine' Z_user ?h ?g ?_); (case h => exact rfl); (case g => exact fun q => by cases q)) | with_reducible refine' Es_nil ?_ | with_reducible refine' Es_cons ?_ | with_reducible refine' E_tup ?_ | with_reducible refine' E_list ?_ | ((with_reducible refine' X_dats ?h ?g ?_); (case h => exact rfl); (case g => exact Nat.le_of_ble_eq_true rfl)) | ((with_reducible refine' Z_turn ?h1 ?h3 ?_); (case h1 => (first | exact ofString_ne (by decide) | (refine' canPut_of (s := _) ?h (fun q => ?g); (case h => exact rfl); (case g => first | (cases q; done) | exact absurd q (by assumption))) | assumption)); (case h3 => exact rfl)) | with_reducible refine' Z_asg ?_ | ((with_reducible refine' F_val ?r1 ?_); (case r1 => rfl))) | lia
        refine Z_useK (r := .dat (.tuple [.bool false, pN w (md i + 1)])) (by
          rw [one_S hw0, ← Sg_nat, e1]
          exact SSAdd.mk w _ 1 hw0 hw8 (hma.mono (by decide)) (hb1.mono (by decide))) ?_
        repeat' first | (first | with_reducible refine' Z_cons ?_ | with_reducible refine' N_seq ?_ | ((with_reducible refine' E_val ?h ?_); (case h => exact rfl)) | ((with_reducible refine' E_glob ?h ?g ?_); (case h => exact rfl); (case g => exact rfl)) | with_reducible refine' E_int ?_ | with_reducible refine' E_bool ?_ | with_reducible refine' X_dat ?_ | ((with_reducible refine' E_subVal ?h ?_); (case h => exact rfl)) | ((with_reducible refine' Z_user ?h ?g ?_); (case h => exact rfl); (case g => exact fun q => by cases q)) | with_reducible refine' Es_nil ?_ | with_reducible refine' Es_cons ?_ | with_reducible refine' E_tup ?_ | with_reducible refine' E_list ?_ | ((with_reducible refine' X_dats ?h ?g ?_); (case h => exact rfl); (case g => exact Nat.le_of_ble_eq_true rfl)) | ((with_reducible refine' Z_put ?h1 ?h2 ?h3 ?_); (case h1 => (first | exact ofString_ne (by decide) | (refine' canPut_of (s := _) ?h (fun q => ?g); (case h => exact rfl); (case g => first | (cases q; done) | exact absurd q (by assumption))) | assumption)); (case h2 => (first | exact ofString_ne (by decide) | (refine' canPut_of (s := _) ?h (fun q => ?g); (case h => exact rfl); (case g => first | (cases q; done) | exact absurd q (by assumption))) | assumption)); (case h3 => exact rfl)) | with_reducible refine' I_t1 ?_ | with_reducible refine' Z_asg ?_ | ((with_reducible refine' F_val ?r1 ?_); (case r1 => rfl))) | lia
        refine Z_useK (r := dF w 1 (md (i + 1))) (by
          have h := SRSub.mk w 1 (md i) 1 (md i + 1) hw0 hw8 hb1 (hma.mono (by decide)) hb1 (hmb.mono (by decide)) r4 (by lia)
          rw [r1, r2] at h
          rw [one_S hw0]
          exact h) ?_
        repeat' first | (first | with_reducible refine' Z_cons ?_ | with_reducible refine' N_seq ?_ | ((with_reducible refine' E_val ?h ?_); (case h => exact rfl)) | ((with_reducible refine' E_glob ?h ?g ?_); (case h => exact rfl); (case g => exact rfl)) | ((with_reducible refine' Z_user ?h ?g ?_); (case h => exact rfl); (case g => exact fun q => by cases q)) | with_reducible refine' Es_nil ?_ | with_reducible refine' Es_cons ?_ | ((with_reducible refine' Z_put ?h1 ?h2 ?h3 ?_); (case h1 => (first | exact ofString_ne (by decide) | (refine' canPut_of (s := _) ?h (fun q => ?g); (case h => exact rfl); (case g => first | (cases q; done) | exact absurd q (by assumption))) | assumption)); (case h2 => (first | exact ofString_ne (by decide) | (refine' canPut_of (s := _) ?h (fun q => ?g); (case h => exact rfl); (case g => first | (cases q; done) | exact absurd q (by assumption))) | assumption)); (case h3 => exact rfl)) | ((with_reducible refine' F_val ?r1 ?_); (case r1 => rfl)) | ((with_reducible refine' Z_tup ?r1 ?r2 ?_); (case r1 => rfl); (case r2 => rfl))) | lia
        refine Z_useK (r := dS w (md (i + 1) : Nat)) (by
          rw [← Sg_nat, ← e2, ← e1]
          exact SSMul.mk w _ _ hw0 hw8 (hma.mono (by decide)) (by rw [Int.natAbs_natCast]; exact hmb.mono (by decide))) ?_
        repeat' first | (first | with_reducible refine' Z_cons ?_ | with_reducible refine' N_seq ?_ | ((with_reducible refine' E_val ?h ?_); (case h => exact rfl)) | with_reducible refine' E_int ?_ | with_reducible refine' E_bool ?_ | with_reducible refine' E_bin ?_ | ((with_reducible refine' Z_user ?h ?g ?_); (case h => exact rfl); (case g => exact fun q => by cases q)) | with_reducible refine' Es_nil ?_ | with_reducible refine' Es_cons ?_ | with_reducible refine' E_tup ?_ | with_reducible refine' E_list ?_ | ((with_reducible refine' X_dats ?h ?g ?_); (case h => exact rfl); (case g => exact Nat.le_of_ble_eq_true rfl)) | with_reducible refine' B_add ?_ | with_reducible refine' B_mul ?_ ?_ | with_reducible refine' T_bool ?_ | ((with_reducible refine' T_cmp ?r1 ?_); (case r1 => rfl)) | with_reducible refine' Ts_or ?_ | with_reducible refine' S_if ?_ | ((with_reducible refine' Z_tupK ?h1 ?h2 ?h3 ?h4 ?h5 ?h6 ?h7 ?h8 ?_); (case h1 => exact rfl); (case h2 => rfl); (case h3 => exact Nat.le_of_ble_eq_true rfl); (case h4 => decide); (case h5 => (first | exact ofString_ne (by decide) | (refine' canPut_of (s := _) ?h (fun q => ?g); (case h => exact rfl); (case g => first | (cases q; done) | exact absurd q (by assumption))) | assumption)); (case h6 => simp only [List.forall_mem_cons]; (repeat' apply And.intro) <;> first | (first | exact ofString_ne (by decide) | (refine' canPut_of (s := _) ?h (fun q => ?g); (case h => exact rfl); (case g => first | (cases q; done) | exact absurd q (by assumption))) | assumption) | (intro x hx; cases hx)); (case h7 => rfl); (case h8 => exact rfl))) | lia
        rw [e2]
        have hnm : Num (md (i + 1)) := Nat.lt_of_lt_of_le r5 (Nat.pow_le_pow_right (by decide) (by decide))
        repeat' first | (refine Z_useK (SLimbs.mk w (md (i + 1)) hw0 hw8 hnm) ?_) | (refine C_neF (z := 1) (y := 1) (d := md (i + 1)) (e := md (i + 1)) hw0 rfl (PT_eq hw0 _) ?_) | (refine C_neS (z := (md (i + 1) : Nat)) (y := (md (i + 1) : Nat)) hw0 rfl (Sg_nat w _).symm ?_) | (first | with_reducible refine' Z_cons ?_ | with_reducible refine' N_seq ?_ | with_reducible refine' R_seq ?_ | with_reducible refine' Z_nil ?_ | with_reducible refine' E_bool ?_ | with_reducible refine' Es_nil ?_ | ((with_reducible refine' X_dats ?h ?g ?_); (case h => exact rfl); (case g => exact Nat.le_of_ble_eq_true rfl)) | ((with_reducible refine' br ?_ ?_) <;> intro _) | with_reducible refine' brF' ?_ | with_reducible refine' brT' ?_ | ((with_reducible refine' T_cmp ?r1 ?_); (case r1 => rfl)) | with_reducible refine' Ts_nilO ?_ | with_reducible refine' Ts_or ?_ | with_reducible refine' Z_ret ?_) | lia
        exact hK _ ⟨_, _, rfl, vne, vne⟩
      · rintro _ ⟨t1, t8, rfl, h1, h8⟩
        repeat' first | (first | with_reducible refine' Z_cons ?_ | with_reducible refine' N_seq ?_ | with_reducible refine' R_seq ?_ | with_reducible refine' R_is ?_ | with_reducible refine' E_bool ?_ | with_reducible refine' Z_ret ?_ | with_reducible rfl) | lia
  refine for_up (fun i ρ => ∃ n d bf hs t1 t2 t3 t4 t5 t6 t7, it i (n0, e0, 1, []) = (n, d, bf, hs) ∧ ρ = ((Str.ofString "script", vL ns) :: (Str.ofString "loaf", lf 3 xs) :: (Str.ofString "w", vI w) :: (Str.ofString "bottom", vI b) :: (Str.ofString "begun", .val (dF w n0 e0)) :: (Str.ofString "left", .val (.dat (LF w n d))) :: (Str.ofString "some", .val (.dat (.list (hs.map (PT w))))) :: (Str.ofString "before", vI bf) :: (Str.ofString "turn", t1) :: (Str.ofString "whole", t2) :: (Str.ofString "part", t3) :: (Str.ofString "here", t4) :: (Str.ofString "top", t5) :: (Str.ofString "below", t6) :: (Str.ofString "later", t7) :: (Str.ofString "whole_again", Slot.unset) :: (Str.ofString "rest", Slot.unset) :: (Str.ofString "many", Slot.unset) :: (Str.ofString "made", Slot.unset) :: (Str.ofString "above", Slot.unset) :: (Str.ofString "_law_shared", Slot.glob) :: (Str.ofString "_law_least", Slot.glob) :: (Str.ofString "range", Slot.glob) :: (Str.ofString "cdiv", Slot.glob) :: (Str.ofString "divrem_school", Slot.glob) :: (Str.ofString "_law_worth", Slot.glob) :: (Str.ofString "r_sub", Slot.glob) :: (Str.ofString "mul_school", Slot.glob) :: (Str.ofString "compare", Slot.glob) :: (Str.ofString "r_add", Slot.glob) :: (Str.ofString "s_add", Slot.glob) :: (Str.ofString "s_mul", Slot.glob) :: (Str.ofString "_law_limbs", Slot.glob) :: []) ∧ t1 ≠ .glob ∧ t2 ≠ .glob ∧ t3 ≠ .glob ∧ t4 ≠ .glob ∧ t5 ≠ .glob ∧ t6 ≠ .glob ∧ t7 ≠ .glob) ⟨n0, e0, 1, [], .unset, .unset, .unset, .unset, .unset, .unset, .unset, rfl, by rw [LF_eq]; rfl, une, une, une, une, une, une, une⟩ ?_ ?_
  · rintro i _ hi ⟨n, d, bf, hs, t1, t2, t3, t4, t5, t6, t7, hit, rfl, h1, h2, h3, h4, h5, h6, h7⟩ K hK hR hBk
    have hoki := List.all_eq_true.mp hok i (List.mem_range.mpr hi)
    rw [hit] at hoki
    unfold ok1 at hoki
    simp only [Bool.and_eq_true, decide_eq_true_iff] at hoki
    obtain ⟨⟨⟨⟨⟨⟨o1, o2⟩, o3⟩, o4⟩, o5⟩, o6⟩, o7⟩ := hoki
    repeat' first | (refine C_eqF (z := (n : Int)) (y := 0) (d := d) (e := 1) hw0 (LF_eq w n d) (zero_F hw0) ?_) | (first | with_reducible refine' Z_cons ?_ | with_reducible refine' N_seq ?_ | with_reducible refine' K_seq ?_ | with_reducible refine' Z_nil ?_ | ((with_reducible refine' E_val ?h ?_); (case h => exact rfl)) | ((with_reducible refine' E_glob ?h ?g ?_); (case h => exact rfl); (case g => exact rfl)) | with_reducible refine' E_int ?_ | with_reducible refine' E_bool ?_ | with_reducible refine' X_dat ?_ | ((with_reducible refine' E_subVal ?h ?_); (case h => exact rfl)) | ((with_reducible refine' Z_user ?h ?g ?_); (case h => exact rfl); (case g => exact fun q => by cases q)) | ((with_reducible refine' E_sub ?h ?_); (case h => exact rfl)) | with_reducible refine' Es_nil ?_ | with_reducible refine' Es_cons ?_ | with_reducible refine' E_tup ?_ | with_reducible refine' E_list ?_ | ((with_reducible refine' X_dats ?h ?g ?_); (case h => exact rfl); (case g => exact Nat.le_of_ble_eq_true rfl)) | with_reducible refine' I_t0 ?_ | with_reducible refine' I_t1 ?_ | ((with_reducible refine' br ?_ ?_) <;> intro _) | ((with_reducible refine' Z_turn ?h1 ?h3 ?_); (case h1 => (first | exact ofString_ne (by decide) | (refine' canPut_of (s := _) ?h (fun q => ?g); (case h => exact rfl); (case g => first | (cases q; done) | exact absurd q (by assumption))) | assumption)); (case h3 => exact rfl)) | ((with_reducible refine' T_cmp ?r1 ?_); (case r1 => rfl)) | with_reducible refine' Z_asg ?_ | with_reducible refine' Z_brk ?_ | with_reducible refine' S_if ?_ | ((with_reducible refine' F_val ?r1 ?_); (case r1 => rfl))) | lia
    · rename_i h
      have hn0 : n = 0 := by lia
      have hd1 : d = 1 := by lia
      subst hn0 hd1
      refine hBk _ (fin' _ ⟨bf, hs, _, t2, t3, t4, t5, t6, t7, ?_, rfl, vne, h2, h3, h4, h5, h6, h7⟩)
      have := it_fix (s := (n0, e0, 1, [])) (i := i) (by rw [hit]) (13 - i)
      rw [show i + (13 - i) = 13 by lia] at this
      rw [this, hit]
    · rename_i h
      have hn : n ≠ 0 := by
        intro q
        rw [if_pos q] at o7
        exact h ⟨by lia, by simpa using o7⟩
      rw [if_neg hn] at o7
      simp only [Bool.and_eq_true, decide_eq_true_iff] at o7
      obtain ⟨⟨⟨⟨⟨⟨p1, p2⟩, p3⟩, p4⟩, p5⟩, p6⟩, p7⟩ := o7
      have hnx : nx (n, d, bf, hs) = ((n * hOf n d - d) / Nat.gcd (n * hOf n d - d) (d * hOf n d), d * hOf n d / Nat.gcd (n * hOf n d - d) (d * hOf n d), hOf n d, hs ++ [hOf n d]) := by
        rw [nx, if_neg hn]
      have hit' : it (i + 1) (n0, e0, 1, []) = nx (n, d, bf, hs) := by
        show nx (it i _) = _
        rw [hit]
      rw [hnx] at p4 p5 p6 hit'
      have hq : hOf n d = if 0 < d % n then d / n + 1 else d / n := rfl
      generalize hOf n d = hh at *
      generalize hn' : (n * hh - d) / Nat.gcd (n * hh - d) (d * hh) = n' at *
      generalize hd' : d * hh / Nat.gcd (n * hh - d) (d * hh) = d' at *
      have c1 : (n : Int) * hh - d = ((n * hh - d : Nat) : Int) := by rw [Int.ofNat_sub p3, Int.natCast_mul]
      have c2 : (d : Int) * hh = ((d * hh : Nat) : Int) := by rw [Int.natCast_mul]
      have c3 : (d : Int) ≤ n * hh := by rw [← Int.natCast_mul]; exact_mod_cast p3
      have c4 : (bf : Int) * ((bf : Int) - 1) < hh := by
        rw [show (bf : Int) - 1 = ((bf - 1 : Nat) : Int) by lia, ← Int.natCast_mul]; exact_mod_cast p7
      have m1 : n * hh < 2 ^ 60 := Nat.lt_of_lt_of_le (Nat.mul_lt_mul'' o1 p1) (by decide)
      have m2 : d * hh < 2 ^ 60 := Nat.lt_of_lt_of_le (Nat.mul_lt_mul'' o2 p1) (by decide)
      have hsg : sgn n' n = -1 := by rw [sgn, if_pos p6]
      refine Z_useK (r := .dat (.tuple [.tuple [.bool false, pN w hh], Sg w (if 0 < d % n then ((d % n : Nat) : Int) - n else ((d % n : Nat) : Int))])) (by
        rw [← Sg_nat w d, ← Sg_nat w hh, ← Sg_nat w n]
        exact SCdiv.mk w d n hh _ hw0 hw8 (Bd_of (by lia) (by decide)) (Bd_of (by lia) (by decide)) (by lia) hq rfl) ?_
      repeat' first | (first | with_reducible refine' Z_cons ?_ | with_reducible refine' N_seq ?_ | ((with_reducible refine' E_val ?h ?_); (case h => exact rfl)) | ((with_reducible refine' E_glob ?h ?g ?_); (case h => exact rfl); (case g => exact rfl)) | with_reducible refine' E_int ?_ | with_reducible refine' E_bool ?_ | with_reducible refine' X_dat ?_ | ((with_reducible refine' E_subVal ?h ?_); (case h => exact rfl)) | ((with_reducible refine' Z_user ?h ?g ?_); (case h => exact rfl); (case g => exact fun q => by cases q)) | ((with_reducible refine' E_sub ?h ?_); (case h => exact rfl)) | with_reducible refine' Es_nil ?_ | with_reducible refine' Es_cons ?_ | with_reducible refine' E_tup ?_ | with_reducible refine' E_list ?_ | ((with_reducible refine' X_dats ?h ?g ?_); (case h => exact rfl); (case g => exact Nat.le_of_ble_eq_true rfl)) | ((with_reducible refine' Z_put ?h1 ?h2 ?h3 ?_); (case h1 => (first | exact ofString_ne (by decide) | (refine' canPut_of (s := _) ?h (fun q => ?g); (case h => exact rfl); (case g => first | (cases q; done) | exact absurd q (by assumption))) | assumption)); (case h2 => (first | exact ofString_ne (by decide) | (refine' canPut_of (s := _) ?h (fun q => ?g); (case h => exact rfl); (case g => first | (cases q; done) | exact absurd q (by assumption))) | assumption)); (case h3 => exact rfl)) | with_reducible refine' I_t0 ?_ | with_reducible refine' I_t1 ?_ | with_reducible refine' Z_asg ?_ | ((with_reducible refine' F_val ?r1 ?_); (case r1 => rfl)) | ((with_reducible refine' Z_tup ?r1 ?r2 ?_); (case r1 => rfl); (case r2 => rfl)) | ((with_reducible refine' Z_tupK ?h1 ?h2 ?h3 ?h4 ?h5 ?h6 ?h7 ?h8 ?_); (case h1 => exact rfl); (case h2 => rfl); (case h3 => exact Nat.le_of_ble_eq_true rfl); (case h4 => decide); (case h5 => (first | exact ofString_ne (by decide) | (refine' canPut_of (s := _) ?h (fun q => ?g); (case h => exact rfl); (case g => first | (cases q; done) | exact absurd q (by assumption))) | assumption)); (case h6 => simp only [List.forall_mem_cons]; (repeat' apply And.intro) <;> first | (first | exact ofString_ne (by decide) | (refine' canPut_of (s := _) ?h (fun q => ?g); (case h => exact rfl); (case g => first | (cases q; done) | exact absurd q (by assumption))) | assumption) | (intro x hx; cases hx)); (case h7 => rfl); (case h8 => exact rfl))) | (refine Z_useK (SWorth.mk w hh hw0 hw8 (by lia)) ?_) | (refine Z_useK (SWorth.mk w n hw0 hw8 (by lia)) ?_) | (refine Z_useK (SWorth.mk w d hw0 hw8 (by lia)) ?_) | lia
      have hb1 : Bd 4000 (1 : Int).natAbs := Bd_of (by decide) (by decide)
      refine Z_useK (r := .dat (LF w n' d')) (by
        have h := SRSub.mk w (n : Int) d 1 hh hw0 hw8 (by rw [Int.natAbs_natCast]; exact Bd_of (by lia) (by decide)) (Bd_of (by lia) (by decide)) hb1 (Bd_of (by lia) (by decide)) (by lia) p2
        rw [p4, p5] at h
        rw [LF_eq, LF_eq, one_S hw0]
        exact h) ?_
      repeat' first | (first | with_reducible refine' Z_cons ?_ | with_reducible refine' N_seq ?_ | with_reducible refine' R_seq ?_ | ((with_reducible refine' E_val ?h ?_); (case h => exact rfl)) | with_reducible refine' E_bool ?_ | with_reducible refine' E_bin ?_ | ((with_reducible refine' Z_user ?h ?g ?_); (case h => exact rfl); (case g => exact fun q => by cases q)) | with_reducible refine' Es_nil ?_ | with_reducible refine' Es_cons ?_ | ((with_reducible refine' Z_put ?h1 ?h2 ?h3 ?_); (case h1 => (first | exact ofString_ne (by decide) | (refine' canPut_of (s := _) ?h (fun q => ?g); (case h => exact rfl); (case g => first | (cases q; done) | exact absurd q (by assumption))) | assumption)); (case h2 => (first | exact ofString_ne (by decide) | (refine' canPut_of (s := _) ?h (fun q => ?g); (case h => exact rfl); (case g => first | (cases q; done) | exact absurd q (by assumption))) | assumption)); (case h3 => exact rfl)) | with_reducible refine' B_sub ?_ | with_reducible refine' B_mul ?_ ?_ | with_reducible refine' C_lt ?_ | ((with_reducible refine' br ?_ ?_) <;> intro _) | with_reducible refine' brT' ?_ | with_reducible refine' T_bool ?_ | ((with_reducible refine' T_cmp ?r1 ?_); (case r1 => rfl)) | with_reducible refine' Ts_or ?_ | with_reducible refine' Z_ret ?_ | with_reducible refine' S_if ?_) | lia
      rw [c2]
      refine Z_useK (r := .dat (LF w n' d')) (by
        rw [c1, LF_eq]
        have h := SLeast.mk w (n * hh - d) (d * hh) hw0 hw8 (by lia) m2 (Nat.mul_pos (by lia) p2)
        rw [hn', hd'] at h
        exact h) ?_
      refine C_neF (z := (n' : Int)) (y := n') (d := d') (e := d') hw0 (LF_eq w n' d') (LF_eq w n' d') ?_
      repeat' first | (first | with_reducible refine' Z_cons ?_ | with_reducible refine' N_seq ?_ | with_reducible refine' R_seq ?_ | with_reducible refine' Z_nil ?_ | ((with_reducible refine' E_val ?h ?_); (case h => exact rfl)) | with_reducible refine' E_int ?_ | with_reducible refine' E_bool ?_ | with_reducible refine' E_bin ?_ | with_reducible refine' X_dat ?_ | ((with_reducible refine' E_subVal ?h ?_); (case h => exact rfl)) | ((with_reducible refine' Z_user ?h ?g ?_); (case h => exact rfl); (case g => exact fun q => by cases q)) | ((with_reducible refine' E_sub ?h ?_); (case h => exact rfl)) | with_reducible refine' Es_nil ?_ | with_reducible refine' Es_cons ?_ | with_reducible refine' E_list ?_ | ((with_reducible refine' X_dats ?h ?g ?_); (case h => exact rfl); (case g => exact Nat.le_of_ble_eq_true rfl)) | with_reducible refine' B_sub ?_ | with_reducible refine' B_mul ?_ ?_ | with_reducible refine' I_t0 ?_ | with_reducible refine' I_t1 ?_ | with_reducible refine' C_le ?_ | with_reducible refine' C_ge ?_ | ((with_reducible refine' br ?_ ?_) <;> intro _) | with_reducible refine' brF' ?_ | with_reducible refine' brT' ?_ | with_reducible refine' T_bool ?_ | ((with_reducible refine' T_cmp ?r1 ?_); (case r1 => rfl)) | with_reducible refine' Ts_nilO ?_ | with_reducible refine' Ts_or ?_ | with_reducible refine' Z_ret ?_ | with_reducible refine' S_if ?_ | ((with_reducible refine' F_val ?r1 ?_); (case r1 => rfl)) | ((with_reducible refine' Z_tup ?r1 ?r2 ?_); (case r1 => rfl); (case r2 => rfl))) | (refine Z_useK (SCompare.mk w n' n hw0 (Bd_of (k := 20000) (by lia) (by decide)) (Bd_of (k := 20000) (by lia) (by decide))) ?_) | lia
      refine B_cat (by simp only [List.length_map, List.length_cons, List.length_nil]; lia) ?_
      repeat' first | (first | with_reducible refine' N_seq ?_ | with_reducible refine' Z_nil ?_ | ((with_reducible refine' E_val ?h ?_); (case h => exact rfl)) | with_reducible refine' Es_nil ?_ | with_reducible refine' Es_cons ?_ | ((with_reducible refine' Z_tupK ?h1 ?h2 ?h3 ?h4 ?h5 ?h6 ?h7 ?h8 ?_); (case h1 => exact rfl); (case h2 => rfl); (case h3 => exact Nat.le_of_ble_eq_true rfl); (case h4 => decide); (case h5 => (first | exact ofString_ne (by decide) | (refine' canPut_of (s := _) ?h (fun q => ?g); (case h => exact rfl); (case g => first | (cases q; done) | exact absurd q (by assumption))) | assumption)); (case h6 => simp only [List.forall_mem_cons]; (repeat' apply And.intro) <;> first | (first | exact ofString_ne (by decide) | (refine' canPut_of (s := _) ?h (fun q => ?g); (case h => exact rfl); (case g => first | (cases q; done) | exact absurd q (by assumption))) | assumption) | (intro x hx; cases hx)); (case h7 => rfl); (case h8 => exact rfl))) | lia
      have em : hs.map (PT w) ++ [PT w hh] = (hs ++ [hh]).map (PT w) := by simp
      refine hK _ ⟨n', d', hh, hs ++ [hh], _, _, _, _, _, _, _, hit', by rw [← em]; rfl, vne, vne, vne, vne, vne, vne, vne⟩
  · rintro _ ⟨n, d, bf, hs, t1, t2, t3, t4, t5, t6, t7, hit, rfl, h1, h2, h3, h4, h5, h6, h7⟩
    have hf := hfin
    rw [show (Int.toNat 13) = 13 from rfl] at hit
    rw [hit] at hf
    unfold fin at hf
    simp only [Bool.and_eq_true, decide_eq_true_iff] at hf
    obtain ⟨⟨⟨f1, f2⟩, f3⟩, f4⟩ := hf
    subst f1 f2
    exact fin' _ ⟨bf, hs, t1, t2, t3, t4, t5, t6, t7, hit, rfl, h1, h2, h3, h4, h5, h6, h7⟩
/-! ## the functions, joined -/
theorem len1 {α : Type} {vs : List α} (h : vs.length = 1) : ∃ a0, vs = [a0] := by
  rcases vs with _ | ⟨a0, _ | ⟨_, _⟩⟩
  · exact absurd h (by simp)
  · exact ⟨_, rfl⟩
  · exact absurd h (by simp)
theorem len2 {α : Type} {vs : List α} (h : vs.length = 2) : ∃ a0 a1, vs = [a0, a1] := by
  rcases vs with _ | ⟨a0, _ | ⟨a1, _ | ⟨_, _⟩⟩⟩
  · exact absurd h (by simp)
  · exact absurd h (by simp)
  · exact ⟨_, _, rfl⟩
  · exact absurd h (by simp)
theorem len3 {α : Type} {vs : List α} (h : vs.length = 3) : ∃ a0 a1 a2, vs = [a0, a1, a2] := by
  rcases vs with _ | ⟨a0, _ | ⟨a1, _ | ⟨a2, _ | ⟨_, _⟩⟩⟩⟩
  · exact absurd h (by simp)
  · exact absurd h (by simp)
  · exact absurd h (by simp)
  · exact ⟨_, _, _, rfl⟩
  · exact absurd h (by simp)
theorem len4 {α : Type} {vs : List α} (h : vs.length = 4) : ∃ a0 a1 a2 a3, vs = [a0, a1, a2, a3] := by
  rcases vs with _ | ⟨a0, _ | ⟨a1, _ | ⟨a2, _ | ⟨a3, _ | ⟨_, _⟩⟩⟩⟩⟩
  · exact absurd h (by simp)
  · exact absurd h (by simp)
  · exact absurd h (by simp)
  · exact absurd h (by simp)
  · exact ⟨_, _, _, _, rfl⟩
  · exact absurd h (by simp)
theorem len5 {α : Type} {vs : List α} (h : vs.length = 5) : ∃ a0 a1 a2 a3 a4, vs = [a0, a1, a2, a3, a4] := by
  rcases vs with _ | ⟨a0, _ | ⟨a1, _ | ⟨a2, _ | ⟨a3, _ | ⟨a4, _ | ⟨_, _⟩⟩⟩⟩⟩⟩
  · exact absurd h (by simp)
  · exact absurd h (by simp)
  · exact absurd h (by simp)
  · exact absurd h (by simp)
  · exact absurd h (by simp)
  · exact ⟨_, _, _, _, _, rfl⟩
  · exact absurd h (by simp)
theorem D4 : DefOk (recI 4) [Str.ofString "a"] where
  bind := fun _ _ _ _ hl => by obtain ⟨v0, rfl⟩ := len1 hl; rfl
  nodup := by decide
  loc := by decide
  kinds := by decide
  co := rfl
  gen := rfl
  kind := rfl
theorem D5 : DefOk (recI 5) [Str.ofString "a", Str.ofString "b"] where
  bind := fun _ _ _ _ hl => by obtain ⟨v0, v1, rfl⟩ := len2 hl; rfl
  nodup := by decide
  loc := by decide
  kinds := by decide
  co := rfl
  gen := rfl
  kind := rfl
theorem D6 : DefOk (recI 6) [Str.ofString "a", Str.ofString "b", Str.ofString "w"] where
  bind := fun _ _ _ _ hl => by obtain ⟨v0, v1, v2, rfl⟩ := len3 hl; rfl
  nodup := by decide
  loc := by decide
  kinds := by decide
  co := rfl
  gen := rfl
  kind := rfl
theorem D7 : DefOk (recI 7) [Str.ofString "a", Str.ofString "b", Str.ofString "w"] where
  bind := fun _ _ _ _ hl => by obtain ⟨v0, v1, v2, rfl⟩ := len3 hl; rfl
  nodup := by decide
  loc := by decide
  kinds := by decide
  co := rfl
  gen := rfl
  kind := rfl
theorem D8 : DefOk (recI 8) [Str.ofString "a", Str.ofString "limb", Str.ofString "w"] where
  bind := fun _ _ _ _ hl => by obtain ⟨v0, v1, v2, rfl⟩ := len3 hl; rfl
  nodup := by decide
  loc := by decide
  kinds := by decide
  co := rfl
  gen := rfl
  kind := rfl
theorem D9 : DefOk (recI 9) [Str.ofString "a", Str.ofString "limb", Str.ofString "w"] where
  bind := fun _ _ _ _ hl => by obtain ⟨v0, v1, v2, rfl⟩ := len3 hl; rfl
  nodup := by decide
  loc := by decide
  kinds := by decide
  co := rfl
  gen := rfl
  kind := rfl
theorem D10 : DefOk (recI 10) [Str.ofString "a", Str.ofString "n", Str.ofString "w"] where
  bind := fun _ _ _ _ hl => by obtain ⟨v0, v1, v2, rfl⟩ := len3 hl; rfl
  nodup := by decide
  loc := by decide
  kinds := by decide
  co := rfl
  gen := rfl
  kind := rfl
theorem D11 : DefOk (recI 11) [Str.ofString "a", Str.ofString "n", Str.ofString "w"] where
  bind := fun _ _ _ _ hl => by obtain ⟨v0, v1, v2, rfl⟩ := len3 hl; rfl
  nodup := by decide
  loc := by decide
  kinds := by decide
  co := rfl
  gen := rfl
  kind := rfl
theorem D12 : DefOk (recI 12) [Str.ofString "a", Str.ofString "w"] where
  bind := fun _ _ _ _ hl => by obtain ⟨v0, v1, rfl⟩ := len2 hl; rfl
  nodup := by decide
  loc := by decide
  kinds := by decide
  co := rfl
  gen := rfl
  kind := rfl
theorem D14 : DefOk (recI 14) [Str.ofString "is_below", Str.ofString "nat"] where
  bind := fun _ _ _ _ hl => by obtain ⟨v0, v1, rfl⟩ := len2 hl; rfl
  nodup := by decide
  loc := by decide
  kinds := by decide
  co := rfl
  gen := rfl
  kind := rfl
theorem D15 : DefOk (recI 15) [Str.ofString "x"] where
  bind := fun _ _ _ _ hl => by obtain ⟨v0, rfl⟩ := len1 hl; rfl
  nodup := by decide
  loc := by decide
  kinds := by decide
  co := rfl
  gen := rfl
  kind := rfl
theorem D16 : DefOk (recI 16) [Str.ofString "x", Str.ofString "y", Str.ofString "w"] where
  bind := fun _ _ _ _ hl => by obtain ⟨v0, v1, v2, rfl⟩ := len3 hl; rfl
  nodup := by decide
  loc := by decide
  kinds := by decide
  co := rfl
  gen := rfl
  kind := rfl
theorem D17 : DefOk (recI 17) [Str.ofString "x", Str.ofString "y", Str.ofString "w"] where
  bind := fun _ _ _ _ hl => by obtain ⟨v0, v1, v2, rfl⟩ := len3 hl; rfl
  nodup := by decide
  loc := by decide
  kinds := by decide
  co := rfl
  gen := rfl
  kind := rfl
theorem D18 : DefOk (recI 18) [Str.ofString "x", Str.ofString "y", Str.ofString "w", Str.ofString "mul"] where
  bind := fun _ _ _ _ hl => by obtain ⟨v0, v1, v2, v3, rfl⟩ := len4 hl; rfl
  nodup := by decide
  loc := by decide
  kinds := by decide
  co := rfl
  gen := rfl
  kind := rfl
theorem D19 : DefOk (recI 19) [Str.ofString "x", Str.ofString "y", Str.ofString "w", Str.ofString "divrem"] where
  bind := fun _ _ _ _ hl => by obtain ⟨v0, v1, v2, v3, rfl⟩ := len4 hl; rfl
  nodup := by decide
  loc := by decide
  kinds := by decide
  co := rfl
  gen := rfl
  kind := rfl
theorem D20 : DefOk (recI 20) [Str.ofString "x", Str.ofString "y", Str.ofString "w", Str.ofString "divrem"] where
  bind := fun _ _ _ _ hl => by obtain ⟨v0, v1, v2, v3, rfl⟩ := len4 hl; rfl
  nodup := by decide
  loc := by decide
  kinds := by decide
  co := rfl
  gen := rfl
  kind := rfl
theorem D22 : DefOk (recI 22) [Str.ofString "a", Str.ofString "b", Str.ofString "w", Str.ofString "divrem"] where
  bind := fun _ _ _ _ hl => by obtain ⟨v0, v1, v2, v3, rfl⟩ := len4 hl; rfl
  nodup := by decide
  loc := by decide
  kinds := by decide
  co := rfl
  gen := rfl
  kind := rfl
theorem D23 : DefOk (recI 23) [Str.ofString "x", Str.ofString "d", Str.ofString "w", Str.ofString "divrem"] where
  bind := fun _ _ _ _ hl => by obtain ⟨v0, v1, v2, v3, rfl⟩ := len4 hl; rfl
  nodup := by decide
  loc := by decide
  kinds := by decide
  co := rfl
  gen := rfl
  kind := rfl
theorem D24 : DefOk (recI 24) [Str.ofString "nat"] where
  bind := fun _ _ _ _ hl => by obtain ⟨v0, rfl⟩ := len1 hl; rfl
  nodup := by decide
  loc := by decide
  kinds := by decide
  co := rfl
  gen := rfl
  kind := rfl
theorem D25 : DefOk (recI 25) [Str.ofString "x"] where
  bind := fun _ _ _ _ hl => by obtain ⟨v0, rfl⟩ := len1 hl; rfl
  nodup := by decide
  loc := by decide
  kinds := by decide
  co := rfl
  gen := rfl
  kind := rfl
theorem D26 : DefOk (recI 26) [Str.ofString "x", Str.ofString "y", Str.ofString "w", Str.ofString "mul", Str.ofString "divrem"] where
  bind := fun _ _ _ _ hl => by obtain ⟨v0, v1, v2, v3, v4, rfl⟩ := len5 hl; rfl
  nodup := by decide
  loc := by decide
  kinds := by decide
  co := rfl
  gen := rfl
  kind := rfl
theorem D27 : DefOk (recI 27) [Str.ofString "x", Str.ofString "y", Str.ofString "w", Str.ofString "mul", Str.ofString "divrem"] where
  bind := fun _ _ _ _ hl => by obtain ⟨v0, v1, v2, v3, v4, rfl⟩ := len5 hl; rfl
  nodup := by decide
  loc := by decide
  kinds := by decide
  co := rfl
  gen := rfl
  kind := rfl
theorem D29 : DefOk (recI 29) [Str.ofString "a", Str.ofString "b", Str.ofString "w"] where
  bind := fun _ _ _ _ hl => by obtain ⟨v0, v1, v2, rfl⟩ := len3 hl; rfl
  nodup := by decide
  loc := by decide
  kinds := by decide
  co := rfl
  gen := rfl
  kind := rfl
theorem D30 : DefOk (recI 30) [Str.ofString "a", Str.ofString "b", Str.ofString "w"] where
  bind := fun _ _ _ _ hl => by obtain ⟨v0, v1, v2, rfl⟩ := len3 hl; rfl
  nodup := by decide
  loc := by decide
  kinds := by decide
  co := rfl
  gen := rfl
  kind := rfl
theorem D31 : DefOk (recI 31) [Str.ofString "top", Str.ofString "first", Str.ofString "second", Str.ofString "w"] where
  bind := fun _ _ _ _ hl => by obtain ⟨v0, v1, v2, v3, rfl⟩ := len4 hl; rfl
  nodup := by decide
  loc := by decide
  kinds := by decide
  co := rfl
  gen := rfl
  kind := rfl
theorem D32 : DefOk (recI 32) [Str.ofString "rest", Str.ofString "b", Str.ofString "limb", Str.ofString "at", Str.ofString "w"] where
  bind := fun _ _ _ _ hl => by obtain ⟨v0, v1, v2, v3, v4, rfl⟩ := len5 hl; rfl
  nodup := by decide
  loc := by decide
  kinds := by decide
  co := rfl
  gen := rfl
  kind := rfl
theorem D33 : DefOk (recI 33) [Str.ofString "rest", Str.ofString "b", Str.ofString "at", Str.ofString "w"] where
  bind := fun _ _ _ _ hl => by obtain ⟨v0, v1, v2, v3, rfl⟩ := len4 hl; rfl
  nodup := by decide
  loc := by decide
  kinds := by decide
  co := rfl
  gen := rfl
  kind := rfl
theorem D34 : DefOk (recI 34) [Str.ofString "rest", Str.ofString "b", Str.ofString "w"] where
  bind := fun _ _ _ _ hl => by obtain ⟨v0, v1, v2, rfl⟩ := len3 hl; rfl
  nodup := by decide
  loc := by decide
  kinds := by decide
  co := rfl
  gen := rfl
  kind := rfl
theorem D35 : DefOk (recI 35) [Str.ofString "a", Str.ofString "b", Str.ofString "w"] where
  bind := fun _ _ _ _ hl => by obtain ⟨v0, v1, v2, rfl⟩ := len3 hl; rfl
  nodup := by decide
  loc := by decide
  kinds := by decide
  co := rfl
  gen := rfl
  kind := rfl
theorem D37 : DefOk (recI 37) [Str.ofString "loaf", Str.ofString "many"] where
  bind := fun _ _ _ _ hl => by obtain ⟨v0, v1, rfl⟩ := len2 hl; rfl
  nodup := by decide
  loc := by decide
  kinds := by decide
  co := rfl
  gen := rfl
  kind := rfl
theorem D38 : DefOk (recI 38) [Str.ofString "number", Str.ofString "w"] where
  bind := fun _ _ _ _ hl => by obtain ⟨v0, v1, rfl⟩ := len2 hl; rfl
  nodup := by decide
  loc := by decide
  kinds := by decide
  co := rfl
  gen := rfl
  kind := rfl
theorem D39 : DefOk (recI 39) [Str.ofString "limbs", Str.ofString "w"] where
  bind := fun _ _ _ _ hl => by obtain ⟨v0, v1, rfl⟩ := len2 hl; rfl
  nodup := by decide
  loc := by decide
  kinds := by decide
  co := rfl
  gen := rfl
  kind := rfl
theorem D40 : DefOk (recI 40) [Str.ofString "top", Str.ofString "bottom", Str.ofString "w"] where
  bind := fun _ _ _ _ hl => by obtain ⟨v0, v1, v2, rfl⟩ := len3 hl; rfl
  nodup := by decide
  loc := by decide
  kinds := by decide
  co := rfl
  gen := rfl
  kind := rfl
section
variable {prog : Program} {w : World} {mg mb : Str → Option Value} {B : Heap}
theorem fc {n : Nat} {q : Str × SpecF} {l : List (Str × SpecF)} (h : FnOk prog w mg B n q.1 q.2) (t : ∀ q ∈ l, FnOk prog w mg B n q.1 q.2) : ∀ p ∈ q :: l, FnOk prog w mg B n p.1 p.2 := fun p hp => by
  rcases List.mem_cons.mp hp with rfl | hp
  · exact h
  · exact t p hp
theorem fn0 {n : Nat} : ∀ p ∈ ([] : List (Str × SpecF)), FnOk prog w mg B n p.1 p.2 := fun p hp => by cases hp
theorem mc {n : Nat} {q : Str × SpecM} {l : List (Str × SpecM)} (h : MutOk prog w mg B n q.1 q.2) (t : ∀ q ∈ l, MutOk prog w mg B n q.1 q.2) : ∀ p ∈ q :: l, MutOk prog w mg B n p.1 p.2 := fun p hp => by
  rcases List.mem_cons.mp hp with rfl | hp
  · exact h
  · exact t p hp
theorem mn0 {n : Nat} : ∀ p ∈ ([] : List (Str × SpecM)), MutOk prog w mg B n p.1 p.2 := fun p hp => by cases hp

noncomputable def idxs : List Nat := [4, 5, 6, 7, 8, 9, 10, 11, 12, 14, 15, 16, 17, 18, 19, 20, 22, 23, 24, 25, 26, 27, 29, 30, 31, 32, 33, 34, 35, 37, 38, 39, 40]
theorem all_fns (base : BaseOk mg mb B) (FA : ∀ i, i ∈ idxs → FnAt mg B (recI i)) : (∀ q ∈ CLaw.fns, FnOk prog w mg B 20 q.1 q.2) ∧ (∀ q ∈ CLaw.muts, MutOk prog w mg B 20 q.1 q.2) := by
  have f4 : FnOk prog w mg B (0 + 1) (Str.ofString "normal") SNormal := fnOk_of base D4 (FA 4 (by decide)) fn0 mn0 w_normal
  have f5 : FnOk prog w mg B (0 + 1) (Str.ofString "compare") SCompare := fnOk_of base D5 (FA 5 (by decide)) fn0 mn0 w_compare
  have f6 : FnOk prog w mg B (0 + 1) (Str.ofString "add") SAdd := fnOk_of base D6 (FA 6 (by decide)) fn0 mn0 w_add
  have f8 : FnOk prog w mg B (0 + 1) (Str.ofString "add_limb") SAddLimb := fnOk_of base D8 (FA 8 (by decide)) fn0 mn0 w_add_limb
  have f10 : FnOk prog w mg B (0 + 1) (Str.ofString "shift_left") SShl := fnOk_of base D10 (FA 10 (by decide)) fn0 mn0 w_shift_left
  have f12 : FnOk prog w mg B (0 + 1) (Str.ofString "bits") SBits := fnOk_of base D12 (FA 12 (by decide)) fn0 mn0 w_bits
  have f14 : FnOk prog w mg B (0 + 1) (Str.ofString "signed") SSigned := fnOk_of base D14 (FA 14 (by decide)) fn0 mn0 w_signed
  have f24 : FnOk prog w mg B (0 + 1) (Str.ofString "signed_of") SSignedOf := fnOk_of base D24 (FA 24 (by decide)) fn0 mn0 w_signed_of
  have f31 : FnOk prog w mg B (0 + 1) (Str.ofString "guessed_limb") SGuess := fnOk_of base D31 (FA 31 (by decide)) fn0 mn0 w_guessed_limb
  have f32 : MutOk prog w mg B (0 + 1) (Str.ofString "take_away") STake := mutOk_of base D32 (FA 32 (by decide)) rfl fn0 mn0 w_take_away
  have f33 : MutOk prog w mg B (0 + 1) (Str.ofString "put_back") SPut := mutOk_of base D33 (FA 33 (by decide)) rfl fn0 mn0 w_put_back
  have f37 : MutOk prog w mg B (0 + 1) (Str.ofString "_law_shared") SShared := mutOk_of base D37 (FA 37 (by decide)) rfl fn0 mn0 w_law_shared
  have f38 : FnOk prog w mg B (0 + 1) (Str.ofString "_law_limbs") SLimbs := fnOk_of base D38 (FA 38 (by decide)) fn0 mn0 w_law_limbs
  have f39 : FnOk prog w mg B (0 + 1) (Str.ofString "_law_worth") SWorth := fnOk_of base D39 (FA 39 (by decide)) fn0 mn0 w_law_worth
  have f7 : FnOk prog w mg B (1 + 1) (Str.ofString "sub") SSub := fnOk_of base D7 (FA 7 (by decide)) (fc (f5.up (by decide)) (fc (f4.up (by decide)) fn0)) mn0 w_sub
  have f9 : FnOk prog w mg B (1 + 1) (Str.ofString "divrem_limb") SDivLimb := fnOk_of base D9 (FA 9 (by decide)) (fc (f4.up (by decide)) fn0) mn0 w_divrem_limb
  have f11 : FnOk prog w mg B (1 + 1) (Str.ofString "shift_right") SShr := fnOk_of base D11 (FA 11 (by decide)) (fc (f4.up (by decide)) fn0) mn0 w_shift_right
  have f15 : FnOk prog w mg B (1 + 1) (Str.ofString "s_neg") SNeg := fnOk_of base D15 (FA 15 (by decide)) (fc (f14.up (by decide)) fn0) mn0 w_s_neg
  have f29 : FnOk prog w mg B (1 + 1) (Str.ofString "mul_school") SMul := fnOk_of base D29 (FA 29 (by decide)) (fc (f4.up (by decide)) fn0) mn0 w_mul_school
  have f34 : MutOk prog w mg B (1 + 1) (Str.ofString "divide_rows") SRows := mutOk_of base D34 (FA 34 (by decide)) rfl (fc (f31.up (by decide)) fn0) (mc (f32.up (by decide)) (mc (f33.up (by decide)) mn0)) w_divide_rows
  have f40 : FnOk prog w mg B (1 + 1) (Str.ofString "_law_least") SLeast := fnOk_of base D40 (FA 40 (by decide)) (fc (f38.up (by decide)) fn0) mn0 w_law_least
  have f16 : FnOk prog w mg B (2 + 1) (Str.ofString "s_add") SSAdd := fnOk_of base D16 (FA 16 (by decide)) (fc (f14.up (by decide)) (fc (f6.up (by decide)) (fc (f5.up (by decide)) (fc (f7.up (by decide)) fn0)))) mn0 w_s_add
  have f18 : FnOk prog w mg B (2 + 1) (Str.ofString "s_mul") SSMul := fnOk_of base D18 (FA 18 (by decide)) (fc (f14.up (by decide)) (fc (f29.up (by decide)) fn0)) mn0 w_s_mul
  have f25 : FnOk prog w mg B (2 + 1) (Str.ofString "r_neg") SRNeg := fnOk_of base D25 (FA 25 (by decide)) (fc (f15.up (by decide)) fn0) mn0 w_r_neg
  have f30 : FnOk prog w mg B (2 + 1) (Str.ofString "divrem_small") SDivSmall := fnOk_of base D30 (FA 30 (by decide)) (fc (f9.up (by decide)) fn0) mn0 w_divrem_small
  have f17 : FnOk prog w mg B (3 + 1) (Str.ofString "s_sub") SSSub := fnOk_of base D17 (FA 17 (by decide)) (fc (f16.up (by decide)) (fc (f15.up (by decide)) fn0)) mn0 w_s_sub
  have f35 : FnOk prog w mg B (3 + 1) (Str.ofString "divrem_school") SDiv := fnOk_of base D35 (FA 35 (by decide)) (fc (f5.up (by decide)) (fc (f30.up (by decide)) (fc (f12.up (by decide)) (fc (f10.up (by decide)) (fc (f4.up (by decide)) (fc (f11.up (by decide)) fn0)))))) (mc (f34.up (by decide)) mn0) w_divrem_school
  have f19 : FnOk prog w mg B (4 + 1) (Str.ofString "tdiv") STdiv := fnOk_of base D19 (FA 19 (by decide)) (fc (f14.up (by decide)) (fc (f35.up (by decide)) fn0)) mn0 w_tdiv
  have f22 : FnOk prog w mg B (4 + 1) (Str.ofString "common") SCommon := fnOk_of base D22 (FA 22 (by decide)) (fc (f4.up (by decide)) (fc (f35.up (by decide)) fn0)) mn0 w_common
  have f23 : FnOk prog w mg B (4 + 1) (Str.ofString "cut_signed") SCut := fnOk_of base D23 (FA 23 (by decide)) (fc (f35.up (by decide)) fn0) mn0 w_cut_signed
  have f20 : FnOk prog w mg B (5 + 1) (Str.ofString "cdiv") SCdiv := fnOk_of base D20 (FA 20 (by decide)) (fc (f19.up (by decide)) (fc (f8.up (by decide)) (fc (f17.up (by decide)) fn0))) mn0 w_cdiv
  have f26 : FnOk prog w mg B (5 + 1) (Str.ofString "r_add") SRAdd := fnOk_of base D26 (FA 26 (by decide)) (fc (f22.up (by decide)) (fc (f35.up (by decide)) (fc (f16.up (by decide)) (fc (f18.up (by decide)) (fc (f24.up (by decide)) (fc (f23.up (by decide)) (fc (f29.up (by decide)) fn0))))))) mn0 w_r_add
  have f27 : FnOk prog w mg B (6 + 1) (Str.ofString "r_sub") SRSub := fnOk_of base D27 (FA 27 (by decide)) (fc (f26.up (by decide)) (fc (f25.up (by decide)) fn0)) mn0 w_r_sub
  exact ⟨(fc (f40.up (by decide)) (fc (f20.up (by decide)) (fc (f35.up (by decide)) (fc (f39.up (by decide)) (fc (f27.up (by decide)) (fc (f29.up (by decide)) (fc (f5.up (by decide)) (fc (f26.up (by decide)) (fc (f16.up (by decide)) (fc (f18.up (by decide)) (fc (f38.up (by decide)) fn0))))))))))), (mc (f37.up (by decide)) mn0)⟩
end
theorem kinds41 : kindsOk (recI 41).scope.names = true := by decide
theorem names41 : (recI 41).scope.names.lookup (Str.ofString "script") = some .local ∧ (recI 41).scope.names.lookup (Str.ofString "loaf") = some .local := by decide
theorem rho41 (s t : Slot) : put (put (base0 (recI 41).scope.names) (Str.ofString "script") s) (Str.ofString "loaf") t = ((Str.ofString "script", s) :: (Str.ofString "loaf", t) :: (Str.ofString "w", Slot.unset) :: (Str.ofString "bottom", Slot.unset) :: (Str.ofString "begun", Slot.unset) :: (Str.ofString "left", Slot.unset) :: (Str.ofString "some", Slot.unset) :: (Str.ofString "before", Slot.unset) :: (Str.ofString "turn", Slot.unset) :: (Str.ofString "whole", Slot.unset) :: (Str.ofString "part", Slot.unset) :: (Str.ofString "here", Slot.unset) :: (Str.ofString "top", Slot.unset) :: (Str.ofString "below", Slot.unset) :: (Str.ofString "later", Slot.unset) :: (Str.ofString "whole_again", Slot.unset) :: (Str.ofString "rest", Slot.unset) :: (Str.ofString "many", Slot.unset) :: (Str.ofString "made", Slot.unset) :: (Str.ofString "above", Slot.unset) :: (Str.ofString "_law_shared", Slot.glob) :: (Str.ofString "_law_least", Slot.glob) :: (Str.ofString "range", Slot.glob) :: (Str.ofString "cdiv", Slot.glob) :: (Str.ofString "divrem_school", Slot.glob) :: (Str.ofString "_law_worth", Slot.glob) :: (Str.ofString "r_sub", Slot.glob) :: (Str.ofString "mul_school", Slot.glob) :: (Str.ofString "compare", Slot.glob) :: (Str.ofString "r_add", Slot.glob) :: (Str.ofString "s_add", Slot.glob) :: (Str.ofString "s_mul", Slot.glob) :: (Str.ofString "_law_limbs", Slot.glob) :: []) := by
  rw [show (recI 41).scope.names = ((Str.ofString "script", NameKind.local) :: (Str.ofString "loaf", NameKind.local) :: (Str.ofString "w", NameKind.local) :: (Str.ofString "bottom", NameKind.local) :: (Str.ofString "begun", NameKind.local) :: (Str.ofString "left", NameKind.local) :: (Str.ofString "some", NameKind.local) :: (Str.ofString "before", NameKind.local) :: (Str.ofString "turn", NameKind.local) :: (Str.ofString "whole", NameKind.local) :: (Str.ofString "part", NameKind.local) :: (Str.ofString "here", NameKind.local) :: (Str.ofString "top", NameKind.local) :: (Str.ofString "below", NameKind.local) :: (Str.ofString "later", NameKind.local) :: (Str.ofString "whole_again", NameKind.local) :: (Str.ofString "rest", NameKind.local) :: (Str.ofString "many", NameKind.local) :: (Str.ofString "made", NameKind.local) :: (Str.ofString "above", NameKind.local) :: (Str.ofString "_law_shared", NameKind.globalImplicit) :: (Str.ofString "_law_least", NameKind.globalImplicit) :: (Str.ofString "range", NameKind.globalImplicit) :: (Str.ofString "cdiv", NameKind.globalImplicit) :: (Str.ofString "divrem_school", NameKind.globalImplicit) :: (Str.ofString "_law_worth", NameKind.globalImplicit) :: (Str.ofString "r_sub", NameKind.globalImplicit) :: (Str.ofString "mul_school", NameKind.globalImplicit) :: (Str.ofString "compare", NameKind.globalImplicit) :: (Str.ofString "r_add", NameKind.globalImplicit) :: (Str.ofString "s_add", NameKind.globalImplicit) :: (Str.ofString "s_mul", NameKind.globalImplicit) :: (Str.ofString "_law_limbs", NameKind.globalImplicit) :: []) from rfl]
  simp only [base0, put, ofString_beq, String.reduceBEq, Bool.false_eq_true, if_false, if_true, beq_self_eq_true]
noncomputable abbrev mLaw (l a : Addr) : Str → Option Value := fun y => if y = Str.ofString "loaf" then some (.ref l) else List.lookup y [(Str.ofString "script", Value.ref a)].reverse
theorem mLaw_loaf (l a : Addr) : mLaw l a (Str.ofString "loaf") = some (.ref l) := if_pos rfl
theorem mLaw_script (l a : Addr) : mLaw l a (Str.ofString "script") = some (.ref a) := by
  unfold mLaw
  rw [if_neg (ofString_ne (by decide))]
  simp [List.lookup_cons]
theorem reads_ints {h : Heap} : ∀ {vs : List Value} {ns : List Int}, IntsAre vs ns → ∃ as, ReadsAll h vs (IL ns) as
  | _, _, .nil => ⟨_, .nil⟩
  | _, _, .cons _ _ r => let ⟨_, q⟩ := reads_ints (h := h) r; ⟨_, .cons (.int _ _) q⟩
theorem law_tail {prog : Program} {w : World} {mg mb : Str → Option Value} {B h : Heap} (base : BaseOk mg mb B) (FA : ∀ i, i ∈ idxs → FnAt mg B (recI i)) {A : Around} (hh : A.handled = none) (hdep : A.depth + 20 < recursionLimit) (hun : A.units + 4 * 20 + 70 < cLine)
    {fa l D a : Addr} {cd : Value} {s : Shared} {ns xs : List Int} {us ys : List Value} {as : List Addr} {tk : Tok} {D1 : Addr} {ob : Obj}
    (F : PyProof.Rows.Fr B B.objs.size h (mLaw l a)) (N : News B B.objs.size h [(l, W.listOf #[Value.int 0 tk, Value.ref D] 0), (D, LCg.lst ys), (D1, ob)]) (hDl : D < l ∧ D1 < l) (hDi : IntsAre ys xs)
    (hS : B.IsList a us.toArray) (hSr : ReadsAll B us (IL ns) as) (hx : xs.length ≤ 1000) (hs : s.heap = h) :
    wpAny (model prog w) A (execs ((recI 41).body.drop 1) (envOf (recI 41).name (recI 41).scope B.objs.size fa cd)) (fun f s' => f = .ret (.bool true) ∧ B.StaysIn s'.heap ∧ s'.os = s.os ∧ s'.gens = s.gens) (fun _ _ => False) s := by
  subst hs
  obtain ⟨hf, hm⟩ := all_fns (prog := prog) (w := w) base FA
  let c : Cfg := { prog := prog, w := w, mg := mg, mb := mb, B := B, A := A, p := l, name := (recI 41).name, scope := (recI 41).scope, L := B.objs.size, a := fa, cd := cd, C := CLaw }
  have O : c.Ok 20 := ⟨base, rfl, hh, hdep, hun, hf, hm⟩
  have Nl := N (l, W.listOf #[Value.int 0 tk, Value.ref D] 0) (.head _)
  have ND := N (D, LCg.lst ys) (.tail _ (.head _))
  have hne : D ≠ l := Nat.ne_of_lt hDl.1
  have K0 := base0_keys kinds41
  have c1 : canPut (base0 (recI 41).scope.names) (Str.ofString "script") := by
    unfold canPut; rw [got_base kinds41 names41.1]; trivial
  have c2 : canPut (base0 (recI 41).scope.names) (Str.ofString "loaf") := by
    unfold canPut; rw [got_base kinds41 names41.2]; trivial
  have hlt : ∀ {b : Addr} {o : Obj}, B.get? b = some o → b < B.objs.size := fun e => Heap.lt_size e
  let hF : Heap := absorb B s.heap (· == D)
  have hFB : B.StaysIn hF := fun b o e => absorb_get.mpr ⟨F.keep b o e, .inl (by rw [e]; rfl)⟩
  have hnone : ∀ b, B.get? b = none → b ≠ D → hF.get? b = none := by
    intro b hb hbD
    cases q : hF.get? b with
    | none => rfl
    | some o =>
      obtain ⟨_, h2⟩ := absorb_get.mp q
      rcases h2 with h2 | h2
      · rw [hb] at h2; cases h2
      · exact absurd (eq_of_beq h2) hbD
  have hL : B.get? B.objs.size = none := by
    cases q : B.get? B.objs.size with
    | none => rfl
    | some o => exact absurd (hlt q) (Nat.lt_irrefl _)
  obtain ⟨cs, hrd⟩ := reads_ints (h := hF) hDi
  have hDF : hF.get? D = some (LCg.lst ys) := absorb_get.mpr ⟨ND.1, .inr (by simp)⟩
  obtain ⟨es, hRD⟩ : Rd mg hF (.ref D) (.dat (.list (IL xs))) := rdList ⟨_, hDF, rfl, _, rfl⟩ hrd
  have S0 : c.Sm (mLaw l a) [] hF s.heap (put (put (base0 (recI 41).scope.names) (Str.ofString "script") (vL ns)) (Str.ofString "loaf") (lf 0 xs)) := by
    refine ⟨F.ns, hFB, fun b o e => (absorb_get.mp e).1, hnone _ hL (Ne.symm ND.2.1), fun b hb => (by cases hb), fun hb => (by cases hb), fun b hb => (by cases hb), ?_, ?_, ?_⟩
    · intro x sl e
      rcases got_put e with ⟨rfl, rfl⟩ | ⟨_, e⟩
      · exact ⟨l, _, _, mLaw_loaf l a, ⟨_, Nl.1⟩, hnone _ Nl.2.2 (Ne.symm hne), Nl.2.1, fun hb => (by cases hb), .cons (.int _ _) (.cons hRD .nil)⟩
      · rcases got_put e with ⟨rfl, rfl⟩ | ⟨_, e⟩
        · exact ⟨_, mLaw_script l a, rdList (let ⟨o, ho, r⟩ := hS; ⟨o, hFB _ _ ho, r⟩) (ReadsAll.keeps hFB hSr)⟩
        · rcases K0.2 x sl e with rfl | rfl <;> trivial
    · have only : ∀ x xs', got (put (put (base0 (recI 41).scope.names) (Str.ofString "script") (vL ns)) (Str.ofString "loaf") (lf 0 xs)) x = some (.own xs') → x = Str.ofString "loaf" := by
        intro x xs' e
        rcases got_put e with ⟨rfl, _⟩ | ⟨_, e⟩
        · rfl
        · rcases got_put e with ⟨_, q⟩ | ⟨_, e⟩
          · cases q
          · rcases K0.2 x _ e with q | q <;> cases q
      intro x y xs1 ys1 b q1 q2 _ _
      rw [only _ _ q1, only _ _ q2]
    · intro x xs1 b q1 q2
      rcases got_put q1 with ⟨rfl, _⟩ | ⟨_, q1⟩
      · right
        rw [mLaw_loaf] at q2
        cases q2
        exact ⟨rfl, rfl⟩
      · rcases got_put q1 with ⟨_, q⟩ | ⟨_, q1⟩
        · cases q
        · rcases K0.2 x _ q1 with q | q <;> cases q
  have K1 : KeysOk c.scope.names (put (put (base0 (recI 41).scope.names) (Str.ofString "script") (vL ns)) (Str.ofString "loaf") (lf 0 xs)) :=
    (K0.1.putC c1 (by intro q; cases q)).putC (canPut_put c2 (by intro q; cases q)) (by intro q; cases q)
  have hw := w_law ns xs hx
  rw [← rho41] at hw
  refine sndB O (sndR O 3) _ _ _ hw _ [] hF s S0 K1 _ ?_
  intro f fl m' ρ' hF' h' tk' g rr hk
  cases f <;> cases fl <;> first | exact rr.elim | exact hk.elim | skip
  · have hk : (Vx.dat (.bool true)) = .dat .none := hk
    cases hk
  · have hk : _ = Vx.dat (.bool true) := hk
    subst hk
    have rr : Rd mg hF' _ (.dat (.bool true)) := rr
    obtain rfl := rd_bool rr
    exact ⟨rfl, fun b o e => g.sim.keep _ _ (g.grow _ _ (hFB _ _ e)), rfl, rfl⟩
noncomputable abbrev prg := PySem.Challenge.pw_xm0407_01
noncomputable def vb : { b : List Stmt // b.map some = [1, 2, 3, 4, 5, 6, 7, 8, 9, 10, 11, 12, 14, 15, 16, 17, 18, 19, 20, 22, 23, 24, 25, 26, 27, 29, 30, 31, 32, 33, 34, 35, 37, 38, 39, 40, 41].map (prg.main.body[·]?) } := ⟨_ :: _ :: _ :: _ :: _ :: _ :: _ :: _ :: _ :: _ :: _ :: _ :: _ :: _ :: _ :: _ :: _ :: _ :: _ :: _ :: _ :: _ :: _ :: _ :: _ :: _ :: _ :: _ :: _ :: _ :: _ :: _ :: _ :: _ :: _ :: _ :: _ :: [], rfl⟩
noncomputable def vq : Program := { prg with main := { prg.main with body := vb.1 } }
noncomputable def goT (f : SharedT → Thread → Option (SharedT × Thread)) (ok : Thread → Bool) : Nat → SharedT → Thread → Option SharedT
  | 0, _, _ => none
  | n + 1, s, t => match through t with
    | true => some s
    | false => match ok t with
      | false => none
      | true => match f s t with
        | some (s', t') => goT f ok n s' t'
        | none => none
theorem goT_run {tb : String → Option Builtin} {p : Program} {w : World} {n₀ : Nat} {ann : Option Value} : ∀ {n : Nat} {s s' : SharedT} {t : Thread}, goT (stepT (denote tb) p w) (stepOk n₀ ann) n s t = some s' → topRun tb p w n₀ ann n s.abs t = some s'.abs
  | 0, _, _, _, h => by cases h
  | n + 1, s, s', t, h => by
    unfold goT at h
    unfold topRun
    cases ht : through t with
    | true => rw [ht] at h; cases h; rfl
    | false =>
      rw [ht] at h
      cases hk : stepOk n₀ ann t with
      | false => rw [hk] at h; cases h
      | true =>
        rw [hk] at h
        cases hs : stepT (denote tb) p w s t with
        | none => rw [hs] at h; cases h
        | some r => obtain ⟨s₂, t₂⟩ := r; rw [hs] at h; dsimp only; rw [stepT_spec hs]; exact goT_run h
noncomputable def bootT (P : Params) : BT :=
  .node (boot_o_0 P) (.node (boot_o_1 P) (.node (boot_o_3 P) (.node (boot_o_7 P) .nil .nil) .nil) (.node (boot_o_5 P) (.node (boot_o_9 P) .nil .nil) .nil)) (.node (boot_o_2 P) (.node (boot_o_4 P) (.node (boot_o_8 P) .nil .nil) .nil) (.node (boot_o_6 P) (.node (boot_o_10 P) .nil .nil) .nil))
theorem boot_is (P : Params) : absHeap (bootT P) 11 {} = boot_heap P := by kernel_rfl
theorem opened : ∀ w : World, (fencedOpening treeTable prg w 3702).map (fun s => (s.heap, s.gens, s.drawn, s.toks)) = some (boot_heap w.params, Array.mk [], boot_drawn, boot_toks) := boot_open (by kernel_rfl) (by decide) (fun s => by kernel_rfl)
theorem sized : ∀ w : World, ((boot_heap w.params).isNs mainGlobals && (Array.mk ([] : List GenState)).size == 0, (boot_heap w.params).objs.size, (boot_heap w.params).nsMap mainGlobals "__annotations__") = (true, 11, some (.ref 6)) := fun w => by kernel_rfl
theorem left_of {p q : Program} {loose : List Str} {Xt : Shared → Bool} {α : Type} {Yf : Shared → α} {Ya : World → α} {N : Nat} {g0 : Bool} {H₀ : Params → Heap} {gs₀ : Array GenState} {d₀ : Drawn} {k₀ : Nat} {m₀ : Nat} {ann : Option Value}
    (open_ : ∀ w : World, (fencedOpening treeTable p w N).map (fun s => (s.heap, s.gens, s.drawn, s.toks)) = some (H₀ w.params, gs₀, d₀, k₀))
    (size : ∀ w : World, ((H₀ w.params).isNs mainGlobals && gs₀.size == 0, (H₀ w.params).objs.size, (H₀ w.params).nsMap mainGlobals "__annotations__") = (true, m₀, ann))
    {T : Params → BT} {n : Nat} {life : Life} (hT : ∀ P, absHeap (T P) n life = H₀ P)
    (run : ∀ (w : World) (os : OsState), (goT (stepT (denote treeTable) p w) (stepOk m₀ ann) N ⟨T w.params, n, life, gs₀, d₀, k₀, os⟩ (topStub p)).map (fun s => ((staticsOk (importedModules p.main.body) (H₀ w.params) s.abs.heap && namesBound p s.abs.heap && gensDone s.abs && laidKept (H₀ w.params) s.abs.heap),
        openSeen q loose (importedModules p.main.body) Xt g0 s.abs, Yf s.abs)) = some (true, openGood q loose, Ya w)) : LeftO p q loose Xt Yf Ya N g0 := fun w => by
  obtain ⟨⟨h, gs, d, k, os⟩, e, e'⟩ := Option.map_eq_some_iff.mp (open_ w)
  obtain ⟨rfl, rfl, rfl, rfl⟩ : h = H₀ w.params ∧ gs = gs₀ ∧ d = d₀ ∧ k = k₀ := by simpa using e'
  obtain ⟨z1, z2, z3⟩ : _ ∧ _ ∧ _ := by simpa only [Prod.mk.injEq] using size w
  obtain ⟨s, hs, he⟩ := Option.map_eq_some_iff.mp (run w os)
  have l1 : (staticsOk (importedModules p.main.body) (H₀ w.params) s.abs.heap && namesBound p s.abs.heap && gensDone s.abs && laidKept (H₀ w.params) s.abs.heap) = true := congrArg Prod.fst he
  have l2 := congrArg (fun x => x.2.1) he
  have l3 := congrArg (fun x => x.2.2) he
  have r := goT_run hs
  have hab : (SharedT.mk (T w.params) n life gs d k os).abs = ⟨H₀ w.params, gs, d, k, os⟩ := by show Shared.mk (absHeap _ _ _) _ _ _ _ = _; rw [hT]
  rw [hab] at r
  have t : topFrom treeTable p w N ⟨H₀ w.params, gs, d, k, os⟩ = some s.abs := by
    unfold topFrom
    dsimp only
    rw [z1, z2, z3, r]
    show (match staticsOk (importedModules p.main.body) (H₀ w.params) s.abs.heap && namesBound p s.abs.heap && gensDone s.abs && laidKept (H₀ w.params) s.abs.heap with | true => _ | false => _) = _
    rw [l1]
  unfold openEnds
  rw [e]
  show (topFrom treeTable p w N _).map _ = _
  rw [t]
  exact congrArg some (Prod.ext l2 l3)
theorem ran : ∀ (w : World) (os : OsState), (goT (PySem.W.Fast.tw10156331382660048174 (PySem.W.Fast.tw11892475500146522536 PySem.W.Fast.tw14364793385576792824) prg w) (PySem.W.Fast.tw6613529449190102663 11 (some (.ref 6))) 3702 ⟨bootT w.params, 11, {}, Array.mk [], boot_drawn, boot_toks, os⟩ (topStub prg)).map (fun s => ((staticsOk (importedModules prg.main.body) (boot_heap w.params) s.abs.heap && namesBound prg s.abs.heap && gensDone s.abs && laidKept (boot_heap w.params) s.abs.heap),
        PySem.W.Fast.tw4187177175401517315 vq [] (importedModules prg.main.body) (fun s => xlAt vq [] s && recOk [] s) true s.abs, Hook.obs Hook.none s.abs)) = some (true, openGood vq [], Hook.val Hook.none w) := by
  intro w os
  kernel_rfl
theorem left : LeftO prg vq [] (fun s => xlAt vq [] s && recOk [] s) (Hook.obs Hook.none) (Hook.val Hook.none) 3702 :=
  left_of opened sized boot_is fun w os => by
    rw [PySem.W.Fast.te10156331382660048174, PySem.W.Fast.te11892475500146522536, PySem.W.Fast.te14364793385576792824, PySem.W.Fast.te6613529449190102663, PySem.W.Fast.te4187177175401517315]
    exact ran w os
theorem said : PySem.Challenge.rw_xm0407_01.wellSaid = true := (congrFun PySem.W.Fast.te9446332074065402090 _).trans (by kernel_rfl)
theorem fits : (chainsOk vq && opensWell prg && (frees (OpenLaw.row PySem.Challenge.rw_xm0407_01).toRowW && (OpenLaw.row PySem.Challenge.rw_xm0407_01).toRowW.within.isEmpty)) = true := by kernel_rfl
theorem bared : (OpenLaw.row PySem.Challenge.rw_xm0407_01).toRowW.prog.bare := ⟨rfl, rfl, rfl, rfl, rfl, by decide +kernel⟩
theorem promised : (OpenLaw.row PySem.Challenge.rw_xm0407_01).toRowW.promised := by w_witness2
noncomputable def noFrag : Params → Frag := fun _ => []
noncomputable def FreeIn (q : Program) (loose : List Str) (x : Str) : Prop := x ∉ startupNames ∧ x ∉ loose ∧ x ∉ (recsOf q).map (·.name) ∧ x ∉ (litsOf q).map (·.1) ∧ x ∉ (clssOf q loose).map (·.name)
theorem base_of {q : Program} {loose : List Str} {mean : ExcName → Option Value} {mg mb : Str → Option Value} {h : Heap} (T : PyProof.Rows.Top q loose mean mg mb h) (h1 : FreeIn q loose (Str.ofString "len")) (h2 : FreeIn q loose (Str.ofString "min")) (h3 : FreeIn q loose (Str.ofString "range")) (h4 : FreeIn q loose (Str.ofString "enumerate")) : BaseOk mg mb h where
  g := T.g
  b := T.b
  nolimit := T.nolimit
  len := ⟨T.free _ h1.1 h1.2.1 h1.2.2.1 h1.2.2.2.1 h1.2.2.2.2, (T.builtins _ (by decide)).trans rfl⟩
  min := ⟨T.free _ h2.1 h2.2.1 h2.2.2.1 h2.2.2.2.1 h2.2.2.2.2, (T.builtins _ (by decide)).trans rfl⟩
  range := ⟨T.free _ h3.1 h3.2.1 h3.2.2.1 h3.2.2.2.1 h3.2.2.2.2, (T.builtins _ (by decide)).trans rfl⟩
  enumerate := ⟨T.free _ h4.1 h4.2.1 h4.2.2.1 h4.2.2.2.1 h4.2.2.2.2, (T.builtins _ (by decide)).trans rfl⟩
theorem free_len : FreeIn vq (looseW vq []) (Str.ofString "len") := by unfold FreeIn; decide +kernel
theorem free_min : FreeIn vq (looseW vq []) (Str.ofString "min") := by unfold FreeIn; decide +kernel
theorem free_range : FreeIn vq (looseW vq []) (Str.ofString "range") := by unfold FreeIn; decide +kernel
theorem free_enumerate : FreeIn vq (looseW vq []) (Str.ofString "enumerate") := by unfold FreeIn; decide +kernel
theorem baseA {mean : ExcName → Option Value} {mg mb : Str → Option Value} {h : Heap} (T : PyProof.Rows.Top vq (looseW vq []) mean mg mb h) : BaseOk mg mb h := base_of T free_len free_min free_range free_enumerate
theorem recs_at : [0, 1, 2, 3, 4, 5, 6, 7, 8, 9, 10, 11, 12, 13, 14, 15, 16, 17, 18, 19, 20, 21, 22, 23, 24, 25, 26, 27, 28, 29, 30, 31, 32].map (fun k => (recsOf vq)[k]?) = idxs.map (fun i => some (recI i)) := by kernel_rfl
theorem mem_at {α β : Type} {l : List α} {f : β → α} : ∀ {ks : List Nat} {is : List β}, ks.map (fun k => l[k]?) = is.map (fun i => some (f i)) → ∀ i ∈ is, f i ∈ l
  | _, [], _, _, h => by cases h
  | [], _ :: _, e, _, _ => by cases e
  | k :: ks, j :: is, e, i, h => by
    rw [List.map_cons, List.map_cons] at e
    injection e with e1 e2
    rcases List.mem_cons.mp h with rfl | h
    · exact List.mem_of_getElem? e1
    · exact mem_at e2 i h
theorem fnAt_of {mean : ExcName → Option Value} {mg mb : Str → Option Value} {h : Heap} (T : PyProof.Rows.Top vq (looseW vq []) mean mg mb h) : ∀ i, i ∈ idxs → FnAt mg h (recI i) := fun i hi => T.fn _ (mem_at recs_at i hi)
theorem glob1 : namesOk vq (looseW vq []) (namesW vq []) = true := by decide +kernel
theorem glob2 : importsNone vq = true := by decide +kernel
theorem cw : PySem.Challenge.rw_xm0407_01.Holds := by
  w_on
  refine holds_law said fun hs => ?_
  refine holds_open (q := vq) (loose := []) (Xt := fun s => xlAt vq [] s && recOk [] s) (XP := XL vq []) (Yf := Hook.obs Hook.none) (Ya := Hook.val Hook.none) (YP := Hook.says Hook.none) (N := 3702) left (Hook.of Hook.none) (Hook.keeps Hook.none) (fun s e => xl_of s (Bool.and_eq_true_iff.mp e).1) XL.keeps (by rfl) (by rfl) (by rfl) (fun s e => recFacts_of (Bool.and_eq_true_iff.mp e).2) (by rfl) hs fits bared promised ?hc
  clear hs
  intro w s₀ s₁ mg mb G Y fa o pm cd doc dV kV ho hd hcd hD hmg hg args vals as hpre hlay hrd hwl hlo
  have KX : (noFrag w.params).In s₁.heap := fun a o e => nomatch e
  have V := (Ground.X G).2
  have GL := glob_more (Ground.glob G glob1 glob2) V
  refine Ground.open G ?_
  intro T B D TE TW
  clear B D TE TW
  obtain ⟨_, _, M⟩ := bmod_of_top T
  have TA := at_of_top T
  try (obtain ⟨_, _, he, B0⟩ := based_of_top T rfl hmg ho hd; have he' : cd = _ := he; subst he'; clear he)
  clear hmg
  wrow_args hpre hlay hrd hwl hlo
  refine enter_call ?_
  w_top on
  refine codeAny_mono ?_ (fun _ _ g => GoodW.toG g)
  have K0 := below_caller (Top.heap T)
  w_call any ho hd hcd hD T F
  clear hd TA
  k_drop
  conv => arg 3; arg 1; whnf
  refine wpAny_execs_cons ?_
  generalize hQ : (fun (fl : Flow) (s' : Shared) => _) = Q'
  k_steps
  subst hQ
  refine wpAny_mono (law_tail (baseA (by assumption)) (fnAt_of (by assumption)) rfl (by show callerA.depth + 1 + 20 < _; decide) (by show callerA.units + 3 + 4 * 20 + 70 < _; decide) (by assumption) (by assumption) (by assumption) (by assumption) (by assumption) (by assumption) (by simp only [List.length_map, List.length_take]; omega) rfl) ?_ ?_
  · rintro f s' ⟨rfl, hk, ho, hg'⟩
    refine ⟨.inl ⟨_, .bool true, [], rfl, ?_, ?_, ?_, ?_⟩, hk, ho.trans rfl, hg'.trans (by assumption)⟩
    · exact raisesW_false (by wrow_none_raised)
    · exact .bool true
    · wrow_post
    · exact fun _ => ⟨List.nodup_nil, fun a h => by cases h⟩
  · intro e s' h
    exact h.elim
end Mine
theorem PySem.Challenge.cw_xm0407_01_holds : PySem.Challenge.rw_xm0407_01.Holds :=
  Mine.cw
