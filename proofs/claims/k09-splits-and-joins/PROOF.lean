import PyProof.Rows.All
import Wide.All
import OpenK.AllK
import Wide.FinOn
import HandS.ForMost
import HandS.ForExc
import HandS.Zip
import HandS.TupAny
import HandS.TupMul
import HandS.Conv
import HandS.Style
import HandS.SetFor
import HandS.SortInts
import HandS.IsInst
import HandS.Deep
import HandS.Remove
import HandS.Defaults
import HandS.TryMany
import HandS.ExcIs
import KE.KStateDown
import HandS.Flow
import HandS.ExcOwn
import HandS.Head0
import HandS.Head1
import HandS.Head2
import HandS.HeadEnd
import HandS.HeadHook1
import HandS.HeadHook2
import HandS.HeadHook4
import HandS.Words
import PySem.Challenge.RW_servesboth_k09_splits_and_joins
set_option Elab.async false
set_option linter.all false
set_option maxRecDepth 100000
set_option maxHeartbeats 4000000
namespace SB
open PySem PySem.Spec PyProof.Rows L2

/-! ### results, cells, environments -/
inductive Rs (α : Type) where
  | bad | err (c : Nat) (p : Option PyData) | ok (a : α)
def Rs.bind {α β : Type} : Rs α → (α → Rs β) → Rs β
  | .bad, _ => .bad
  | .err c p, _ => .err c p
  | .ok a, f => f a
inductive Cl where
  | d (x : PyData) | own (xs : List PyData)
abbrev Sl := List (Option Cl)
abbrev Frg := PySem.W.Frag

/-! ### the heap without what is owned -/
def hid (O : List Addr) (H : Hp) : Hp := fun a => if a ∈ O then none else H a
theorem hid_out {O : List Addr} {H : Hp} {a : Addr} (h : a ∉ O) : hid O H a = H a := if_neg h
theorem hid_some {O : List Addr} {H : Hp} {a : Addr} {o : HO} (h : hid O H a = some o) : a ∉ O ∧ H a = some o := by
  unfold hid at h
  by_cases e : a ∈ O
  · rw [if_pos e] at h; cases h
  · rw [if_neg e] at h; exact ⟨e, h⟩
theorem hid_mk {O : List Addr} {H : Hp} {a : Addr} {o : HO} (n : a ∉ O) (h : H a = some o) : hid O H a = some o := (hid_out n).trans h
theorem hid_same {O : List Addr} {H H' : Hp} (s : Same H H') : Same (hid O H) (hid O H') := fun _ _ h => let ⟨n, e⟩ := hid_some h; hid_mk n (s _ _ e)
theorem hid_sub {O O' : List Addr} {H : Hp} (s : ∀ p ∈ O', p ∈ O) : Same (hid O H) (hid O' H) := fun _ _ h => let ⟨n, e⟩ := hid_some h; hid_mk (fun z => n (s _ z)) e
theorem hid_le {O : List Addr} {H : Hp} : Same (hid O H) H := fun _ _ h => (hid_some h).2
theorem hid_nil {H : Hp} : Same H (hid [] H) := fun _ _ h => hid_mk (fun z => nomatch z) h
theorem same_new {H : Hp} {p : Addr} {o : HO} (h : H p = none) : Same H (upd H p o) := fun a u e => by
  rw [upd_ne (ne_of_none e h)]; exact e
/-- the owned object at p changes: the rest stands -/
theorem hid_mut {O : List Addr} {H : Hp} {p : Addr} {o : HO} (h : p ∈ O) : Same (hid O H) (hid O (upd H p o)) := fun a u e => by
  obtain ⟨n, e⟩ := hid_some e
  exact hid_mk n (by rw [upd_ne (fun (z : a = p) => n (by rw [z]; exact h))]; exact e)
theorem sqT_mono_ {K : Frg} {H H' : Hp} {a : Addr} {xs : List V} (e : Same H H') (h : SqT K H a xs) : SqT K H' a xs := by
  rcases h with (h | ⟨o, h⟩) | h
  · exact .inl (.inl (e _ _ h))
  · exact .inl (.inr ⟨o, e _ _ h⟩)
  · exact .inr h
/-- a tuple whose object is known, without a dict of its own -/
def Tq (H : Hp) (a : Addr) (xs : List V) : Prop := ∃ o : Obj, H a = some (.frz o (.tup xs)) ∧ o.dict = none
theorem tq_rd {H : Hp} {a : Addr} {xs : List V} (h : Tq H a xs) : Rd H a (.tup xs) := let ⟨o, e, _⟩ := h; .inr ⟨o, e⟩
theorem tq_mono {H H' : Hp} {a : Addr} {xs : List V} (s : Same H H') (h : Tq H a xs) : Tq H' a xs := let ⟨o, e, d⟩ := h; ⟨o, s _ _ e, d⟩
mutual
inductive Dq (H : Hp) : V → PyData → Prop
  | non : Dq H .non .none
  | bl (b : Bool) : Dq H (.bl b) (.bool b)
  | int (i : Int) : Dq H (.int i) (.int i)
  | str (x : Str) : Dq H (.str x) (.str x)
  | lst {a : Addr} {xs : List V} {ds : List PyData} : Rd H a (.lst xs) → DqAll H xs ds → Dq H (.ref a) (.list ds)
  | tup {a : Addr} {xs : List V} {ds : List PyData} : Tq H a xs → DqAll H xs ds → Dq H (.ref a) (.tuple ds)
inductive DqAll (H : Hp) : List V → List PyData → Prop
  | nil : DqAll H [] []
  | cons {v : V} {vs : List V} {d : PyData} {ds : List PyData} : Dq H v d → DqAll H vs ds → DqAll H (v :: vs) (d :: ds)
end
theorem rd_mono {H H' : Hp} {a : Addr} {u : HO} (e : Same H H') (h : Rd H a u) : Rd H' a u := by
  rcases h with h | ⟨o, h⟩
  · exact .inl (e _ _ h)
  · exact .inr ⟨o, e _ _ h⟩
mutual
theorem dp_mono {H H' : Hp} (e : Same H H') : ∀ {d : PyData} {v : V}, Dq H v d → Dq H' v d
  | _, _, .non => .non
  | _, _, .bl b => .bl b
  | _, _, .int i => .int i
  | _, _, .str x => .str x
  | _, _, .lst s a => .lst (rd_mono e s) (dpAll_mono e a)
  | _, _, .tup s a => .tup (tq_mono e s) (dpAll_mono e a)
theorem dpAll_mono {H H' : Hp} (e : Same H H') : ∀ {ds : List PyData} {vs : List V}, DqAll H vs ds → DqAll H' vs ds
  | _, _, .nil => .nil
  | _, _, .cons h t => .cons (dp_mono e h) (dpAll_mono e t)
end
mutual
theorem dq_dp {K : Frg} {H : Hp} : ∀ {d : PyData} {v : V}, Dq H v d → Dp K H v d
  | _, _, .non => .non
  | _, _, .bl b => .bl b
  | _, _, .int i => .int i
  | _, _, .str x => .str x
  | _, _, .lst s a => .lst (.inl s) (dqAll_dp a)
  | _, _, .tup s a => .tup (.inl (tq_rd s)) (dqAll_dp a)
theorem dqAll_dp {K : Frg} {H : Hp} : ∀ {ds : List PyData} {vs : List V}, DqAll H vs ds → DpAll K H vs ds
  | _, _, .nil => .nil
  | _, _, .cons h t => .cons (dq_dp h) (dqAll_dp t)
end
theorem dpAll_len {H : Hp} : ∀ {ds : List PyData} {vs : List V}, DqAll H vs ds → vs.length = ds.length
  | _, _, .nil => rfl
  | _, _, .cons _ t => by rw [List.length_cons, List.length_cons, dpAll_len t]
theorem dpAll_get {H : Hp} : ∀ {ds : List PyData} {vs : List V}, DqAll H vs ds → ∀ {i : Nat} {d : PyData}, ds[i]? = some d → ∃ v, vs[i]? = some v ∧ Dq H v d
  | _, _, .nil, i, d, h => by simp at h
  | _, _, .cons h t, 0, d, e => by
    simp at e; subst e; exact ⟨_, rfl, h⟩
  | _, _, .cons h t, i + 1, d, e => by
    obtain ⟨v, a, b⟩ := dpAll_get t (i := i) (d := d) (by simpa using e)
    exact ⟨v, by simpa using a, b⟩
theorem dpAll_getV {H : Hp} {ds : List PyData} {vs : List V} (h : DqAll H vs ds) {i : Nat} {v : V} (e : vs[i]? = some v) : ∃ d, ds[i]? = some d ∧ Dq H v d := by
  have hl := dpAll_len h
  obtain ⟨hi, _⟩ := List.getElem?_eq_some_iff.mp e
  have hd : ds[i]? = some ds[i] := List.getElem?_eq_getElem (by omega)
  obtain ⟨v', e', q⟩ := dpAll_get h hd
  rw [e] at e'; cases e'
  exact ⟨_, hd, q⟩
theorem dpAll_app {H : Hp} : ∀ {ds es : List PyData} {vs us : List V}, DqAll H vs ds → DqAll H us es → DqAll H (vs ++ us) (ds ++ es)
  | _, _, _, _, .nil, h => h
  | _, _, _, _, .cons h t, k => .cons h (dpAll_app t k)
theorem dpAll_drop {H : Hp} : ∀ (n : Nat) {ds : List PyData} {vs : List V}, DqAll H vs ds → DqAll H (vs.drop n) (ds.drop n)
  | 0, _, _, h => h
  | _ + 1, _, _, .nil => .nil
  | n + 1, _, _, .cons _ t => dpAll_drop n t
theorem dpAll_take {H : Hp} : ∀ (n : Nat) {ds : List PyData} {vs : List V}, DqAll H vs ds → DqAll H (vs.take n) (ds.take n)
  | 0, _, _, _ => .nil
  | _ + 1, _, _, .nil => .nil
  | n + 1, _, _, .cons h t => .cons h (dpAll_take n t)
theorem dpAll_set {H : Hp} {v : V} {d : PyData} (q : Dq H v d) : ∀ (n : Nat) {ds : List PyData} {vs : List V}, DqAll H vs ds → DqAll H (vs.set n v) (ds.set n d)
  | _, _, _, .nil => .nil
  | 0, _, _, .cons _ t => .cons q t
  | n + 1, _, _, .cons h t => .cons h (dpAll_set q n t)
theorem dpAll_erase {H : Hp} : ∀ (n : Nat) {ds : List PyData} {vs : List V}, DqAll H vs ds → DqAll H (vs.eraseIdx n) (ds.eraseIdx n)
  | _, _, _, .nil => .nil
  | 0, _, _, .cons _ t => t
  | n + 1, _, _, .cons h t => .cons h (dpAll_erase n t)
theorem dpAll_rev {H : Hp} {ds : List PyData} {vs : List V} (h : DqAll H vs ds) : DqAll H vs.reverse ds.reverse := by
  induction ds generalizing vs with
  | nil => cases h; exact .nil
  | cons d ds ih =>
    cases h with
    | cons a b =>
      rw [List.reverse_cons, List.reverse_cons]
      exact dpAll_app (ih b) (.cons a .nil)
theorem dpAll_ints {H : Hp} : ∀ (ns : List Int), DqAll H (ns.map V.int) (ns.map PyData.int)
  | [] => .nil
  | n :: ns => .cons (.int n) (dpAll_ints ns)
theorem dpAll_ints_inv {H : Hp} : ∀ {ns : List Int} {vs : List V}, DqAll H vs (ns.map PyData.int) → vs = ns.map V.int
  | [], _, .nil => rfl
  | n :: ns, _, .cons h t => by
    cases h
    rw [dpAll_ints_inv t]
    rfl

/-! ### what an environment is represented by -/
def ClOk (B : Hp) (O : List Addr) (H : Hp) (v : V) : Cl → Prop
  | .d x => Dq (hid O H) v x
  | .own xs => ∃ p vs, v = .ref p ∧ p ∈ O ∧ B p = none ∧ H p = some (.lst vs) ∧ DqAll (hid O H) vs xs
def Cl.isOwn : Cl → Bool
  | .d _ => false
  | .own _ => true
structure Rp (B : Hp) (O0 O : List Addr) (σ : L2.St) (H : Hp) (ρ : Sl) : Prop where
  ex : Same B H
  sub : ∀ p ∈ O0, p ∈ O
  b0 : ∀ p ∈ O0, B p ≠ none
  od : ∀ p ∈ O, H p ≠ none
  len : σ.length = ρ.length
  sl : ∀ (i : Nat) (c : Cl), ρ[i]? = some (some c) → ∃ v, σ[i]? = some (some v) ∧ ClOk B O H v c
  dj : ∀ (i j : Nat) (c c' : Cl), i ≠ j → ρ[i]? = some (some c) → ρ[j]? = some (some c') → c.isOwn = true → c'.isOwn = true → σ[i]? ≠ σ[j]?
theorem ClOk.mono {B : Hp} {O : List Addr} {H H' : Hp} {v : V} {c : Cl} (s : Same H H') (h : ClOk B O H v c) : ClOk B O H' v c := by
  cases c with
  | d x => exact dp_mono (hid_same s) h
  | own xs =>
    obtain ⟨p, vs, e, hp, hb, hh, ha⟩ := h
    exact ⟨p, vs, e, hp, hb, s _ _ hh, dpAll_mono (hid_same s) ha⟩
theorem od_same {O : List Addr} {H H' : Hp} (s : Same H H') (od : ∀ p ∈ O, H p ≠ none) : ∀ p ∈ O, H' p ≠ none := fun p hp z => by
  cases e : H p with
  | none => exact od p hp e
  | some o => rw [s _ _ e] at z; cases z
theorem od_fresh {O : List Addr} {H : Hp} (od : ∀ p ∈ O, H p ≠ none) {q : Addr} (h : H q = none) : q ∉ O := fun z => od q z h
section
variable {B : Hp} {O0 O : List Addr} {σ : L2.St} {H H' : Hp} {ρ : Sl}
theorem Rp.mono (I : Rp B O0 O σ H ρ) (s : Same H H') : Rp B O0 O σ H' ρ :=
  ⟨I.ex.trans s, I.sub, I.b0, od_same s I.od, I.len, fun i c e => let ⟨v, a, b⟩ := I.sl i c e; ⟨v, a, b.mono s⟩, I.dj⟩
theorem Rp.fresh (I : Rp B O0 O σ H ρ) {q : Addr} (h : H q = none) : q ∉ O := od_fresh I.od h
/-- a name is set to a datum -/
theorem Rp.set (I : Rp B O0 O σ H ρ) {i : Nat} {v : V} {x : PyData} (h : Dq (hid O H) v x) : Rp B O0 O (σ.set i (some v)) H (ρ.set i (some (.d x))) := by
  refine ⟨I.ex, I.sub, I.b0, I.od, by rw [List.length_set, List.length_set]; exact I.len, fun j c e => ?_, fun j k c c' hjk hj hk o o' => ?_⟩
  · by_cases hij : i = j
    · subst hij
      by_cases hl : i < ρ.length
      · rw [List.getElem?_set_self hl] at e
        cases e
        exact ⟨v, List.getElem?_set_self (by rw [I.len]; exact hl), h⟩
      · rw [List.getElem?_eq_none (by rw [List.length_set]; omega)] at e; cases e
    · rw [List.getElem?_set_ne hij] at e
      obtain ⟨u, a, b⟩ := I.sl j c e
      exact ⟨u, by rw [List.getElem?_set_ne hij]; exact a, b⟩
  · have nj : i ≠ j := fun z => by
      subst z
      by_cases hl : i < ρ.length
      · rw [List.getElem?_set_self hl] at hj; cases hj; cases o
      · rw [List.getElem?_eq_none (by rw [List.length_set]; omega)] at hj; cases hj
    have nk : i ≠ k := fun z => by
      subst z
      by_cases hl : i < ρ.length
      · rw [List.getElem?_set_self hl] at hk; cases hk; cases o'
      · rw [List.getElem?_eq_none (by rw [List.length_set]; omega)] at hk; cases hk
    rw [List.getElem?_set_ne nj] at hj
    rw [List.getElem?_set_ne nk] at hk
    rw [List.getElem?_set_ne nj, List.getElem?_set_ne nk]
    exact I.dj j k c c' hjk hj hk o o'
/-- a name is set to a new list, owned from now on -/
theorem Rp.setOwn (I : Rp B O0 O σ H ρ) {H1 : Hp} (s : Same H H1) {i : Nat} {p : Addr} {vs : List V} {xs : List PyData} (hp : H p = none) (h1 : H1 p = some (.lst vs)) (ha : DqAll (hid (p :: O) H1) vs xs) :
    Rp B O0 (p :: O) (σ.set i (some (.ref p))) H1 (ρ.set i (some (.own xs))) ∧ Same (hid O H) (hid (p :: O) H1) := by
  have I1 := I.mono s
  have np : p ∉ O := I.fresh hp
  have hs : Same (hid O H) (hid (p :: O) H1) := fun a o e => by
    obtain ⟨n, e⟩ := hid_some e
    refine hid_mk (fun z => ?_) (s _ _ e)
    rcases List.mem_cons.mp z with rfl | z
    · rw [hp] at e; cases e
    · exact n z
  have old : ∀ {v : V} {c : Cl}, ClOk B O H v c → ClOk B (p :: O) H1 v c := fun {v c} h => by
    cases c with
    | d x => exact dp_mono hs h
    | own ys =>
      obtain ⟨q, us, e, hq, hb, hh, ha⟩ := h
      exact ⟨q, us, e, List.mem_cons_of_mem _ hq, hb, s _ _ hh, dpAll_mono hs ha⟩
  have bp : B p = none := I.ex.free hp
  refine ⟨⟨I1.ex, fun q hq => List.mem_cons_of_mem _ (I.sub q hq), I.b0, fun q hq => ?_, by rw [List.length_set, List.length_set]; exact I.len, fun j c e => ?_, fun j k c c' hjk hj hk o o' => ?_⟩, hs⟩
  · rcases List.mem_cons.mp hq with rfl | hq
    · rw [h1]; exact fun z => nomatch z
    · exact I1.od q hq
  · by_cases hij : i = j
    · subst hij
      by_cases hl : i < ρ.length
      · rw [List.getElem?_set_self hl] at e
        cases e
        exact ⟨.ref p, List.getElem?_set_self (by rw [I.len]; exact hl), p, vs, rfl, List.mem_cons_self, bp, h1, ha⟩
      · rw [List.getElem?_eq_none (by rw [List.length_set]; omega)] at e; cases e
    · rw [List.getElem?_set_ne hij] at e
      obtain ⟨u, a, b⟩ := I.sl j c e
      exact ⟨u, by rw [List.getElem?_set_ne hij]; exact a, old b⟩
  · have isref : ∀ {k : Nat} {c : Cl}, ρ[k]? = some (some c) → c.isOwn = true → ∃ q, σ[k]? = some (some (.ref q)) ∧ q ≠ p := fun {k c} e o => by
      obtain ⟨u, a, b⟩ := I.sl k c e
      cases c with
      | d x => cases o
      | own ys =>
        obtain ⟨q, us, e', hq, hb, hh, ha⟩ := b
        subst e'
        exact ⟨q, a, fun z => by subst z; rw [hp] at hh; cases hh⟩
    by_cases nj : i = j
    · subst nj
      by_cases hl : i < ρ.length
      · have hkk : i ≠ k := hjk
        rw [List.getElem?_set_ne hkk] at hk
        obtain ⟨q, a, ne⟩ := isref hk o'
        rw [List.getElem?_set_self (by rw [I.len]; exact hl), List.getElem?_set_ne hkk, a]
        intro z
        cases z
        exact ne rfl
      · rw [List.getElem?_eq_none (by rw [List.length_set]; omega)] at hj; cases hj
    · rw [List.getElem?_set_ne nj] at hj
      by_cases nk : i = k
      · subst nk
        by_cases hl : i < ρ.length
        · obtain ⟨q, a, ne⟩ := isref hj o
          rw [List.getElem?_set_self (by rw [I.len]; exact hl), List.getElem?_set_ne nj, a]
          intro z
          cases z
          exact ne rfl
        · rw [List.getElem?_eq_none (by rw [List.length_set]; omega)] at hk; cases hk
      · rw [List.getElem?_set_ne nk] at hk
        rw [List.getElem?_set_ne nj, List.getElem?_set_ne nk]
        exact I.dj j k c c' hjk hj hk o o'
/-- the owned list of slot i changes -/
theorem Rp.mut (I : Rp B O0 O σ H ρ) {i : Nat} {p : Addr} {vs us : List V} {xs ys : List PyData} (hr : ρ[i]? = some (some (.own xs))) (hs : σ[i]? = some (some (.ref p))) (hp : H p = some (.lst vs)) (hO : p ∈ O) (ha : DqAll (hid O H) us ys) :
    Rp B O0 O σ (upd H p (.lst us)) (ρ.set i (some (.own ys))) ∧ Same (hid O H) (hid O (upd H p (.lst us))) := by
  have hs' : Same (hid O H) (hid O (upd H p (.lst us))) := hid_mut hO
  have hl : i < ρ.length := (List.getElem?_eq_some_iff.mp hr).1
  have bp : B p = none := by
    obtain ⟨v, a, b⟩ := I.sl i _ hr
    rw [hs] at a; cases a
    obtain ⟨q, ws, e, _, hb, _⟩ := b
    cases e; exact hb
  refine ⟨⟨fun a o e => ?_, I.sub, I.b0, fun q hq => ?_, by rw [List.length_set]; exact I.len, fun j c e => ?_, fun j k c c' hjk hj hk o o' => ?_⟩, hs'⟩
  · rw [upd_ne (ne_of_none e bp)]; exact I.ex a o e
  · by_cases e : q = p
    · subst e; rw [upd_same]; exact fun z => nomatch z
    · rw [upd_ne e]; exact I.od q hq
  · by_cases hij : i = j
    · subst hij
      rw [List.getElem?_set_self hl] at e
      cases e
      exact ⟨.ref p, hs, p, us, rfl, hO, bp, upd_same, dpAll_mono hs' ha⟩
    · rw [List.getElem?_set_ne hij] at e
      obtain ⟨u, a, b⟩ := I.sl j c e
      refine ⟨u, a, ?_⟩
      cases c with
      | d x => exact dp_mono hs' b
      | own zs =>
        obtain ⟨q, ws, e', hq, hb, hh, ha'⟩ := b
        have ne : q ≠ p := fun z => by
          subst z
          subst e'
          exact I.dj i j _ _ hij hr e rfl rfl (hs.trans a.symm)
        exact ⟨q, ws, e', hq, hb, by rw [upd_ne ne]; exact hh, dpAll_mono hs' ha'⟩
  · have back : ∀ {k : Nat} {c : Cl}, (ρ.set i (some (.own ys)))[k]? = some (some c) → c.isOwn = true → ∃ c0, ρ[k]? = some (some c0) ∧ c0.isOwn = true := fun {k c} e o => by
      by_cases z : i = k
      · subst z; exact ⟨_, hr, rfl⟩
      · rw [List.getElem?_set_ne z] at e; exact ⟨c, e, o⟩
    obtain ⟨c0, e0, o0⟩ := back hj o
    obtain ⟨c1, e1, o1⟩ := back hk o'
    exact I.dj j k c0 c1 hjk e0 e1 o0 o1
/-- an owned list is owned no more -/
theorem Rp.freeze (I : Rp B O0 O σ H ρ) {i : Nat} {xs : List PyData} (hr : ρ[i]? = some (some (.own xs))) (h0 : ∀ p ∈ O0, B p ≠ none) :
    ∃ O', Rp B O0 O' σ H (ρ.set i (some (.d (.list xs)))) ∧ Same (hid O H) (hid O' H) := by
  obtain ⟨v, hs, p, vs, e, hO, bp, hp, ha⟩ := I.sl i _ hr
  subst e
  have hl : i < ρ.length := (List.getElem?_eq_some_iff.mp hr).1
  have sub : ∀ q ∈ O.filter (fun z => decide (z ≠ p)), q ∈ O := fun q hq => (List.mem_filter.mp hq).1
  have np : p ∉ O.filter (fun z => decide (z ≠ p)) := fun z => by
    have := (List.mem_filter.mp z).2
    simp at this
  have hs' : Same (hid O H) (hid (O.filter (fun z => decide (z ≠ p))) H) := hid_sub sub
  refine ⟨O.filter (fun z => decide (z ≠ p)), ⟨I.ex, fun q hq => List.mem_filter.mpr ⟨I.sub q hq, decide_eq_true fun z => h0 q hq (z ▸ bp)⟩, I.b0, fun q hq => I.od q (sub q hq), by rw [List.length_set]; exact I.len, fun j c e => ?_, fun j k c c' hjk hj hk o o' => ?_⟩, hs'⟩
  · by_cases hij : i = j
    · subst hij
      rw [List.getElem?_set_self hl] at e
      cases e
      exact ⟨.ref p, hs, .lst (Rd.of (hid_mk np hp)) (dpAll_mono hs' ha)⟩
    · rw [List.getElem?_set_ne hij] at e
      obtain ⟨u, a, b⟩ := I.sl j c e
      refine ⟨u, a, ?_⟩
      cases c with
      | d x => exact dp_mono hs' b
      | own zs =>
        obtain ⟨q, ws, e', hq, hb, hh, ha'⟩ := b
        have ne : q ≠ p := fun z => by
          subst z
          subst e'
          exact I.dj i j _ _ hij hr e rfl rfl (hs.trans a.symm)
        exact ⟨q, ws, e', List.mem_filter.mpr ⟨hq, decide_eq_true ne⟩, hb, hh, dpAll_mono hs' ha'⟩
  · have nj : i ≠ j := fun z => by
      subst z
      rw [List.getElem?_set_self hl] at hj; cases hj; cases o
    have nk : i ≠ k := fun z => by
      subst z
      rw [List.getElem?_set_self hl] at hk; cases hk; cases o'
    rw [List.getElem?_set_ne nj] at hj
    rw [List.getElem?_set_ne nk] at hk
    exact I.dj j k c c' hjk hj hk o o'
end
end SB

namespace SB
open PySem PySem.Spec PyProof.Rows L2

/-! ### what is wanted of a result -/
def EO (O : List Addr) (H : Hp) : Option PyData → Option Addr → Prop
  | none, d => d = none
  | some x, d => ∃ dd v, d = some dd ∧ H dd = some (.xd [(("line" : Str), v)]) ∧ Dq (hid O H) v x
theorem EO.sub {O O' : List Addr} {H : Hp} {p : Option PyData} {d : Option Addr} (s : ∀ q ∈ O', q ∈ O) (h : EO O H p d) : EO O' H p d := by
  cases p with
  | none => exact h
  | some x => obtain ⟨dd, v, a, b, c⟩ := h; exact ⟨dd, v, a, b, dp_mono (hid_sub s) c⟩
abbrev Po (α β : Type) := List Addr → Hp → Hp → β → α → Prop
section
variable {α β γ δ : Type}
def OkG (P : Po α β) (W : L2.WX) (cl : Nat → Addr) (O : List Addr) (σ : L2.St) (H : Hp) (r : Rs α) (Q : β → Hp → Prop) : Prop :=
  match r with
  | .bad => False
  | .ok a => ∀ v H', Same H H' → P O H H' v a → Q v H'
  | .err c p => ∀ d H', Same H H' → EO O H' p d → W (.ref (cl c)) d σ H'
def Mon (P : Po α β) : Prop := ∀ O H H1 H' v a, Same H H1 → P O H1 H' v a → P O H H' v a
theorem OkG.mono {P : Po α β} {W : L2.WX} {cl : Nat → Addr} {O : List Addr} {σ : L2.St} {H H1 : Hp} {r : Rs α} {Q : β → Hp → Prop} (m : Mon P) (s : Same H H1) (h : OkG P W cl O σ H r Q) : OkG P W cl O σ H1 r Q := by
  cases r with
  | bad => exact h
  | ok a => exact fun v H' s' p => h v H' (s.trans s') (m _ _ _ _ _ _ s p)
  | err c p => exact fun d H' s' e => h d H' (s.trans s') e
def EvG (P : Po α β) (W : L2.WX) (cl : Nat → Addr) (t : L2.St → Hp → (β → Hp → Prop) → Prop) (f : Sl → Rs α) : Prop :=
  ∀ (B : Hp) (O0 O : List Addr) (σ : L2.St) (H : Hp) (ρ : Sl) (Q : β → Hp → Prop), Rp B O0 O σ H ρ → OkG P W cl O σ H (f ρ) Q → t σ H Q
theorem EvG.go {P1 : Po α β} {P2 : Po γ δ} {W : L2.WX} {cl : Nat → Addr} {t : L2.St → Hp → (β → Hp → Prop) → Prop} {f : Sl → Rs α} (h : EvG P1 W cl t f) (m : Mon P2)
    {B : Hp} {O0 O : List Addr} {σ : L2.St} {H : Hp} {ρ : Sl} (I : Rp B O0 O σ H ρ) {g : α → Rs γ} {Q : δ → Hp → Prop} (hok : OkG P2 W cl O σ H ((f ρ).bind g) Q)
    {Q1 : β → Hp → Prop} (k : ∀ a v H1, f ρ = .ok a → Same H H1 → Rp B O0 O σ H1 ρ → P1 O H H1 v a → OkG P2 W cl O σ H1 (g a) Q → Q1 v H1) : t σ H Q1 := by
  refine h B O0 O σ H ρ Q1 I ?_
  cases e : f ρ with
  | bad => rw [e] at hok; exact hok
  | err c p => rw [e] at hok; exact hok
  | ok a =>
    rw [e] at hok
    exact fun v H1 s p => k a v H1 e s (I.mono s) p (OkG.mono m s hok)
theorem EvG.weak {P P' : Po α β} {W : L2.WX} {cl : Nat → Addr} {t : L2.St → Hp → (β → Hp → Prop) → Prop} {f : Sl → Rs α} (h : EvG P W cl t f)
    (w : ∀ O H H' v a, (∀ p ∈ O, H p ≠ none) → Same H H' → P O H H' v a → P' O H H' v a) : EvG P' W cl t f := fun B O0 O σ H ρ Q I ok => by
  refine h B O0 O σ H ρ Q I ?_
  cases e : f ρ with
  | bad => rw [e] at ok; exact ok
  | err c p => rw [e] at ok; exact ok
  | ok a => rw [e] at ok; exact fun v H' s p => ok v H' s (w _ _ _ _ _ I.od s p)
end
def pD : Po PyData V := fun O _ H' v d => Dq (hid O H') v d
def RdV (O : List Addr) (H : Hp) (v : V) (d : PyData) : Prop := Dq (hid O H) v d ∨ ∃ p vs ds, v = .ref p ∧ d = .list ds ∧ Rd H p (.lst vs) ∧ DqAll (hid O H) vs ds
def pR : Po PyData V := fun O _ H' v d => RdV O H' v d
def pL : Po PyData V := fun O H H' v d => ∃ p vs ds, v = .ref p ∧ d = .list ds ∧ H p = none ∧ H' p = some (.lst vs) ∧ DqAll (hid (p :: O) H') vs ds
def pF : Po PyData V := fun O H H' v d => Dq (hid O H') v d ∧ ∀ ds, d = .list ds → pL O H H' v d
def pA : Po (List PyData) (List V) := fun O _ H' vs ds => DqAll (hid O H') vs ds
def pB : Po Bool Bool := fun _ _ _ b c => b = c
def pI : Po (Option Int) (Option Int) := fun _ _ _ b c => b = c
theorem mD : Mon pD := fun _ _ _ _ _ _ _ p => p
theorem mR : Mon pR := fun _ _ _ _ _ _ _ p => p
theorem mA : Mon pA := fun _ _ _ _ _ _ _ p => p
theorem mB : Mon pB := fun _ _ _ _ _ _ _ p => p
theorem mI : Mon pI := fun _ _ _ _ _ _ _ p => p
theorem mL : Mon pL := fun _ _ _ _ _ _ s p => let ⟨a, vs, ds, e1, e2, h, h', q⟩ := p; ⟨a, vs, ds, e1, e2, s.free h, h', q⟩
theorem mF : Mon pF := fun O H H1 H' v d s p => ⟨p.1, fun ds e => mL O H H1 H' v d s (p.2 ds e)⟩
theorem pL_pD {O : List Addr} {H H' : Hp} {v : V} {d : PyData} (od : ∀ p ∈ O, H p ≠ none) (h : pL O H H' v d) : Dq (hid O H') v d := by
  obtain ⟨p, vs, ds, rfl, rfl, hn, h', q⟩ := h
  exact .lst (Rd.of (hid_mk (od_fresh od hn) h')) (dpAll_mono (hid_sub fun _ z => List.mem_cons_of_mem _ z) q)
theorem pL_pF {O : List Addr} {H H' : Hp} {v : V} {d : PyData} (od : ∀ p ∈ O, H p ≠ none) (h : pL O H H' v d) : pF O H H' v d := ⟨pL_pD od h, fun _ _ => h⟩
theorem RdV.up {O : List Addr} {H H' : Hp} {v : V} {d : PyData} (s : Same H H') (h : RdV O H v d) : RdV O H' v d := by
  rcases h with h | ⟨p, vs, ds, a, b, c, e⟩
  · exact .inl (dp_mono (hid_same s) h)
  · exact .inr ⟨p, vs, ds, a, b, rd_mono s c, dpAll_mono (hid_same s) e⟩

/-! ### reading data -/
section
variable {O : List Addr} {H : Hp} {v : V}
theorem rd_int {i : Int} (h : RdV O H v (.int i)) : v = .int i := by
  rcases h with h | ⟨p, vs, ds, a, b, c, e⟩
  · cases h; rfl
  · cases b
theorem rd_bl {i : Bool} (h : RdV O H v (.bool i)) : v = .bl i := by
  rcases h with h | ⟨p, vs, ds, a, b, c, e⟩
  · cases h; rfl
  · cases b
theorem rd_str {i : Str} (h : RdV O H v (.str i)) : v = .str i := by
  rcases h with h | ⟨p, vs, ds, a, b, c, e⟩
  · cases h; rfl
  · cases b
theorem rd_non (h : RdV O H v .none) : v = .non := by
  rcases h with h | ⟨p, vs, ds, a, b, c, e⟩
  · cases h; rfl
  · cases b
theorem rd_tup {ds : List PyData} (h : RdV O H v (.tuple ds)) : ∃ p vs, v = .ref p ∧ Tq (hid O H) p vs ∧ DqAll (hid O H) vs ds := by
  rcases h with h | ⟨p, vs, es, a, b, c, e⟩
  · cases h with
    | tup s a => exact ⟨_, _, rfl, s, a⟩
  · cases b
theorem rd_lst {ds : List PyData} (h : RdV O H v (.list ds)) : ∃ p vs, v = .ref p ∧ Rd H p (.lst vs) ∧ DqAll (hid O H) vs ds := by
  rcases h with h | ⟨p, vs, es, a, b, c, e⟩
  · cases h with
    | lst s a => exact ⟨_, _, rfl, rd_mono hid_le s, a⟩
  · cases b; exact ⟨p, vs, a, c, e⟩
theorem RdV.dq {d : PyData} (h : RdV O H v d) : Dq H v d := by
  rcases h with h | ⟨p, vs, es, a, b, c, e⟩
  · exact dp_mono hid_le h
  · subst a; subst b; exact .lst c (dpAll_mono hid_le e)
theorem rd_dict {kv : List (PyData × PyData)} (h : RdV O H v (.dict kv)) : False := by
  rcases h with h | ⟨p, vs, es, a, b, c, e⟩
  · cases h
  · cases b
end
theorem sqT_rd {K : Frg} {H : Hp} {p : Addr} {vs : List V} (h : Rd H p (.tup vs)) : SqT K H p vs := .inl h
theorem sqT_tq {K : Frg} {H : Hp} {p : Addr} {vs : List V} (h : Tq H p vs) : SqT K H p vs := .inl (tq_rd h)
theorem sqL_rd {K : Frg} {H : Hp} {p : Addr} {vs : List V} (h : Rd H p (.lst vs)) : SqL K H p vs := .inl h
/-- a new tuple -/
theorem new_tup {O : List Addr} {H : Hp} {p : Addr} {ob : Obj} {vs : List V} {ds : List PyData} (od : ∀ q ∈ O, H q ≠ none) (hp : H p = none) (hd : ob.dict = none) (ha : DqAll (hid O H) vs ds) : Dq (hid O (upd H p (.frz ob (.tup vs)))) (.ref p) (.tuple ds) :=
  .tup ⟨ob, hid_mk (od_fresh od hp) upd_same, hd⟩ (dpAll_mono (hid_same (same_new hp)) ha)
theorem newF_tup {O : List Addr} {H : Hp} {p : Addr} {ob : Obj} {vs : List V} {ds : List PyData} (od : ∀ q ∈ O, H q ≠ none) (hp : H p = none) (hd : ob.dict = none) (ha : DqAll (hid O H) vs ds) : pF O H (upd H p (.frz ob (.tup vs))) (.ref p) (.tuple ds) :=
  ⟨new_tup od hp hd ha, fun _ e => nomatch e⟩
/-- a pair that a walk has made -/
def Dw (O : List Addr) (H : Hp) (v : V) (d : PyData) : Prop := ∃ p xs ds, v = .ref p ∧ d = .tuple ds ∧ Rd (hid O H) p (.tup xs) ∧ DqAll (hid O H) xs ds
def Ds (O : List Addr) (H : Hp) (v : V) (d : PyData) : Prop := Dq (hid O H) v d
/-- a display -/
def tTupF (t : TA) : TE := fun σ H Q => t σ H fun xs H1 => xs.length ≤ sizeLine ∧ ∀ (p : Addr) (o : Obj), H1 p = none → o.dict = none → Q (.ref p) (upd H1 p (.frz o (.tup xs)))
theorem pe_tupF {X : Cx} {es : List Expr} {t : TA} {pos : Pos} {x1} (h : PA X es t) : PE X (.Tuple es x1 pos) (tTupF t) := by
  refine ⟨fun pins s σ H Q I hq => ?_⟩
  refine wpAny_Tuple_spliced (thn (h.run pos pins s σ H _ I hq) fun us s1 ⟨xs, H1, I1, r, z, q⟩ => ⟨by rw [← r.length]; exact z, ?_⟩)
  have hf : H1 s1.heap.objs.size = none := I1.hok.fresh (Nat.le_refl _)
  refine ⟨.ref s1.heap.objs.size, upd H1 s1.heap.objs.size (.frz { cls := .type "tuple", data := .seq us.toArray } (.tup xs)), I1.laid (t' := s1.toks) (fun b u e => Heap.get?_push_of_some _ e) (Nat.le_refl _) ?_, rfl, q _ _ hf rfl⟩
  exact ⟨Heap.get?_push_size _ rfl, z, us, r, ⟨_, Heap.get?_push_size _ rfl, rfl, _, rfl⟩⟩
/-- a new list -/
theorem newL {O : List Addr} {H : Hp} {p : Addr} {vs : List V} {ds : List PyData} (hp : H p = none) (ha : DqAll (hid O H) vs ds) : pL O H (upd H p (.lst vs)) (.ref p) (.list ds) := by
  refine ⟨p, vs, ds, rfl, rfl, hp, upd_same, dpAll_mono (fun a o e => ?_) ha⟩
  obtain ⟨n, e⟩ := hid_some e
  have ne : a ≠ p := ne_of_none e hp
  exact hid_mk (fun z => (List.mem_cons.mp z).elim ne n) (by rw [upd_ne ne]; exact e)
theorem newF {O : List Addr} {H : Hp} {p : Addr} {vs : List V} {ds : List PyData} (od : ∀ q ∈ O, H q ≠ none) (hp : H p = none) (ha : DqAll (hid O H) vs ds) : pF O H (upd H p (.lst vs)) (.ref p) (.list ds) := pL_pF od (newL hp ha)

/-! ### the judgements -/
structure DX (P : Po PyData V) (X : Cx) (W : L2.WX) (cl : Nat → Addr) (e : Expr) (t : TE) (f : Sl → Rs PyData) : Prop where
  pe : PE X e t
  ev : EvG P W cl t f
structure DT (X : Cx) (W : L2.WX) (cl : Nat → Addr) (e : Expr) (t : TT) (f : Sl → Rs Bool) : Prop where
  pt : PT X e t
  ev : EvG pB W cl t f
structure DW (X : Cx) (W : L2.WX) (cl : Nat → Addr) (e : Expr) (t : TT) (f : Sl → Rs Bool) : Prop where
  pw : PW X e t
  ev : EvG pB W cl t f
structure DA (X : Cx) (W : L2.WX) (cl : Nat → Addr) (es : List Expr) (t : TA) (f : Sl → Rs (List PyData)) : Prop where
  pa : PA X es t
  ev : EvG pA W cl t f
section
variable {X : Cx} {W : L2.WX} {cl : Nat → Addr}
theorem DX.fd {e : Expr} {t : TE} {f : Sl → Rs PyData} (h : DX pF X W cl e t f) : DX pD X W cl e t f := ⟨h.pe, h.ev.weak fun _ _ _ _ _ _ _ p => p.1⟩
theorem DX.dr {e : Expr} {t : TE} {f : Sl → Rs PyData} (h : DX pD X W cl e t f) : DX pR X W cl e t f := ⟨h.pe, h.ev.weak fun _ _ _ _ _ _ _ p => .inl p⟩
theorem DX.fr {e : Expr} {t : TE} {f : Sl → Rs PyData} (h : DX pF X W cl e t f) : DX pR X W cl e t f := h.fd.dr
/-! #### names and constants -/
def gVar (i : Nat) : Sl → Rs PyData := fun ρ => match ρ[i]? with
  | some (some (.d x)) => .ok x
  | _ => .bad
def gVarR (i : Nat) : Sl → Rs PyData := fun ρ => match ρ[i]? with
  | some (some (.d x)) => .ok x
  | some (some (.own xs)) => .ok (.list xs)
  | _ => .bad
def gC (d : PyData) : Sl → Rs PyData := fun _ => .ok d
theorem ev_var (i : Nat) : EvG pD W cl (tVar i) (gVar i) := fun B O0 O σ H ρ Q I ok => by
  unfold gVar at ok
  split at ok
  · rename_i x e
    obtain ⟨v, hv, hd⟩ := I.sl i _ e
    exact ⟨v, hv, ok v H (Same.refl H) hd⟩
  · exact False.elim ok
theorem ev_varR (i : Nat) : EvG pR W cl (tVar i) (gVarR i) := fun B O0 O σ H ρ Q I ok => by
  unfold gVarR at ok
  split at ok
  · rename_i x e
    obtain ⟨v, hv, hd⟩ := I.sl i _ e
    exact ⟨v, hv, ok v H (Same.refl H) (.inl hd)⟩
  · rename_i xs e
    obtain ⟨v, hv, p, vs, rfl, hO, bp, hp, ha⟩ := I.sl i _ e
    exact ⟨.ref p, hv, ok _ H (Same.refl H) (.inr ⟨p, vs, xs, rfl, rfl, Rd.of hp, ha⟩)⟩
  · exact False.elim ok
theorem dv (i : Nat) {x : Str} {pos : Pos} (hN : X.N[i]? = some x := by rfl) (hv : Vis X.env.scope x := by first | exact Or.inl rfl | exact Or.inr (Or.inl rfl) | exact Or.inr (Or.inr rfl)) (hd : (x == ("__debug__" : Str)) = false := by decide)
    (hcd : (x == ("__classdict__" : Str)) = false := by decide) : DX pD X W cl (.Name x pos) (tVar i) (gVar i) := ⟨pe_var hN hv hd hcd, ev_var i⟩
theorem dvR (i : Nat) {x : Str} {pos : Pos} (hN : X.N[i]? = some x := by rfl) (hv : Vis X.env.scope x := by first | exact Or.inl rfl | exact Or.inr (Or.inl rfl) | exact Or.inr (Or.inr rfl)) (hd : (x == ("__debug__" : Str)) = false := by decide)
    (hcd : (x == ("__classdict__" : Str)) = false := by decide) : DX pR X W cl (.Name x pos) (tVar i) (gVarR i) := ⟨pe_var hN hv hd hcd, ev_varR i⟩
theorem ev_c {v : V} {d : PyData} (h : ∀ H, Dq H v d) (hn : ∀ ds, d ≠ .list ds) : EvG pF W cl (tC v) (gC d) := fun B O0 O σ H ρ Q I ok => ok v H (Same.refl H) ⟨h _, fun ds e => (hn ds e).elim⟩
theorem d_int {i j pos} : DX pF X W cl (.Constant (.int i) j pos) (tC (.int i)) (gC (.int i)) := ⟨pe_int, ev_c (fun _ => .int i) (fun _ e => nomatch e)⟩
theorem d_bl {b j pos} : DX pF X W cl (.Constant (.bool b) j pos) (tC (.bl b)) (gC (.bool b)) := ⟨pe_bl, ev_c (fun _ => .bl b) (fun _ e => nomatch e)⟩
theorem d_non {j pos} : DX pF X W cl (.Constant .none j pos) (tC .non) (gC .none) := ⟨pe_non, ev_c (fun _ => .non) (fun _ e => nomatch e)⟩
theorem d_str {x j pos} : DX pF X W cl (.Constant (.str x) j pos) (tC (.str x)) (gC (.str x)) := ⟨pe_str, ev_c (fun _ => .str x) (fun _ e => nomatch e)⟩
theorem d_globI {x : Str} {i : Int} {tk : Tok} {pos : Pos} (hg : Gl X x) (hm : X.mg x = some (.int i tk)) (hd : (x == ("__debug__" : Str)) = false := by decide) : DX pF X W cl (.Name x pos) (tC (.int i)) (gC (.int i)) :=
  ⟨pe_glob hg hm ⟨_, rfl⟩ hd, ev_c (fun _ => .int i) (fun _ e => nomatch e)⟩
theorem d_globS {x z : Str} {tk : Tok} {pos : Pos} (hg : Gl X x) (hm : X.mg x = some (.str z tk)) (hd : (x == ("__debug__" : Str)) = false := by decide) : DX pF X W cl (.Name x pos) (tC (.str z)) (gC (.str z)) :=
  ⟨pe_glob hg hm ⟨_, rfl⟩ hd, ev_c (fun _ => .str z) (fun _ e => nomatch e)⟩
/-! #### arguments, displays, calls -/
def aNil : Sl → Rs (List PyData) := fun _ => .ok []
def aCons (f : Sl → Rs PyData) (g : Sl → Rs (List PyData)) : Sl → Rs (List PyData) := fun ρ => (f ρ).bind fun x => (g ρ).bind fun xs => .ok (x :: xs)
theorem da_nil : DA X W cl [] tNil aNil := ⟨pa_nil, fun B O0 O σ H ρ Q I ok => ok [] H (Same.refl H) .nil⟩
theorem da_cons {e : Expr} {es : List Expr} {te : TE} {t : TA} {f : Sl → Rs PyData} {g : Sl → Rs (List PyData)} (ha : DX pD X W cl e te f) (hr : DA X W cl es t g) (hs : starEach (e :: es) X.env = (false, eval e X.env) :: starEach es X.env := by rfl) :
    DA X W cl (e :: es) (tCons te t) (aCons f g) := ⟨pa_cons ha.pe hr.pa hs, fun B O0 O σ H ρ Q I ok =>
  ha.ev.go mA I ok fun x v H1 _ s1 I1 p1 ok1 => hr.ev.go mA I1 ok1 fun xs vs H2 _ s2 I2 p2 ok2 => ok2 _ H2 (Same.refl H2) (.cons (dp_mono (hid_same s2) p1) p2)⟩
def sz : Nat := 100000
theorem sz_le {n : Nat} (h : n ≤ sz) : n ≤ sizeLine := Nat.le_trans h (by decide)
theorem sz_lt {n : Nat} (h : n < sz) : n < sizeLine := Nat.lt_of_lt_of_le h (by decide)
def gTup (g : Sl → Rs (List PyData)) : Sl → Rs PyData := fun ρ => (g ρ).bind fun ds => if ds.length ≤ sz then .ok (.tuple ds) else .bad
def gLst (g : Sl → Rs (List PyData)) : Sl → Rs PyData := fun ρ => (g ρ).bind fun ds => if ds.length ≤ sz then .ok (.list ds) else .bad
theorem okG_if {α β : Type} {P : Po α β} {W : L2.WX} {cl : Nat → Addr} {O : List Addr} {σ : L2.St} {H : Hp} {c : Prop} [Decidable c] {a : α} {Q : β → Hp → Prop} (h : OkG P W cl O σ H (if c then .ok a else .bad) Q) : c ∧ ∀ v H', Same H H' → P O H H' v a → Q v H' := by
  by_cases e : c
  · rw [if_pos e] at h; exact ⟨e, h⟩
  · rw [if_neg e] at h; exact False.elim h
theorem d_tup {es : List Expr} {t : TA} {g : Sl → Rs (List PyData)} {x1 pos} (h : DA X W cl es t g) : DX pF X W cl (.Tuple es x1 pos) (tTupF t) (gTup g) := ⟨pe_tupF h.pa, fun B O0 O σ H ρ Q I ok =>
  h.ev.go mF I ok fun ds vs H1 _ s1 I1 p1 ok1 => by
    obtain ⟨hl, ok1⟩ := okG_if ok1
    exact ⟨by rw [dpAll_len p1]; exact sz_le hl, fun p ob hp hd => ok1 _ _ (same_new hp) (newF_tup I1.od hp hd p1)⟩⟩
theorem d_lst {es : List Expr} {t : TA} {g : Sl → Rs (List PyData)} {pos} (h : DA X W cl es t g) : DX pF X W cl (.List es pos) (tLst t) (gLst g) := ⟨pe_lst h.pa, fun B O0 O σ H ρ Q I ok =>
  h.ev.go mF I ok fun ds vs H1 _ s1 I1 p1 ok1 => by
    obtain ⟨hl, ok1⟩ := okG_if ok1
    exact ⟨by rw [dpAll_len p1]; exact sz_le hl, fun p hp => ok1 _ _ (same_new hp) (newF I1.od hp p1)⟩⟩
end
/-- a def's promise: its data function -/
def FnSp (cl : Nat → Addr) (F : List PyData → Rs PyData) : Sp := fun vs H Q E => ∃ O ds, (∀ p ∈ O, H p ≠ none) ∧ DqAll (hid O H) vs ds ∧ OkG pF (fun cls d _ H' => E cls d H') cl O [] H (F ds) Q
section
variable {X : Cx} {W : L2.WX} {cl : Nat → Addr}
def gCall (F : List PyData → Rs PyData) (g : Sl → Rs (List PyData)) : Sl → Rs PyData := fun ρ => (g ρ).bind F
theorem d_call {F : List PyData → Rs PyData} {k : Nat} {f : Addr} {fd : FuncData} {ps : List Str} {x : Str} {p pos : Pos} {e : Expr} {es : List Expr} {t : TA} {g : Sl → Rs (List PyData)}
    (G : FnOk X.prog X.w X.K X.mg X.base (L2.CX X.prog X.w) k f fd ps (FnSp cl F)) (hr : Room k X.A) (hg : Gl X x) (hm : X.mg x = some (.ref f)) (hk : PySem.W.keepIn X.K (.ref f) = true) (hb : Binds X.K fd ps []) (tk : Takes X W) (ha : DA X W cl (e :: es) t g)
    (hdb : (x == ("__debug__" : Str)) = false := by decide) (he : starEach (e :: es) X.env = (false, eval e X.env) :: starEach es X.env := by rfl) (hpl : (backTo pos (starEach es X.env)).any (·.1) = false := by rfl) :
    DX pF X W cl (.Call (.Name x p) (e :: es) [] pos) (tCallS (FnSp cl F) (WE W) t) (gCall F g) := ⟨pe_callS G hr hg hm hk hb (fun σ => passAt tk σ) ha.pa hdb he hpl, fun B O0 O σ H ρ Q I ok =>
  ha.ev.go mF I ok fun ds vs H1 _ s1 I1 p1 ok1 => by
    refine ⟨O, ds, I1.od, p1, ?_⟩
    revert ok1
    cases F ds with
    | bad => exact fun z => z
    | ok d => exact fun z => z
    | err c q => exact fun z => z⟩
/-! #### operators -/
/-- what a two-place operation on values does to data -/
def OpD (P : Po PyData V) (r : R2) (g : PyData → PyData → Rs PyData) : Prop := ∀ (W : L2.WX) (cl : Nat → Addr) (O : List Addr) (σ : L2.St) (H : Hp) (v u : V) (x y : PyData) (Q : VK), (∀ p ∈ O, H p ≠ none) → RdV O H v x → RdV O H u y → OkG P W cl O σ H (g x y) Q → r v u H Q
def gBin (g : PyData → PyData → Rs PyData) (fa fb : Sl → Rs PyData) : Sl → Rs PyData := fun ρ => (fa ρ).bind fun x => (fb ρ).bind fun y => g x y
theorem ev_op {P : Po PyData V} {r : R2} {g : PyData → PyData → Rs PyData} {ta tb : TE} {fa fb : Sl → Rs PyData} (m : Mon P) (hr : OpD P r g) (ha : EvG pR W cl ta fa) (hb : EvG pR W cl tb fb) : EvG P W cl (tOp r ta tb) (gBin g fa fb) := fun B O0 O σ H ρ Q I ok =>
  ha.go m I ok fun x v H1 _ s1 I1 p1 ok1 => hb.go m I1 ok1 fun y u H2 _ s2 I2 p2 ok2 => hr W cl O σ H2 v u x y Q I2.od (RdV.up s2 p1) p2 ok2
theorem d_op {P : Po PyData V} {op : Operator} {r : R2} {g : PyData → PyData → Rs PyData} {a b : Expr} {pos : Pos} {ta tb : TE} {fa fb : Sl → Rs PyData} (m : Mon P) (ho : OpR X (binaryOp op) r) (hr : OpD P r g) (ha : DX pR X W cl a ta fa) (hb : DX pR X W cl b tb fb) :
    DX P X W cl (.BinOp a op b pos) (tOp r ta tb) (gBin g fa fb) := ⟨pe_op ho ha.pe hb.pe, ev_op m hr ha.ev hb.ev⟩
theorem d_cmp {op : CmpOp} {r : R2} {g : PyData → PyData → Rs PyData} {a b : Expr} {pos : Pos} {ta tb : TE} {fa fb : Sl → Rs PyData} (ho : OpR X (compareOp op) r) (hr : OpD pF r g) (ha : DX pR X W cl a ta fa) (hb : DX pR X W cl b tb fb) (hm : behindInMarks op b = false) :
    DX pF X W cl (.Compare a [op] [b] pos) (tOp r ta tb) (gBin g fa fb) := ⟨pe_cmpR ho ha.pe hb.pe hm, ev_op mF hr ha.ev hb.ev⟩
/-- a value that must be a truth value -/
def asB : PyData → Rs Bool
  | .bool b => .ok b
  | _ => .bad
def gTest (f : Sl → Rs PyData) : Sl → Rs Bool := fun ρ => (f ρ).bind asB
theorem ev_test {P : Po PyData V} {t : TE} {f : Sl → Rs PyData} (hp : ∀ O H H' v d, P O H H' v d → RdV O H' v d) (h : EvG P W cl t f) : EvG pB W cl (tTest t) (gTest f) := fun B O0 O σ H ρ Q I ok =>
  h.go mB I ok fun x v H1 _ s1 I1 p1 ok1 => by
    cases x with
    | bool b => exact ⟨b, rd_bl (hp _ _ _ _ _ p1), ok1 b H1 (Same.refl H1) rfl⟩
    | _ => exact False.elim ok1
theorem pFR : ∀ (O : List Addr) (H H' : Hp) (v : V) (d : PyData), pF O H H' v d → RdV O H' v d := fun _ _ _ _ _ p => .inl p.1
theorem pDR : ∀ (O : List Addr) (H H' : Hp) (v : V) (d : PyData), pD O H H' v d → RdV O H' v d := fun _ _ _ _ _ p => .inl p
theorem dt_cmp {op : CmpOp} {r : R2} {g : PyData → PyData → Rs PyData} {a b : Expr} {pos : Pos} {ta tb : TE} {fa fb : Sl → Rs PyData} (ho : OpR X (compareOp op) r) (hr : OpD pF r g) (ha : DX pR X W cl a ta fa) (hb : DX pR X W cl b tb fb) (hm : behindInMarks op b = false) :
    DT X W cl (.Compare a [op] [b] pos) (tTest (tOp r ta tb)) (gTest (gBin g fa fb)) := ⟨pt_cmpR ho ha.pe hb.pe hm, ev_test pFR (ev_op mF hr ha.ev hb.ev)⟩
/-! #### ints -/
def iOp (h : Int → Int → Rs PyData) : PyData → PyData → Rs PyData
  | .int i, .int j => h i j
  | _, _ => .bad
theorem op_I0 {h : Int → Int → Int} : OpD pF (rI0 fun i j => V.int (h i j)) (iOp fun i j => .ok (.int (h i j))) := fun W cl O σ H v u x y Q od hx hy ok => by
  cases x with
  | int i =>
    cases y with
    | int j => exact ⟨i, j, rd_int hx, rd_int hy, ok _ H (Same.refl H) ⟨.int _, fun _ e => nomatch e⟩⟩
    | _ => exact False.elim ok
  | _ => exact False.elim ok
theorem op_IB {h : Int → Int → Bool} : OpD pF (rI0 fun i j => V.bl (h i j)) (iOp fun i j => .ok (.bool (h i j))) := fun W cl O σ H v u x y Q od hx hy ok => by
  cases x with
  | int i =>
    cases y with
    | int j => exact ⟨i, j, rd_int hx, rd_int hy, ok _ H (Same.refl H) ⟨.bl _, fun _ e => nomatch e⟩⟩
    | _ => exact False.elim ok
  | _ => exact False.elim ok
theorem op_IC {C : Int → Int → Prop} [∀ i j, Decidable (C i j)] {h : Int → Int → Int} : OpD pF (rI C fun i j => V.int (h i j)) (iOp fun i j => if C i j then .ok (.int (h i j)) else .bad) := fun W cl O σ H v u x y Q od hx hy ok => by
  cases x with
  | int i =>
    cases y with
    | int j =>
      obtain ⟨hc, ok⟩ := okG_if ok
      exact ⟨i, j, rd_int hx, rd_int hy, hc, ok _ H (Same.refl H) ⟨.int _, fun _ e => nomatch e⟩⟩
    | _ => exact False.elim ok
  | _ => exact False.elim ok
/-! #### and, or, not, if-expressions -/
def gAnd (f g : Sl → Rs Bool) : Sl → Rs Bool := fun ρ => (f ρ).bind fun b => if b = true then g ρ else .ok false
def gOr (f g : Sl → Rs Bool) : Sl → Rs Bool := fun ρ => (f ρ).bind fun b => if b = true then .ok true else g ρ
def gNot (f : Sl → Rs Bool) : Sl → Rs Bool := fun ρ => (f ρ).bind fun b => .ok (!b)
theorem ev_and {t u : TT} {f g : Sl → Rs Bool} (h1 : EvG pB W cl t f) (h2 : EvG pB W cl u g) : EvG pB W cl (tAnd t u) (gAnd f g) := fun B O0 O σ H ρ Q I ok =>
  h1.go mB I ok fun x v H1 _ s1 I1 p1 ok1 => by
    have e : v = x := p1
    subst e
    cases v with
    | true =>
      show u σ H1 Q
      exact h2 B O0 O σ H1 ρ Q I1 ok1
    | false =>
      show Q false H1
      exact ok1 false H1 (Same.refl H1) rfl
theorem ev_or {t u : TT} {f g : Sl → Rs Bool} (h1 : EvG pB W cl t f) (h2 : EvG pB W cl u g) : EvG pB W cl (tOr t u) (gOr f g) := fun B O0 O σ H ρ Q I ok =>
  h1.go mB I ok fun x v H1 _ s1 I1 p1 ok1 => by
    have e : v = x := p1
    subst e
    cases v with
    | true =>
      show Q true H1
      exact ok1 true H1 (Same.refl H1) rfl
    | false =>
      show u σ H1 Q
      exact h2 B O0 O σ H1 ρ Q I1 ok1
theorem ev_not {t : TT} {f : Sl → Rs Bool} (h1 : EvG pB W cl t f) : EvG pB W cl (tNot t) (gNot f) := fun B O0 O σ H ρ Q I ok =>
  h1.go mB I ok fun x v H1 _ s1 I1 p1 ok1 => by
    have e : v = x := p1
    subst e
    exact ok1 _ H1 (Same.refl H1) rfl
theorem DW.t {e : Expr} {t : TT} {f : Sl → Rs Bool} (h : DW X W cl e t f) : DT X W cl e t f := ⟨h.pw.pt, h.ev⟩
theorem dw_and1 {a : Expr} {pos : Pos} {t : TT} {f : Sl → Rs Bool} (h : DT X W cl a t f) : DW X W cl (.BoolOp .And [a] pos) t f := ⟨pw_and1 h.pt, h.ev⟩
theorem dw_or1 {a : Expr} {pos : Pos} {t : TT} {f : Sl → Rs Bool} (h : DT X W cl a t f) : DW X W cl (.BoolOp .Or [a] pos) t f := ⟨pw_or1 h.pt, h.ev⟩
theorem dw_and {a b : Expr} {rest : List Expr} {pos : Pos} {t u : TT} {f g : Sl → Rs Bool} (h : DT X W cl a t f) (k : DW X W cl (.BoolOp .And (b :: rest) pos) u g) : DW X W cl (.BoolOp .And (a :: b :: rest) pos) (tAnd t u) (gAnd f g) := ⟨pw_and h.pt k.pw, ev_and h.ev k.ev⟩
theorem dw_or {a b : Expr} {rest : List Expr} {pos : Pos} {t u : TT} {f g : Sl → Rs Bool} (h : DT X W cl a t f) (k : DW X W cl (.BoolOp .Or (b :: rest) pos) u g) : DW X W cl (.BoolOp .Or (a :: b :: rest) pos) (tOr t u) (gOr f g) := ⟨pw_or h.pt k.pw, ev_or h.ev k.ev⟩
theorem dt_not {a : Expr} {pos : Pos} {t : TT} {f : Sl → Rs Bool} (h : DT X W cl a t f) : DT X W cl (.UnaryOp .Not a pos) (tNot t) (gNot f) := ⟨pt_not h.pt, ev_not h.ev⟩
def gB (f : Sl → Rs Bool) : Sl → Rs PyData := fun ρ => (f ρ).bind fun b => .ok (.bool b)
/-- x and y, x or y, not x, as values: all of them truth values -/
theorem d_and {P : Po PyData V} {a b : Expr} {rest : List Expr} {pos : Pos} {ta tb : TE} {fa fb : Sl → Rs Bool} (h : DX pF X W cl a ta (gB fa)) (k : DX pF X W cl (.BoolOp .And (b :: rest) pos) tb (gB fb)) : DX pF X W cl (.BoolOp .And (a :: b :: rest) pos) (tAndV ta tb) (gB (gAnd fa fb)) :=
  ⟨pe_and h.pe k.pe, fun B O0 O σ H ρ Q I ok => by
    refine h.ev B O0 O σ H ρ _ I ?_
    unfold gB gAnd at ok
    unfold gB
    revert ok
    cases e : fa ρ with
    | bad => exact fun z => z
    | err c p => exact fun z => z
    | ok x =>
      intro ok v H1 s1 p1
      have ev : v = .bl x := rd_bl (.inl p1.1)
      refine ⟨x, ev, ?_⟩
      cases x with
      | false =>
        show Q (.bl false) H1
        exact ok _ H1 s1 ⟨.bl _, fun _ z => nomatch z⟩
      | true =>
        show tb σ H1 Q
        exact k.ev B O0 O σ H1 ρ Q (I.mono s1) (OkG.mono mF s1 ok)⟩
theorem d_or {a b : Expr} {rest : List Expr} {pos : Pos} {ta tb : TE} {fa fb : Sl → Rs Bool} (h : DX pF X W cl a ta (gB fa)) (k : DX pF X W cl (.BoolOp .Or (b :: rest) pos) tb (gB fb)) : DX pF X W cl (.BoolOp .Or (a :: b :: rest) pos) (tOrV ta tb) (gB (gOr fa fb)) :=
  ⟨pe_or h.pe k.pe, fun B O0 O σ H ρ Q I ok => by
    refine h.ev B O0 O σ H ρ _ I ?_
    unfold gB gOr at ok
    unfold gB
    revert ok
    cases e : fa ρ with
    | bad => exact fun z => z
    | err c p => exact fun z => z
    | ok x =>
      intro ok v H1 s1 p1
      have ev : v = .bl x := rd_bl (.inl p1.1)
      refine ⟨x, ev, ?_⟩
      cases x with
      | true =>
        show Q (.bl true) H1
        exact ok _ H1 s1 ⟨.bl _, fun _ z => nomatch z⟩
      | false =>
        show tb σ H1 Q
        exact k.ev B O0 O σ H1 ρ Q (I.mono s1) (OkG.mono mF s1 ok)⟩
theorem d_one {op} {a : Expr} {pos : Pos} {t : TE} {f : Sl → Rs PyData} (h : DX pF X W cl a t f) : DX pF X W cl (.BoolOp op [a] pos) t f := ⟨pe_one h.pe, h.ev⟩
/-- a value that is a truth value, as such -/
theorem d_asB {a : Expr} {t : TE} {f : Sl → Rs PyData} (h : DX pF X W cl a t f) : DX pF X W cl a t (gB (gTest f)) := ⟨h.pe, fun B O0 O σ H ρ Q I ok => by
  refine h.ev B O0 O σ H ρ Q I ?_
  unfold gB gTest at ok
  revert ok
  cases e : f ρ with
  | bad => exact fun z => z
  | err c p => exact fun z => z
  | ok x =>
    cases x with
    | bool b => exact fun z => z
    | _ => exact fun z => False.elim z⟩
theorem d_notV {a : Expr} {pos : Pos} {ta : TE} {fa : Sl → Rs Bool} (h : DX pF X W cl a ta (gB fa)) : DX pF X W cl (.UnaryOp .Not a pos) (tNotV ta) (gB (gNot fa)) :=
  ⟨pe_not h.pe, fun B O0 O σ H ρ Q I ok => by
    refine h.ev B O0 O σ H ρ _ I ?_
    unfold gB gNot at ok
    unfold gB
    revert ok
    cases e : fa ρ with
    | bad => exact fun z => z
    | err c p => exact fun z => z
    | ok x =>
      intro ok v H1 s1 p1
      exact ⟨x, rd_bl (.inl p1.1), ok _ H1 s1 ⟨.bl _, fun _ z => nomatch z⟩⟩⟩
def gIf (c : Sl → Rs Bool) (f g : Sl → Rs PyData) : Sl → Rs PyData := fun ρ => (c ρ).bind fun b => if b = true then f ρ else g ρ
theorem d_if {P : Po PyData V} {c a b : Expr} {pos : Pos} {tc : TT} {ta tb : TE} {fc : Sl → Rs Bool} {fa fb : Sl → Rs PyData} (m : Mon P) (hc : DT X W cl c tc fc) (ha : DX P X W cl a ta fa) (hb : DX P X W cl b tb fb) : DX P X W cl (.IfExp c a b pos) (tIf tc ta tb) (gIf fc fa fb) :=
  ⟨pe_ifExp hc.pt ha.pe hb.pe, fun B O0 O σ H ρ Q I ok => hc.ev.go m I ok fun x v H1 _ s1 I1 p1 ok1 => by
    have e : v = x := p1
    subst e
    cases v with
    | true =>
      show ta σ H1 Q
      exact ha.ev B O0 O σ H1 ρ Q I1 ok1
    | false =>
      show tb σ H1 Q
      exact hb.ev B O0 O σ H1 ρ Q I1 ok1⟩
/-! #### truth of a value -/
def truth : PyData → Rs Bool
  | .bool b => .ok b
  | .list ds => .ok (!ds.isEmpty)
  | .tuple ds => .ok (!ds.isEmpty)
  | _ => .bad
def gTru (f : Sl → Rs PyData) : Sl → Rs Bool := fun ρ => (f ρ).bind truth
end
end SB

namespace SB
open PySem PySem.Spec PyProof.Rows L2
section
variable {X : Cx} {W : L2.WX} {cl : Nat → Addr}
/-! ### truth; chains -/
def tTruK (K : Frg) (ta : TE) : TT := fun σ H Q => ta σ H fun x H' => ∃ k, TruV K x H' k ∧ Q k H'
theorem isEmpty_dq {H : Hp} {vs : List V} {ds : List PyData} (h : DqAll H vs ds) : (!ds.isEmpty) = !vs.isEmpty := by
  cases h <;> rfl
theorem ev_tru {K : Frg} {t : TE} {f : Sl → Rs PyData} (h : EvG pR W cl t f) : EvG pB W cl (tTruK K t) (gTru f) := fun B O0 O σ H ρ Q I ok =>
  h.go mB I ok fun x v H1 _ s1 I1 p1 ok1 => by
    cases x with
    | bool b =>
      rw [rd_bl p1]
      exact ⟨b, rfl, ok1 b H1 (Same.refl H1) rfl⟩
    | list ds =>
      obtain ⟨p, vs, rfl, hp, ha⟩ := rd_lst p1
      refine ⟨!vs.isEmpty, .inl ⟨vs, sqL_rd hp, rfl⟩, ok1 _ H1 (Same.refl H1) ?_⟩
      exact (isEmpty_dq ha).symm
    | tuple ds =>
      obtain ⟨p, vs, rfl, hp, ha⟩ := rd_tup p1
      refine ⟨!vs.isEmpty, .inr (.inl ⟨vs, sqT_tq (tq_mono hid_le hp), rfl⟩), ok1 _ H1 (Same.refl H1) ?_⟩
      exact (isEmpty_dq ha).symm
    | _ => exact False.elim ok1
theorem dt_tru {a : Expr} {t : TE} {f : Sl → Rs PyData} (h : DX pR X W cl a t f) (he : ∀ whole, isTrue a X.env whole = (do let v ← whole; standAt a.pos; holding [v] (truthy v)) := by intro _; rfl) : DT X W cl a (tTruK X.K t) (gTru f) := ⟨pt_truth h.pe he, ev_tru h.ev⟩
def gChainK (q : Int → Int → Bool) (j : Int) : PyData → Rs PyData
  | .int k => .ok (.bool (q j k))
  | _ => .bad
def gChainJ (p q : Int → Int → Bool) (r : Rs PyData) : PyData → PyData → Rs PyData
  | .int i, .int j => if p i j = true then r.bind (gChainK q j) else .ok (.bool false)
  | _, _ => .bad
def gChain (p q : Int → Int → Bool) (fa fb fc : Sl → Rs PyData) : Sl → Rs PyData := fun ρ => (fa ρ).bind fun x => (fb ρ).bind fun y => gChainJ p q (fc ρ) x y
abbrev rIB (p : Int → Int → Bool) : R2 := rI0 fun i j => .bl (p i j)
theorem ev_chain {p q : Int → Int → Bool} {ta tb tc : TE} {fa fb fc : Sl → Rs PyData} (ha : EvG pR W cl ta fa) (hb : EvG pR W cl tb fb) (hc : EvG pR W cl tc fc) : EvG pF W cl (tChain (rIB p) (rIB q) ta tb tc) (gChain p q fa fb fc) := fun B O0 O σ H ρ Q I ok =>
  ha.go mF I ok fun x v H1 _ s1 I1 p1 ok1 => hb.go mF I1 ok1 fun y u H2 _ s2 I2 p2 ok2 => by
    cases x with
    | int i =>
      cases y with
      | int j =>
        have ev := rd_int p1
        have eu := rd_int p2
        refine ⟨i, j, ev, eu, p i j, rfl, ?_⟩
        have ok2 : OkG pF W cl O σ H2 (if p i j = true then (fc ρ).bind (gChainK q j) else .ok (.bool false)) Q := ok2
        cases hp : p i j with
        | false =>
          rw [hp] at ok2
          show Q (.bl false) H2
          exact ok2 _ H2 (Same.refl H2) ⟨.bl _, fun _ z => nomatch z⟩
        | true =>
          rw [hp, if_pos rfl] at ok2
          show tc σ H2 _
          refine hc.go mF I2 ok2 fun z w H3 _ s3 I3 p3 ok3 => ?_
          cases z with
          | int k => exact ⟨j, k, eu, rd_int p3, ok3 _ H3 (Same.refl H3) ⟨.bl _, fun _ z => nomatch z⟩⟩
          | _ => exact False.elim ok3
      | _ => exact False.elim ok2
    | _ => exact False.elim ok2
theorem d_chain {op op' : CmpOp} {p q : Int → Int → Bool} {a b c : Expr} {pos : Pos} {ta tb tc : TE} {fa fb fc : Sl → Rs PyData} (ho : OpR X (compareOp op) (rIB p)) (ho' : OpR X (compareOp op') (rIB q)) (ha : DX pR X W cl a ta fa) (hb : DX pR X W cl b tb fb) (hc : DX pR X W cl c tc fc)
    (hm : lastMarks [op, op'] [b, c] = false := by with_unfolding_all rfl) : DX pF X W cl (.Compare a [op, op'] [b, c] pos) (tChain (rIB p) (rIB q) ta tb tc) (gChain p q fa fb fc) := ⟨pe_chain ho ho' ha.pe hb.pe hc.pe hm, ev_chain ha.ev hb.ev hc.ev⟩
theorem dt_chain {op op' : CmpOp} {p q : Int → Int → Bool} {a b c : Expr} {pos : Pos} {ta tb tc : TE} {fa fb fc : Sl → Rs PyData} (ho : OpR X (compareOp op) (rIB p)) (ho' : OpR X (compareOp op') (rIB q)) (ha : DX pR X W cl a ta fa) (hb : DX pR X W cl b tb fb) (hc : DX pR X W cl c tc fc)
    (hm : lastMarks [op, op'] [b, c] = false := by with_unfolding_all rfl) : DT X W cl (.Compare a [op, op'] [b, c] pos) (tTest (tChain (rIB p) (rIB q) ta tb tc)) (gTest (gChain p q fa fb fc)) := ⟨pt_chain ho ho' ha.pe hb.pe hc.pe hm, ev_test pFR (ev_chain ha.ev hb.ev hc.ev)⟩
end

/-! ### statements -/
inductive Ot where
  | bad | nx (ρ : Sl) | rt (d : PyData) | er (c : Nat) (p : Option PyData) (ρ : Sl)
def OkS (W : L2.WX) (cl : Nat → Addr) (B : Hp) (O0 O : List Addr) (H : Hp) (o : Ot) (D : Ends) : Prop :=
  match o with
  | .bad => False
  | .nx ρ' => ∀ σ' O' H', Rp B O0 O' σ' H' ρ' → Same (hid O H) (hid O' H') → D.nx σ' H'
  | .rt d => ∀ v H', Same B H' → pF O0 B H' v d → D.rt v H'
  | .er c p ρ' => ∀ σ' O' H' d, Rp B O0 O' σ' H' ρ' → Same (hid O H) (hid O' H') → EO O' H' p d → W (.ref (cl c)) d σ' H'
def EvS (W : L2.WX) (cl : Nat → Addr) (t : TS) (h : Sl → Ot) : Prop := ∀ (B : Hp) (O0 O : List Addr) (σ : L2.St) (H : Hp) (ρ : Sl) (D : Ends), Rp B O0 O σ H ρ → OkS W cl B O0 O H (h ρ) D → t D σ H
structure DS (X : Cx) (W : L2.WX) (cl : Nat → Addr) (st : Stmt) (t : TS) (h : Sl → Ot) : Prop where
  ps : PS X st t
  ev : EvS W cl t h
structure DSs (X : Cx) (W : L2.WX) (cl : Nat → Addr) (st : List Stmt) (t : TS) (h : Sl → Ot) : Prop where
  pss : PSs X st t
  ev : EvS W cl t h
theorem OkS.mono {W : L2.WX} {cl : Nat → Addr} {B : Hp} {O0 O O1 : List Addr} {H H1 : Hp} {o : Ot} {D : Ends} (s : Same (hid O H) (hid O1 H1)) (h : OkS W cl B O0 O H o D) : OkS W cl B O0 O1 H1 o D := by
  cases o with
  | bad => exact h
  | nx ρ => exact fun σ' O' H' I s' => h σ' O' H' I (s.trans s')
  | rt d => exact h
  | er c p ρ => exact fun σ' O' H' d I s' => h σ' O' H' d I (s.trans s')
/-- an expression, then a statement's end -/
def oBind {α : Type} (r : Rs α) (ρ : Sl) (k : α → Ot) : Ot := match r with
  | .bad => .bad
  | .err c p => .er c p ρ
  | .ok a => k a
theorem EvG.goS {α β : Type} {P : Po α β} {W : L2.WX} {cl : Nat → Addr} {t : L2.St → Hp → (β → Hp → Prop) → Prop} {f : Sl → Rs α} (h : EvG P W cl t f) {B : Hp} {O0 O : List Addr} {σ : L2.St} {H : Hp} {ρ : Sl} (I : Rp B O0 O σ H ρ) {k : α → Ot} {D : Ends} (hok : OkS W cl B O0 O H (oBind (f ρ) ρ k) D)
    {Q1 : β → Hp → Prop} (g : ∀ a v H1, f ρ = .ok a → Same H H1 → Rp B O0 O σ H1 ρ → P O H H1 v a → OkS W cl B O0 O H1 (k a) D → Q1 v H1) : t σ H Q1 := by
  refine h B O0 O σ H ρ Q1 I ?_
  cases e : f ρ with
  | bad => rw [e] at hok; exact hok
  | err c p => rw [e] at hok; exact fun d H' s eo => hok σ O H' d (I.mono s) (hid_same s) eo
  | ok a => rw [e] at hok; exact fun v H1 s p => g a v H1 e s (I.mono s) p (OkS.mono (hid_same s) hok)
def sNext : Sl → Ot := fun ρ => .nx ρ
def sSeq (a b : Sl → Ot) : Sl → Ot := fun ρ => match a ρ with
  | .nx ρ' => b ρ'
  | o => o
section
variable {X : Cx} {W : L2.WX} {cl : Nat → Addr}
theorem ev_seq {t u : TS} {a b : Sl → Ot} (h1 : EvS W cl t a) (h2 : EvS W cl u b) : EvS W cl (tSeq t u) (sSeq a b) := fun B O0 O σ H ρ D I ok => by
  show t { D with nx := u D } σ H
  refine h1 B O0 O σ H ρ _ I ?_
  unfold sSeq at ok
  cases e : a ρ with
  | bad => rw [e] at ok; exact ok
  | rt d => rw [e] at ok; exact ok
  | er c p ρ' => rw [e] at ok; exact ok
  | nx ρ' => rw [e] at ok; exact fun σ' O' H' I' s => h2 B O0 O' σ' H' ρ' D I' (OkS.mono s ok)
theorem dss_cons {st : Stmt} {rest : List Stmt} {t u : TS} {a b : Sl → Ot} (h1 : DS X W cl st t a) (h2 : DSs X W cl rest u b) : DSs X W cl (st :: rest) (tSeq t u) (sSeq a b) := ⟨pss_cons h1.ps h2.pss, ev_seq h1.ev h2.ev⟩
theorem dss_one {st : Stmt} {t : TS} {a : Sl → Ot} (h1 : DS X W cl st t a) : DSs X W cl [st] t a := ⟨pss_one h1.ps, h1.ev⟩
theorem dss_nil : DSs X W cl [] tNext sNext := ⟨pss_nil, fun B O0 O σ H ρ D I ok => ok σ O H I (Same.refl _)⟩
theorem ds_pass {pos : Pos} : DS X W cl (.Pass pos) tNext sNext := ⟨ps_pass, fun B O0 O σ H ρ D I ok => ok σ O H I (Same.refl _)⟩
/-- an owned list is owned no more (nothing happens) -/
def frz (i : Nat) (ρ : Sl) : Sl := match ρ[i]? with
  | some (some (.own xs)) => ρ.set i (some (.d (.list xs)))
  | _ => ρ
def sFrz (i : Nat) (h : Sl → Ot) : Sl → Ot := fun ρ => h (frz i ρ)
theorem ev_frz {t : TS} {h : Sl → Ot} (i : Nat) (k : EvS W cl t h) : EvS W cl t (sFrz i h) := fun B O0 O σ H ρ D I ok => by
  unfold sFrz frz at ok
  split at ok
  · rename_i xs e
    obtain ⟨O', I', s⟩ := I.freeze e I.b0
    exact k B O0 O' σ H _ D I' (OkS.mono s ok)
  · exact k B O0 O σ H ρ D I ok
theorem dss_frz {sts : List Stmt} {t : TS} {h : Sl → Ot} (i : Nat) (k : DSs X W cl sts t h) : DSs X W cl sts t (sFrz i h) := ⟨k.pss, ev_frz i k.ev⟩
/-! #### return, expression, if -/
def sRet (f : Sl → Rs PyData) : Sl → Ot := fun ρ => oBind (f ρ) ρ fun d => .rt d
theorem ret_pF {B : Hp} {O0 O : List Addr} {σ : L2.St} {H H' : Hp} {ρ : Sl} {v : V} {d : PyData} (I : Rp B O0 O σ H ρ) (h : pF O H H' v d) : pF O0 B H' v d := by
  refine ⟨dp_mono (hid_sub I.sub) h.1, fun ds e => ?_⟩
  obtain ⟨p, vs, es, e1, e2, hn, h', q⟩ := h.2 ds e
  refine ⟨p, vs, es, e1, e2, I.ex.free hn, h', dpAll_mono (hid_sub fun z hz => ?_) q⟩
  rcases List.mem_cons.mp hz with rfl | hz
  · exact List.mem_cons_self
  · exact List.mem_cons_of_mem _ (I.sub _ hz)
theorem ds_ret {e : Expr} {pos : Pos} {te : TE} {f : Sl → Rs PyData} (he : DX pF X W cl e te f) : DS X W cl (.Return (some e) pos) (tRet te) (sRet f) := ⟨ps_ret he.pe, fun B O0 O σ H ρ D I ok =>
  he.ev.goS I ok fun d v H1 _ s1 I1 p1 ok1 => ok1 v H1 I1.ex (ret_pF I p1)⟩
/-- return of a name whose list is owned, or that holds no list -/
def gVarF (i : Nat) : Sl → Rs PyData := fun ρ => match ρ[i]? with
  | some (some (.own xs)) => .ok (.list xs)
  | some (some (.d (.list _))) => .bad
  | some (some (.d x)) => .ok x
  | _ => .bad
theorem ds_retV (i : Nat) {x : Str} {p pos : Pos} (hN : X.N[i]? = some x := by rfl) (hv : Vis X.env.scope x := by first | exact Or.inl rfl | exact Or.inr (Or.inl rfl) | exact Or.inr (Or.inr rfl)) (hd : (x == ("__debug__" : Str)) = false := by decide)
    (hcd : (x == ("__classdict__" : Str)) = false := by decide) : DS X W cl (.Return (some (.Name x p)) pos) (tRet (tVar i)) (sRet (gVarF i)) := ⟨ps_ret (pe_var hN hv hd hcd), fun B O0 O σ H ρ D I ok => by
  unfold sRet gVarF at ok
  split at ok
  · rename_i xs e
    obtain ⟨v, hv, q, vs, rfl, hO, bp, hp, ha⟩ := I.sl i _ e
    have nq : q ∉ O0 := fun z => I.b0 q z bp
    refine ⟨.ref q, hv, ok _ H I.ex ?_⟩
    have pl : pL O0 B H (.ref q) (.list xs) := ⟨q, vs, xs, rfl, rfl, bp, hp, dpAll_mono (hid_sub fun z hz => by
      rcases List.mem_cons.mp hz with rfl | hz
      · exact hO
      · exact I.sub _ hz) ha⟩
    exact ⟨.lst (Rd.of (hid_mk nq hp)) (dpAll_mono (hid_sub I.sub) ha), fun _ _ => pl⟩
  · exact False.elim ok
  · rename_i y hny e
    obtain ⟨v, hv, hd⟩ := I.sl i _ e
    exact ⟨v, hv, ok v H I.ex ⟨dp_mono (hid_sub I.sub) hd, fun ds z => (hny ds z).elim⟩⟩
  · exact False.elim ok⟩
def sDrop (f : Sl → Rs PyData) : Sl → Ot := fun ρ => oBind (f ρ) ρ fun _ => .nx ρ
theorem ds_expr {P : Po PyData V} {e : Expr} {pos : Pos} {te : TE} {f : Sl → Rs PyData} (he : DX P X W cl e te f) (hs : swapsWith e none pos.line X.env = pure false := by rfl) : DS X W cl (.Expr e pos) (tDrop te) (sDrop f) := ⟨ps_expr he.pe hs, fun B O0 O σ H ρ D I ok =>
  he.ev.goS I ok fun d v H1 _ s1 I1 p1 ok1 => ok1 σ O H1 I1 (Same.refl _)⟩
def sIf (c : Sl → Rs Bool) (a b : Sl → Ot) : Sl → Ot := fun ρ => oBind (c ρ) ρ fun k => if k = true then a ρ else b ρ
theorem ds_if {c : Expr} {a b : List Stmt} {pos : Pos} {tc : TT} {t u : TS} {fc : Sl → Rs Bool} {fa fb : Sl → Ot} (hc : DT X W cl c tc fc) (ha : DSs X W cl a t fa) (hb : DSs X W cl b u fb) : DS X W cl (.If c a b pos) (tIfS tc t u) (sIf fc fa fb) := ⟨ps_if hc.pt ha.pss hb.pss, fun B O0 O σ H ρ D I ok =>
  hc.ev.goS I ok fun k v H1 _ s1 I1 p1 ok1 => by
    have e : v = k := p1
    subst e
    cases v with
    | true =>
      show t D σ H1
      exact ha.ev B O0 O σ H1 ρ D I1 ok1
    | false =>
      show u D σ H1
      exact hb.ev B O0 O σ H1 ρ D I1 ok1⟩
/-! #### assignment -/
def sSet (i : Nat) (f : Sl → Rs PyData) : Sl → Ot := fun ρ => oBind (f ρ) ρ fun d => .nx (ρ.set i (some (.d d)))
theorem ev_set {te : TE} {f : Sl → Rs PyData} (i : Nat) (he : EvG pD W cl te f) : EvS W cl (tAsg te (gName i)) (sSet i f) := fun B O0 O σ H ρ D I ok =>
  he.goS I ok fun d v H1 _ s1 I1 p1 ok1 => ok1 (σ.set i (some v)) O H1 (I1.set p1) (Same.refl _)
theorem ds_set {i : Nat} {x : Str} {e : Expr} {te : TE} {pos pos' : Pos} {f : Sl → Rs PyData} (hN : X.N.Nodup) (hi : X.N[i]? = some x) (hx : Loc X.env.scope x) (he : DX pD X W cl e te f) (hs : swapsWith e (some (.Name x pos')) pos.line X.env = pure false := by rfl)
    (hf : X.fn x = true ∨ X.env.scope.names.lookup x = some .local := by first | exact .inl rfl | exact .inr rfl | assumption) : DS X W cl (.Assign [.Name x pos'] e pos) (tAsg te (gName i)) (sSet i f) := ⟨ps_set hN hi hx he.pe hs hf, ev_set i he.ev⟩
def asL : PyData → Rs (List PyData)
  | .list ds => .ok ds
  | _ => .bad
def sSetO (i : Nat) (f : Sl → Rs PyData) : Sl → Ot := fun ρ => oBind ((f ρ).bind asL) ρ fun ds => .nx (ρ.set i (some (.own ds)))
theorem ev_setO {te : TE} {f : Sl → Rs PyData} (i : Nat) (he : EvG pF W cl te f) : EvS W cl (tAsg te (gName i)) (sSetO i f) := fun B O0 O σ H ρ D I ok => by
  refine he B O0 O σ H ρ _ I ?_
  unfold sSetO at ok
  cases e : f ρ with
  | bad => rw [e] at ok; exact ok
  | err c p => rw [e] at ok; exact fun d H' s eo => ok σ O H' d (I.mono s) (hid_same s) eo
  | ok d =>
    rw [e] at ok
    cases d with
    | list ds =>
      intro v H1 s p
      obtain ⟨q, vs, es, rfl, e2, hn, h', ha⟩ := p.2 ds rfl
      cases e2
      obtain ⟨J, sm⟩ := I.setOwn s (i := i) hn h' ha
      exact ok _ _ _ J sm
    | _ => exact False.elim ok
theorem ds_setO {i : Nat} {x : Str} {e : Expr} {te : TE} {pos pos' : Pos} {f : Sl → Rs PyData} (hN : X.N.Nodup) (hi : X.N[i]? = some x) (hx : Loc X.env.scope x) (he : DX pF X W cl e te f) (hs : swapsWith e (some (.Name x pos')) pos.line X.env = pure false := by rfl)
    (hf : X.fn x = true ∨ X.env.scope.names.lookup x = some .local := by first | exact .inl rfl | exact .inr rfl | assumption) : DS X W cl (.Assign [.Name x pos'] e pos) (tAsg te (gName i)) (sSetO i f) := ⟨ps_set hN hi hx he.pe hs hf, ev_setO i he.ev⟩
/-! #### targets -/
/-- a target by data -/
def OnlyAt (is : List Nat) (σ σ' : L2.St) : Prop := σ'.length = σ.length ∧ ∀ j, j ∉ is → σ'[j]? = σ[j]?
theorem OnlyAt.set {is : List Nat} {σ σ' : L2.St} (h : OnlyAt is σ σ') {i : Nat} (hi : i ∈ is) {v : Option V} : OnlyAt is σ (σ'.set i v) :=
  ⟨by rw [List.length_set]; exact h.1, fun j hj => by rw [List.getElem?_set_ne (fun (z : i = j) => hj (by rw [← z]; exact hi))]; exact h.2 j hj⟩
theorem OnlyAt.refl {is : List Nat} {σ : L2.St} : OnlyAt is σ σ := ⟨rfl, fun _ _ => rfl⟩
def EvT (R : List Addr → Hp → V → PyData → Prop) (is : List Nat) (g : TG) (set : PyData → Sl → Option Sl) : Prop := ∀ (B : Hp) (O0 O : List Addr) (σ : L2.St) (H : Hp) (ρ ρ' : Sl) (v : V) (d : PyData) (Q : L2.St → Hp → Prop), Rp B O0 O σ H ρ → R O H v d → set d ρ = some ρ' → (∀ σ', Rp B O0 O σ' H ρ' → OnlyAt is σ σ' → Q σ' H) → g v σ H Q
def tgN (i : Nat) : PyData → Sl → Option Sl := fun d ρ => some (ρ.set i (some (.d d)))
theorem et_name (i : Nat) : EvT Ds [i] (gName i) (tgN i) := fun B O0 O σ H ρ ρ' v d Q I hd e k => by
  cases e
  exact k _ (I.set hd) (OnlyAt.refl.set List.mem_cons_self)
def tg2 (i j : Nat) : PyData → Sl → Option Sl
  | .tuple [a, b] => fun ρ => some ((ρ.set i (some (.d a))).set j (some (.d b)))
  | _ => fun _ => none
def tg3 (i j k : Nat) : PyData → Sl → Option Sl
  | .tuple [a, b, c] => fun ρ => some (((ρ.set i (some (.d a))).set j (some (.d b))).set k (some (.d c)))
  | _ => fun _ => none
theorem et_2 {K : Frg} (i j : Nat) : EvT Dw [i, j] (L2.gTup K 2 (gCons (gName i) (gCons (gName j) gNil))) (tg2 i j) := fun B O0 O σ H ρ ρ' v d Q I hd e k => by
  unfold tg2 at e
  split at e
  · rename_i a b
    cases e
    obtain ⟨p, xs, ds, rfl, e2, hp, ha⟩ := hd
    cases e2
    cases ha with
    | cons h1 ha =>
      cases ha with
      | cons h2 ha =>
        cases ha
        refine ⟨_, _, rfl, sqT_rd (rd_mono hid_le hp), rfl, _, _, rfl, _, _, rfl, rfl, k _ ((I.set h1).set h2) ((OnlyAt.refl.set (by simp)).set (by simp))⟩
  · cases e
theorem et_3 {K : Frg} (i j l : Nat) : EvT Dw [i, j, l] (L2.gTup K 3 (gCons (gName i) (gCons (gName j) (gCons (gName l) gNil)))) (tg3 i j l) := fun B O0 O σ H ρ ρ' v d Q I hd e k => by
  unfold tg3 at e
  split at e
  · rename_i a b c
    cases e
    obtain ⟨p, xs, ds, rfl, e2, hp, ha⟩ := hd
    cases e2
    cases ha with
    | cons h1 ha =>
      cases ha with
      | cons h2 ha =>
        cases ha with
        | cons h3 ha =>
          cases ha
          refine ⟨_, _, rfl, sqT_rd (rd_mono hid_le hp), rfl, _, _, rfl, _, _, rfl, _, _, rfl, rfl, k _ (((I.set h1).set h2).set h3) (((OnlyAt.refl.set (by simp)).set (by simp)).set (by simp))⟩
  · cases e
theorem ds_dw {O : List Addr} {H : Hp} {v : V} {ds : List PyData} (h : Ds O H v (.tuple ds)) : Dw O H v (.tuple ds) := by
  cases h with
  | tup hp ha => exact ⟨_, _, _, rfl, rfl, tq_rd hp, ha⟩
theorem et_2s {K : Frg} (i j : Nat) : EvT Ds [i, j] (L2.gTup K 2 (gCons (gName i) (gCons (gName j) gNil))) (tg2 i j) := fun B O0 O σ H ρ ρ' v d Q I hd e k => by
  cases d with
  | tuple ds => exact et_2 i j B O0 O σ H ρ ρ' v _ Q I (ds_dw hd) e k
  | _ => cases e
theorem et_3s {K : Frg} (i j l : Nat) : EvT Ds [i, j, l] (L2.gTup K 3 (gCons (gName i) (gCons (gName j) (gCons (gName l) gNil)))) (tg3 i j l) := fun B O0 O σ H ρ ρ' v d Q I hd e k => by
  cases d with
  | tuple ds => exact et_3 i j l B O0 O σ H ρ ρ' v _ Q I (ds_dw hd) e k
  | _ => cases e
/-- a, b = e (one value, a tuple) -/
def sAsg (set : PyData → Sl → Option Sl) (f : Sl → Rs PyData) : Sl → Ot := fun ρ => oBind (f ρ) ρ fun d => match set d ρ with
  | some ρ' => .nx ρ'
  | none => .bad
theorem ev_asg {is : List Nat} {te : TE} {g : TG} {set : PyData → Sl → Option Sl} {f : Sl → Rs PyData} (hg : EvT Ds is g set) (he : EvG pD W cl te f) : EvS W cl (tAsg te g) (sAsg set f) := fun B O0 O σ H ρ D I ok =>
  he.goS I ok fun d v H1 _ s1 I1 p1 ok1 => by
    cases e : set d ρ with
    | none => rw [e] at ok1; exact False.elim ok1
    | some ρ' =>
      rw [e] at ok1
      exact hg B O0 O σ H1 ρ ρ' v d _ I1 p1 e fun σ' I' _ => ok1 σ' O H1 I' (Same.refl _)
theorem ds_asg {is : List Nat} {tg e : Expr} {pos : Pos} {te : TE} {g : TG} {set : PyData → Sl → Option Sl} {f : Sl → Rs PyData} (he : DX pD X W cl e te f) (hg : PG X tg g) (ht : EvT Ds is g set) (hs : swapsWithSole [tg] e pos.line X.env = pure false := by rfl) (hw : swappedStores [tg] e X.env = pure none := by rfl)
    (h1 : (assignEach [tg] X.env).map (·.2) = [assign tg X.env] := by rfl) : DS X W cl (.Assign [tg] e pos) (tAsg te g) (sAsg set f) := ⟨ps_asg he.pe hg hs hw h1, ev_asg ht he.ev⟩
end
end SB

namespace SB
open PySem PySem.Spec PyProof.Rows L2
section
variable {X : Cx} {W : L2.WX} {cl : Nat → Addr}
/-! ### a, b = x, y -/
def sPar (i j : Nat) (fa fb : Sl → Rs PyData) : Sl → Ot := fun ρ => oBind (fa ρ) ρ fun x => oBind (fb ρ) ρ fun y => .nx ((ρ.set i (some (.d x))).set j (some (.d y)))
theorem ev_par {ta tb : TE} {fa fb : Sl → Rs PyData} (i j : Nat) (ha : EvG pD W cl ta fa) (hb : EvG pD W cl tb fb) : EvS W cl (tPar i j (tCons ta (tCons tb tNil))) (sPar i j fa fb) := fun B O0 O σ H ρ D I ok =>
  ha.goS I ok fun x v H1 _ s1 I1 p1 ok1 => hb.goS I1 ok1 fun y u H2 _ s2 I2 p2 ok2 => ⟨v, u, rfl, ok2 _ O H2 ((I2.set (dp_mono (hid_same s2) p1)).set p2) (Same.refl _)⟩
theorem ds_par {i j : Nat} {x y : Str} {a b : Expr} {ta tb : TE} {px py pt pos : Pos} {kt k2 pt2} {fa fb : Sl → Rs PyData} (hc : X.calm = true) (hN : X.N.Nodup) (hi : X.N[i]? = some x) (hj : X.N[j]? = some y) (hij : i ≠ j)
    (hx : X.env.scope.names.lookup x = some .local) (hy : X.env.scope.names.lookup y = some .local) (ha : DX pD X W cl a ta fa) (hb : DX pD X W cl b tb fb)
    (hw : swappedStores [.Tuple [.Name x px, .Name y py] kt pt] (.Tuple [a, b] k2 pt2) X.env = pure (some [x, y]) := by rfl)
    (hs : swapsWithSole [.Tuple [.Name x px, .Name y py] kt pt] (.Tuple [a, b] k2 pt2) pos.line X.env = pure false := by rfl)
    (h1 : starEach [a, b] X.env = (false, eval a X.env) :: starEach [b] X.env := by rfl) (h2 : starEach [b] X.env = (false, eval b X.env) :: starEach [] X.env := by rfl) :
    DS X W cl (.Assign [.Tuple [.Name x px, .Name y py] kt pt] (.Tuple [a, b] k2 pt2) pos) (tPar i j (tCons ta (tCons tb tNil))) (sPar i j fa fb) :=
  ⟨ps_par hc hN hi hj hij hx hy (pa_cons ha.pe (pa_cons hb.pe pa_nil h2) h1) hw hs, ev_par i j ha.ev hb.ev⟩
/-- both of them new lists, owned -/
def sParO (i j : Nat) (fa fb : Sl → Rs PyData) : Sl → Ot := fun ρ => oBind ((fa ρ).bind asL) ρ fun x => oBind ((fb ρ).bind asL) ρ fun y => .nx ((ρ.set i (some (.own x))).set j (some (.own y)))
theorem Rp.more {B : Hp} {O0 O : List Addr} {σ : L2.St} {H H1 : Hp} {ρ : Sl} (I : Rp B O0 O σ H ρ) (s : Same H H1) {p : Addr} {o : HO} (hp : H p = none) (h1 : H1 p = some o) : Rp B O0 (p :: O) σ H1 ρ ∧ Same (hid O H) (hid (p :: O) H1) := by
  have hs : Same (hid O H) (hid (p :: O) H1) := fun a o e => by
    obtain ⟨n, e⟩ := hid_some e
    refine hid_mk (fun z => ?_) (s _ _ e)
    rcases List.mem_cons.mp z with rfl | z
    · rw [hp] at e; cases e
    · exact n z
  refine ⟨⟨(I.mono s).ex, fun q hq => List.mem_cons_of_mem _ (I.sub q hq), I.b0, fun q hq => ?_, I.len, fun i c e => ?_, I.dj⟩, hs⟩
  · rcases List.mem_cons.mp hq with rfl | hq
    · rw [h1]; exact fun z => nomatch z
    · exact (I.mono s).od q hq
  · obtain ⟨v, a, b⟩ := I.sl i c e
    refine ⟨v, a, ?_⟩
    cases c with
    | d x => exact dp_mono hs b
    | own ys =>
      obtain ⟨q, us, e, hq, hb, hh, ha⟩ := b
      exact ⟨q, us, e, List.mem_cons_of_mem _ hq, hb, s _ _ hh, dpAll_mono hs ha⟩
/-- an owned object stands at p: it is put into the slot i -/
theorem Rp.put {B : Hp} {O0 O : List Addr} {σ : L2.St} {H : Hp} {ρ : Sl} (I : Rp B O0 O σ H ρ) {i : Nat} {p : Addr} {vs : List V} {xs : List PyData} (hO : p ∈ O) (bp : B p = none) (hp : H p = some (.lst vs)) (ha : DqAll (hid O H) vs xs) (hn : ∀ (k : Nat) (c : Cl), ρ[k]? = some (some c) → c.isOwn = true → σ[k]? ≠ some (some (.ref p))) :
    Rp B O0 O (σ.set i (some (.ref p))) H (ρ.set i (some (.own xs))) := by
  refine ⟨I.ex, I.sub, I.b0, I.od, by rw [List.length_set, List.length_set]; exact I.len, fun j c e => ?_, fun j k c c' hjk hj hk o o' => ?_⟩
  · by_cases hij : i = j
    · subst hij
      by_cases hl : i < ρ.length
      · rw [List.getElem?_set_self hl] at e
        cases e
        exact ⟨.ref p, List.getElem?_set_self (by rw [I.len]; exact hl), p, vs, rfl, hO, bp, hp, ha⟩
      · rw [List.getElem?_eq_none (by rw [List.length_set]; omega)] at e; cases e
    · rw [List.getElem?_set_ne hij] at e
      obtain ⟨u, a, b⟩ := I.sl j c e
      exact ⟨u, by rw [List.getElem?_set_ne hij]; exact a, b⟩
  · by_cases nj : i = j
    · subst nj
      by_cases hl : i < ρ.length
      · rw [List.getElem?_set_ne hjk] at hk
        rw [List.getElem?_set_self (by rw [I.len]; exact hl), List.getElem?_set_ne hjk]
        exact fun z => hn k c' hk o' z.symm
      · rw [List.getElem?_eq_none (by rw [List.length_set]; omega)] at hj; cases hj
    · rw [List.getElem?_set_ne nj] at hj
      by_cases nk : i = k
      · subst nk
        by_cases hl : i < ρ.length
        · rw [List.getElem?_set_self (by rw [I.len]; exact hl), List.getElem?_set_ne nj]
          exact fun z => hn j c hj o z
        · rw [List.getElem?_eq_none (by rw [List.length_set]; omega)] at hk; cases hk
      · rw [List.getElem?_set_ne nk] at hk
        rw [List.getElem?_set_ne nj, List.getElem?_set_ne nk]
        exact I.dj j k c c' hjk hj hk o o'
theorem Rp.notAt {B : Hp} {O0 O : List Addr} {σ : L2.St} {H : Hp} {ρ : Sl} (I : Rp B O0 O σ H ρ) {p : Addr} (hp : H p = none) : ∀ (k : Nat) (c : Cl), ρ[k]? = some (some c) → c.isOwn = true → σ[k]? ≠ some (some (.ref p)) := fun k c e o z => by
  obtain ⟨v, a, b⟩ := I.sl k c e
  rw [a] at z; cases z
  cases c with
  | d x => cases o
  | own ys =>
    obtain ⟨q, us, e', hq, hb, hh, ha⟩ := b
    cases e'
    rw [hp] at hh; cases hh
theorem EvG.goO {W : L2.WX} {cl : Nat → Addr} {t : TE} {f : Sl → Rs PyData} (h : EvG pF W cl t f) {B : Hp} {O0 O : List Addr} {σ : L2.St} {H : Hp} {ρ : Sl} (I : Rp B O0 O σ H ρ) {k : List PyData → Ot} {D : Ends} (hok : OkS W cl B O0 O H (oBind ((f ρ).bind asL) ρ k) D)
    {Q1 : VK} (g : ∀ ds p vs H1, Same H H1 → H p = none → H1 p = some (.lst vs) → DqAll (hid (p :: O) H1) vs ds → OkS W cl B O0 O H (k ds) D → Q1 (.ref p) H1) : t σ H Q1 := by
  refine h B O0 O σ H ρ _ I ?_
  cases e : f ρ with
  | bad => rw [e] at hok; exact hok
  | err c p => rw [e] at hok; exact fun d H' s eo => hok σ O H' d (I.mono s) (hid_same s) eo
  | ok d =>
    rw [e] at hok
    cases d with
    | list ds =>
      intro v H1 s p
      obtain ⟨q, vs, es, rfl, e2, hn, h', ha⟩ := p.2 ds rfl
      cases e2
      exact g ds q vs H1 s hn h' ha hok
    | _ => exact False.elim hok
theorem ev_parO {ta tb : TE} {fa fb : Sl → Rs PyData} {i j : Nat} (hij : i ≠ j) (ha : EvG pF W cl ta fa) (hb : EvG pF W cl tb fb) : EvS W cl (tPar i j (tCons ta (tCons tb tNil))) (sParO i j fa fb) := fun B O0 O σ H ρ D I ok =>
  ha.goO I ok fun x p vs H1 s1 hp h1 a1 ok1 => by
    obtain ⟨I1, m1⟩ := I.more s1 hp h1
    refine hb.goO (O := p :: O) I1 (OkS.mono m1 ok1) fun y q us H2 s2 hq h2 a2 ok2 => ?_
    obtain ⟨I2, m2⟩ := I1.more s2 hq h2
    have bp : B p = none := I.ex.free hp
    have bq : B q = none := I1.ex.free hq
    have npq : p ≠ q := ne_of_none h1 hq
    have J1 := I2.put (i := i) (List.mem_cons_of_mem _ List.mem_cons_self) bp (s2 _ _ h1) (dpAll_mono m2 a1) (I.notAt hp)
    refine ⟨_, _, rfl, ok2 _ _ H2 (J1.put (i := j) List.mem_cons_self bq h2 a2 fun k c e o => ?_) m2⟩
    by_cases hk : i = k
    · subst hk
      by_cases hl : i < ρ.length
      · rw [List.getElem?_set_self (by rw [I.len]; exact hl)]
        exact fun z => by cases z; exact npq rfl
      · rw [List.getElem?_eq_none (by rw [List.length_set]; omega)] at e; cases e
    · rw [List.getElem?_set_ne hk] at e ⊢
      exact I1.notAt hq k c e o
theorem ds_parO {i j : Nat} {x y : Str} {a b : Expr} {ta tb : TE} {px py pt pos : Pos} {kt k2 pt2} {fa fb : Sl → Rs PyData} (hc : X.calm = true) (hN : X.N.Nodup) (hi : X.N[i]? = some x) (hj : X.N[j]? = some y) (hij : i ≠ j)
    (hx : X.env.scope.names.lookup x = some .local) (hy : X.env.scope.names.lookup y = some .local) (ha : DX pF X W cl a ta fa) (hb : DX pF X W cl b tb fb)
    (hw : swappedStores [.Tuple [.Name x px, .Name y py] kt pt] (.Tuple [a, b] k2 pt2) X.env = pure (some [x, y]) := by rfl)
    (hs : swapsWithSole [.Tuple [.Name x px, .Name y py] kt pt] (.Tuple [a, b] k2 pt2) pos.line X.env = pure false := by rfl)
    (h1 : starEach [a, b] X.env = (false, eval a X.env) :: starEach [b] X.env := by rfl) (h2 : starEach [b] X.env = (false, eval b X.env) :: starEach [] X.env := by rfl) :
    DS X W cl (.Assign [.Tuple [.Name x px, .Name y py] kt pt] (.Tuple [a, b] k2 pt2) pos) (tPar i j (tCons ta (tCons tb tNil))) (sParO i j fa fb) :=
  ⟨ps_par hc hN hi hj hij hx hy (pa_cons ha.pe (pa_cons hb.pe pa_nil h2) h1) hw hs, ev_parO hij ha.ev hb.ev⟩
/-! ### name += int -/
def asI : PyData → Rs Int
  | .int i => .ok i
  | _ => .bad
def sAug (i : Nat) (h : Int → Int → Int) (f : Sl → Rs PyData) : Sl → Ot := fun ρ => oBind ((gVar i ρ).bind asI) ρ fun x => oBind ((f ρ).bind asI) ρ fun y => .nx (ρ.set i (some (.d (.int (h x y)))))
theorem ev_aug {te : TE} {f : Sl → Rs PyData} {h : Int → Int → Int} (i : Nat) (he : EvG pR W cl te f) : EvS W cl (tAug i te (ipI h)) (sAug i h f) := fun B O0 O σ H ρ D I ok => by
  unfold sAug gVar at ok
  split at ok
  · rename_i x e
    obtain ⟨v, hv, hd⟩ := I.sl i _ e
    cases x with
    | int a =>
      cases hd
      refine ⟨.int a, hv, he B O0 O σ H ρ _ I ?_⟩
      revert ok
      cases e2 : f ρ with
      | bad => exact fun z => z
      | err c p => exact fun ok d H' s eo => ok σ O H' d (I.mono s) (hid_same s) eo
      | ok d =>
        cases d with
        | int b =>
          intro ok u H1 s1 p1
          exact ⟨a, b, rfl, rd_int p1, ok _ O H1 ((I.mono s1).set (.int _)) (hid_same s1)⟩
        | _ => exact fun z => False.elim z
    | _ => exact False.elim ok
  · exact False.elim ok
theorem ds_aug {i : Nat} {x : Str} {e : Expr} {te : TE} {op : Operator} {pos pos' : Pos} {h : Int → Int → Int} {f : Sl → Rs PyData} (hN : X.N.Nodup) (hi : X.N[i]? = some x) (hx : Loc X.env.scope x) (he : DX pR X W cl e te f) (ho : PIp X op (ipI h))
    (hf : X.fn x = true ∨ X.env.scope.names.lookup x = some .local := by first | exact .inl rfl | exact .inr rfl | assumption) : DS X W cl (.AugAssign (.Name x pos') op e pos) (tAug i te (ipI h)) (sAug i h f) := ⟨ps_aug hN hi hx he.pe ho hf, ev_aug i he.ev⟩
/-! ### raise -/
def sRaise (c : Nat) : Sl → Ot := fun ρ => .er c none ρ
theorem ds_raise {c : Nat} {e : Expr} {pos : Pos} (hc : X.calm = true) (tk : Takes X W) (he : PMk X e (fun _ H Q => Q (.ref (cl c)) none H)) : DS X W cl (.Raise (some e) none pos) (fun _ σ H => W (.ref (cl c)) none σ H) (sRaise c) :=
  ⟨ps_raise hc tk he, fun B O0 O σ H ρ D I ok => ok σ O H none I (Same.refl _) rfl⟩
/-! ### what is walked -/
structure ItD (R : List Addr → Hp → V → PyData → Prop) (G : List Addr → Hp → Prop) (J : It) (ds : List PyData) : Prop where
  go : ∀ i O H, G O H → (∀ p ∈ O, H p ≠ none) → i < ds.length → J.go i H
  yld : ∀ i O H x H', G O H → (∀ p ∈ O, H p ≠ none) → J.yld i H x H' → ∀ d, ds[i]? = some d → Same H H' ∧ R O H' x d
  stop : ∀ i O H, G O H → (∀ p ∈ O, H p ≠ none) → ds.length ≤ i → J.stop i H
def Gf (O : List Addr) (H : Hp) : List Addr → Hp → Prop := fun O' H' => Same (hid O H) (hid O' H')
def Gc (O : List Addr) (H : Hp) : List Addr → Hp → Prop := fun O' H' => Same H H' ∧ Same (hid O H) (hid O' H')
theorem ItD.imp {R : List Addr → Hp → V → PyData → Prop} {G G' : List Addr → Hp → Prop} {J : It} {ds : List PyData} (h : ItD R G J ds) (w : ∀ O H, G' O H → G O H) : ItD R G' J ds :=
  ⟨fun i O H g => h.go i O H (w _ _ g), fun i O H x H' g => h.yld i O H x H' (w _ _ g), fun i O H g => h.stop i O H (w _ _ g)⟩
theorem Gc_f {O : List Addr} {H : Hp} : ∀ O' H', Gc O H O' H' → Gf O H O' H' := fun _ _ g => g.2
abbrev RR := List Addr → Hp → V → PyData → Prop
def pIt (R : RR) : Po (List PyData) It := fun O _ H' J ds => ItD R (Gf O H') J ds
def pItC (R : RR) : Po (List PyData) It := fun O _ H' J ds => ItD R (Gc O H') J ds
theorem mIt {R : RR} : Mon (pIt R) := fun _ _ _ _ _ _ _ p => p
theorem mItC {R : RR} : Mon (pItC R) := fun _ _ _ _ _ _ _ p => p
structure DI (P : Po (List PyData) It) (X : Cx) (W : L2.WX) (cl : Nat → Addr) (tg iter : Expr) (w : TI) (f : Sl → Rs (List PyData)) : Prop where
  pi : PI X tg iter w
  ev : EvG P W cl w f
theorem DI.c {R : RR} {tg iter : Expr} {w : TI} {f : Sl → Rs (List PyData)} (h : DI (pIt R) X W cl tg iter w f) : DI (pItC R) X W cl tg iter w f := ⟨h.pi, h.ev.weak fun _ _ _ _ _ _ _ p => p.imp Gc_f⟩
theorem itl_d {K : Frg} {G : List Addr → Hp → Prop} {a : Addr} {vs : List V} {ds : List PyData} (h : ∀ O H, G O H → Rd H a (.lst vs) ∧ DqAll (hid O H) vs ds) : ItD Ds G (Itl K a) ds where
  go := fun i O H g od hi => by
    obtain ⟨r, q⟩ := h O H g
    obtain ⟨v, e, _⟩ := dpAll_get q (List.getElem?_eq_getElem hi)
    exact ⟨vs, v, sqL_rd r, e⟩
  yld := fun i O H x H' g od y d hd => by
    obtain ⟨rfl, y⟩ := y
    obtain ⟨r, q⟩ := h O H' g
    have e := y vs (sqL_rd r)
    obtain ⟨d', e', dq⟩ := dpAll_getV q e
    rw [hd] at e'; cases e'
    exact ⟨Same.refl _, dq⟩
  stop := fun i O H g od hi => by
    obtain ⟨r, q⟩ := h O H g
    exact ⟨vs, sqL_rd r, by rw [dpAll_len q]; exact hi⟩
theorem itt_d {K : Frg} {G : List Addr → Hp → Prop} {a : Addr} {vs : List V} {ds : List PyData} (h : ∀ O H, G O H → Rd H a (.tup vs) ∧ DqAll (hid O H) vs ds) : ItD Ds G (Itt K a) ds where
  go := fun i O H g od hi => by
    obtain ⟨r, q⟩ := h O H g
    obtain ⟨v, e, _⟩ := dpAll_get q (List.getElem?_eq_getElem hi)
    exact ⟨vs, v, sqT_rd r, e⟩
  yld := fun i O H x H' g od y d hd => by
    obtain ⟨rfl, y⟩ := y
    obtain ⟨r, q⟩ := h O H' g
    have e := y vs (sqT_rd r)
    obtain ⟨d', e', dq⟩ := dpAll_getV q e
    rw [hd] at e'; cases e'
    exact ⟨Same.refl _, dq⟩
  stop := fun i O H g od hi => by
    obtain ⟨r, q⟩ := h O H g
    exact ⟨vs, sqT_rd r, by rw [dpAll_len q]; exact hi⟩
def asSeq : PyData → Rs (List PyData)
  | .list ds => .ok ds
  | .tuple ds => .ok ds
  | _ => .bad
def gSeq (f : Sl → Rs PyData) : Sl → Rs (List PyData) := fun ρ => (f ρ).bind asSeq
def iSeq (K : Frg) (tl : TE) : TI := fun σ H R => iList K tl σ H R ∨ iTup K tl σ H R
theorem pi_seq {tg l : Expr} {tl : TE} (hl : PE X l tl) : PI X tg l (iSeq X.K tl) := ⟨fun pins s σ H R I h => by
  rcases h with h | h
  · exact (pi_list hl).run pins s σ H R I h
  · exact (pi_tup hl).run pins s σ H R I h⟩
theorem gf_tq {O O' : List Addr} {H H' : Hp} {a : Addr} {u : List V} (g : Same (hid O H) (hid O' H')) (h : Tq (hid O H) a u) : Rd H' a (.tup u) := tq_rd (tq_mono hid_le (tq_mono g h))
theorem gf_rd {O O' : List Addr} {H H' : Hp} {a : Addr} {u : HO} (g : Same (hid O H) (hid O' H')) (h : Rd (hid O H) a u) : Rd H' a u := rd_mono hid_le (rd_mono g h)
theorem ev_seqI {K : Frg} {tl : TE} {f : Sl → Rs PyData} (h : EvG pD W cl tl f) : EvG (pIt Ds) W cl (iSeq K tl) (gSeq f) := fun B O0 O σ H ρ R I ok => by
  cases e : f ρ with
  | bad => unfold gSeq at ok; rw [e] at ok; exact False.elim ok
  | err c p =>
    refine .inl (h B O0 O σ H ρ _ I ?_)
    unfold gSeq at ok; rw [e] at ok ⊢; exact ok
  | ok d =>
    cases d with
    | list ds =>
      refine .inl (h.go mIt I ok fun x v H1 e1 s1 I1 p1 ok1 => ?_)
      rw [e] at e1; cases e1
      cases p1 with
      | lst hp ha => exact ⟨_, rfl, ⟨_, sqL_rd (rd_mono hid_le hp)⟩, ok1 _ H1 (Same.refl _) (itl_d fun O' H' g => ⟨gf_rd g hp, dpAll_mono g ha⟩)⟩
    | tuple ds =>
      refine .inr (h.go mIt I ok fun x v H1 e1 s1 I1 p1 ok1 => ?_)
      rw [e] at e1; cases e1
      cases p1 with
      | tup hp ha => exact ⟨_, rfl, ⟨_, sqT_tq (tq_mono hid_le hp)⟩, ok1 _ H1 (Same.refl _) (itt_d fun O' H' g => ⟨gf_tq g hp, dpAll_mono g ha⟩)⟩
    | _ => unfold gSeq at ok; rw [e] at ok; exact False.elim ok
end
end SB

namespace SB
open PySem PySem.Spec PyProof.Rows L2 RZ
section
variable {X : Cx} {W : L2.WX} {cl : Nat → Addr}
/-! ### a list that is owned, or any sequence, in a comprehension -/
theorem ev_seqC {K : Frg} {tl : TE} {f : Sl → Rs PyData} (h : EvG pR W cl tl f) : EvG (pItC Ds) W cl (iSeq K tl) (gSeq f) := fun B O0 O σ H ρ R I ok => by
  cases e : f ρ with
  | bad => unfold gSeq at ok; rw [e] at ok; exact False.elim ok
  | err c p =>
    refine .inl (h B O0 O σ H ρ _ I ?_)
    unfold gSeq at ok; rw [e] at ok ⊢; exact ok
  | ok d =>
    cases d with
    | list ds =>
      refine .inl (h.go mItC I ok fun x v H1 e1 s1 I1 p1 ok1 => ?_)
      rw [e] at e1; cases e1
      obtain ⟨p, vs, rfl, hp, ha⟩ := rd_lst p1
      exact ⟨p, rfl, ⟨_, sqL_rd hp⟩, ok1 _ H1 (Same.refl _) (itl_d fun O' H' g => ⟨rd_mono g.1 hp, dpAll_mono g.2 ha⟩)⟩
    | tuple ds =>
      refine .inr (h.go mItC I ok fun x v H1 e1 s1 I1 p1 ok1 => ?_)
      rw [e] at e1; cases e1
      obtain ⟨p, vs, rfl, hp, ha⟩ := rd_tup p1
      exact ⟨p, rfl, ⟨_, sqT_tq (tq_mono hid_le hp)⟩, ok1 _ H1 (Same.refl _) (itt_d fun O' H' g => ⟨tq_rd (tq_mono g.1 (tq_mono hid_le hp)), dpAll_mono g.2 ha⟩)⟩
    | _ => unfold gSeq at ok; rw [e] at ok; exact False.elim ok
theorem di_seq {tg l : Expr} {tl : TE} {f : Sl → Rs PyData} (h : DX pD X W cl l tl f) : DI (pIt Ds) X W cl tg l (iSeq X.K tl) (gSeq f) := ⟨pi_seq h.pe, ev_seqI h.ev⟩
theorem di_seqC {tg l : Expr} {tl : TE} {f : Sl → Rs PyData} (h : DX pR X W cl l tl f) : DI (pItC Ds) X W cl tg l (iSeq X.K tl) (gSeq f) := ⟨pi_seq h.pe, ev_seqC h.ev⟩
/-! ### range -/
def rgD (lo : Int) (n : Nat) : List PyData := (List.range n).map fun i => PyData.int (lo + (i : Nat))
theorem rgD_len (lo : Int) (n : Nat) : (rgD lo n).length = n := by unfold rgD; rw [List.length_map, List.length_range]
theorem rgD_get {lo : Int} {n i : Nat} {d : PyData} (h : (rgD lo n)[i]? = some d) : d = .int (lo + (i : Nat)) := by
  unfold rgD at h
  rw [List.getElem?_map] at h
  obtain ⟨hi, e⟩ : ∃ k, (List.range n)[i]? = some k ∧ PyData.int (lo + (k : Nat)) = d := by
    cases q : (List.range n)[i]? with
    | none => rw [q] at h; cases h
    | some k => rw [q] at h; exact ⟨k, rfl, Option.some.inj h⟩
  obtain ⟨e, e2⟩ := e
  obtain ⟨hl, e⟩ := List.getElem?_eq_some_iff.mp e
  rw [List.getElem_range] at e
  rw [← e2, ← e]
theorem itr_d {G : List Addr → Hp → Prop} {lo : Int} {n : Nat} : ItD Ds G (Itr lo n) (rgD lo n) where
  go := fun i O H g od hi => by rw [rgD_len] at hi; exact hi
  yld := fun i O H x H' g od y d hd => by
    obtain ⟨rfl, rfl⟩ := y
    rw [rgD_get hd]
    exact ⟨Same.refl _, .int _⟩
  stop := fun i O H g od hi => by rw [rgD_len] at hi; exact hi
def big : Int := 1000000000
def rg1 : PyData → Rs (List PyData)
  | .int j => if -big ≤ j ∧ j ≤ big then .ok (rgD 0 j.toNat) else .bad
  | _ => .bad
def rg2 : PyData → PyData → Rs (List PyData)
  | .int i, .int j => if (-big ≤ i ∧ i ≤ big) ∧ (-big ≤ j ∧ j ≤ big) then .ok (rgD i (j - i).toNat) else .bad
  | _, _ => .bad
def gRg1 (f : Sl → Rs PyData) : Sl → Rs (List PyData) := fun ρ => (f ρ).bind rg1
def gRg2 (f g : Sl → Rs PyData) : Sl → Rs (List PyData) := fun ρ => (f ρ).bind fun x => (g ρ).bind fun y => rg2 x y
theorem ev_rg1 {te : TE} {f : Sl → Rs PyData} (h : EvG pR W cl te f) : EvG (pIt Ds) W cl (iRng1 (tCons te tNil)) (gRg1 f) := fun B O0 O σ H ρ R I ok =>
  h.go mIt I ok fun x v H1 _ s1 I1 p1 ok1 => by
    cases x with
    | int j =>
      obtain ⟨hb, ok1⟩ := okG_if ok1
      unfold big at hb
      exact ⟨j, by rw [rd_int p1], by omega, by omega, ok1 _ H1 (Same.refl _) itr_d⟩
    | _ => exact False.elim ok1
theorem ev_rg2 {te tf : TE} {f g : Sl → Rs PyData} (h : EvG pR W cl te f) (k : EvG pR W cl tf g) : EvG (pIt Ds) W cl (iRng2 (tCons te (tCons tf tNil))) (gRg2 f g) := fun B O0 O σ H ρ R I ok =>
  h.go mIt I ok fun x v H1 _ s1 I1 p1 ok1 => k.go mIt I1 ok1 fun y u H2 _ s2 I2 p2 ok2 => by
    cases x with
    | int i =>
      cases y with
      | int j =>
        obtain ⟨hb, ok2⟩ := okG_if ok2
        unfold big at hb
        exact ⟨i, j, by rw [rd_int p1, rd_int p2], ⟨by omega, by omega, by omega, by omega⟩, ok2 _ H2 (Same.refl _) itr_d⟩
      | _ => exact False.elim ok2
    | _ => exact False.elim ok2
theorem di_rg1 {tg a : Expr} {te : TE} {f : Sl → Rs PyData} {p pos : Pos} (hg : Gl X "range") (hm : X.mg "range" = none) (h : DX pR X W cl a te f) (hs : starEach [a] X.env = [(false, eval a X.env)] := by rfl) : DI (pIt Ds) X W cl tg (.Call (.Name "range" p) [a] [] pos) (iRng1 (tCons te tNil)) (gRg1 f) :=
  ⟨pi_range1 hg hm (pa_cons h.pe pa_nil hs) hs, ev_rg1 h.ev⟩
theorem di_rg2 {tg a b : Expr} {te tf : TE} {f g : Sl → Rs PyData} {p pos : Pos} (hg : Gl X "range") (hm : X.mg "range" = none) (h : DX pR X W cl a te f) (k : DX pR X W cl b tf g) (hs : starEach [a, b] X.env = [(false, eval a X.env), (false, eval b X.env)] := by rfl) (hs2 : starEach [b] X.env = [(false, eval b X.env)] := by rfl) :
    DI (pIt Ds) X W cl tg (.Call (.Name "range" p) [a, b] [] pos) (iRng2 (tCons te (tCons tf tNil))) (gRg2 f g) :=
  ⟨pi_range2 hg hm (pa_cons h.pe (pa_cons k.pe pa_nil hs2) (hs.trans (by rw [hs2]))) hs hs2, ev_rg2 h.ev k.ev⟩
/-! ### the signs of a text -/
def strD (x : Str) : List PyData := x.cps.toList.map fun c => PyData.str ⟨#[c]⟩
theorem its_d {G : List Addr → Hp → Prop} {x : Str} : ItD Ds G (Its x) (strD x) where
  go := fun i O H g od hi => by unfold strD at hi; rw [List.length_map, Array.length_toList] at hi; exact hi
  yld := fun i O H v H' g od y d hd => by
    obtain ⟨rfl, c, hc, rfl⟩ := y
    unfold strD at hd
    rw [List.getElem?_map, Array.getElem?_toList, hc] at hd
    cases hd
    exact ⟨Same.refl _, .str _⟩
  stop := fun i O H g od hi => by unfold strD at hi; rw [List.length_map, Array.length_toList] at hi; exact hi
def asS : PyData → Rs (List PyData)
  | .str x => .ok (strD x)
  | _ => .bad
def gStrI (f : Sl → Rs PyData) : Sl → Rs (List PyData) := fun ρ => (f ρ).bind asS
theorem di_str {tg e : Expr} {te : TE} {f : Sl → Rs PyData} (h : DX pR X W cl e te f) : DI (pIt Ds) X W cl tg e (iStr te) (gStrI f) := ⟨pi_str h.pe, fun B O0 O σ H ρ R I ok =>
  h.ev.go mIt I ok fun x v H1 _ s1 I1 p1 ok1 => by
    cases x with
    | str z => exact ⟨z, rd_str p1, ok1 _ H1 (Same.refl _) its_d⟩
    | _ => exact False.elim ok1⟩
/-! ### zip of two lists, of two tuples -/
def zipD (xs ys : List PyData) : List PyData := (xs.zip ys).map fun p => PyData.tuple [p.1, p.2]
theorem zipD_len (xs ys : List PyData) : (zipD xs ys).length = min xs.length ys.length := by unfold zipD; rw [List.length_map, List.length_zip]
theorem zipD_get {xs ys : List PyData} {i : Nat} {d : PyData} (h : (zipD xs ys)[i]? = some d) : ∃ x y, xs[i]? = some x ∧ ys[i]? = some y ∧ d = .tuple [x, y] := by
  unfold zipD at h
  rw [List.getElem?_map] at h
  cases q : (xs.zip ys)[i]? with
  | none => rw [q] at h; cases h
  | some p =>
    rw [q] at h
    obtain ⟨h1, h2⟩ := List.getElem?_zip_eq_some.mp q
    exact ⟨p.1, p.2, h1, h2, (Option.some.inj h).symm⟩
theorem itz_d {K : Frg} {G : List Addr → Hp → Prop} {a b : Addr} {vs us : List V} {ds es : List PyData} (h : ∀ O H, G O H → (Rd H a (.lst vs) ∧ DqAll (hid O H) vs ds) ∧ (Rd H b (.lst us) ∧ DqAll (hid O H) us es)) : ItD Dw G (Itz K a b) (zipD ds es) where
  go := fun i O H g od hi => by
    obtain ⟨⟨r, q⟩, r2, q2⟩ := h O H g
    obtain ⟨x, y, e1, e2, _⟩ := zipD_get (List.getElem?_eq_getElem hi)
    obtain ⟨v, f1, _⟩ := dpAll_get q e1
    obtain ⟨u, f2, _⟩ := dpAll_get q2 e2
    exact ⟨vs, us, v, u, sqL_rd r, sqL_rd r2, f1, f2⟩
  yld := fun i O H x H' g od y d hd => by
    obtain ⟨T, x1, x2, rfl, nT, rfl, f1, f2⟩ := y
    obtain ⟨⟨r, q⟩, r2, q2⟩ := h O H g
    obtain ⟨d1, d2, e1, e2, rfl⟩ := zipD_get hd
    obtain ⟨d1', e1', k1⟩ := dpAll_getV q (f1 _ (sqL_rd r))
    obtain ⟨d2', e2', k2⟩ := dpAll_getV q2 (f2 _ (sqL_rd r2))
    rw [e1] at e1'; cases e1'
    rw [e2] at e2'; cases e2'
    exact ⟨same_new nT, T, _, _, rfl, rfl, Rd.of (hid_mk (od_fresh od nT) upd_same), dpAll_mono (hid_same (same_new nT)) (.cons k1 (.cons k2 .nil))⟩
  stop := fun i O H g od hi => by
    obtain ⟨⟨r, q⟩, r2, q2⟩ := h O H g
    rw [zipD_len, ← dpAll_len q, ← dpAll_len q2] at hi
    exact ⟨vs, us, sqL_rd r, sqL_rd r2, by omega⟩
theorem itzT_d {K : Frg} {G : List Addr → Hp → Prop} {a b : Addr} {vs us : List V} {ds es : List PyData} (h : ∀ O H, G O H → (Rd H a (.tup vs) ∧ DqAll (hid O H) vs ds) ∧ (Rd H b (.tup us) ∧ DqAll (hid O H) us es)) : ItD Dw G (ItzT K a b) (zipD ds es) where
  go := fun i O H g od hi => by
    obtain ⟨⟨r, q⟩, r2, q2⟩ := h O H g
    obtain ⟨x, y, e1, e2, _⟩ := zipD_get (List.getElem?_eq_getElem hi)
    obtain ⟨v, f1, _⟩ := dpAll_get q e1
    obtain ⟨u, f2, _⟩ := dpAll_get q2 e2
    exact ⟨vs, us, v, u, sqT_rd r, sqT_rd r2, f1, f2⟩
  yld := fun i O H x H' g od y d hd => by
    obtain ⟨T, x1, x2, rfl, nT, rfl, f1, f2⟩ := y
    obtain ⟨⟨r, q⟩, r2, q2⟩ := h O H g
    obtain ⟨d1, d2, e1, e2, rfl⟩ := zipD_get hd
    obtain ⟨d1', e1', k1⟩ := dpAll_getV q (f1 _ (sqT_rd r))
    obtain ⟨d2', e2', k2⟩ := dpAll_getV q2 (f2 _ (sqT_rd r2))
    rw [e1] at e1'; cases e1'
    rw [e2] at e2'; cases e2'
    exact ⟨same_new nT, T, _, _, rfl, rfl, Rd.of (hid_mk (od_fresh od nT) upd_same), dpAll_mono (hid_same (same_new nT)) (.cons k1 (.cons k2 .nil))⟩
  stop := fun i O H g od hi => by
    obtain ⟨⟨r, q⟩, r2, q2⟩ := h O H g
    rw [zipD_len, ← dpAll_len q, ← dpAll_len q2] at hi
    exact ⟨vs, us, sqT_rd r, sqT_rd r2, by omega⟩
def zipS : PyData → PyData → Rs (List PyData)
  | .list xs, .list ys => .ok (zipD xs ys)
  | .tuple xs, .tuple ys => .ok (zipD xs ys)
  | _, _ => .bad
def gZip (f g : Sl → Rs PyData) : Sl → Rs (List PyData) := fun ρ => (f ρ).bind fun x => (g ρ).bind fun y => zipS x y
theorem ev_zip {K : Frg} {te tf : TE} {f g : Sl → Rs PyData} (h : EvG pD W cl te f) (k : EvG pD W cl tf g) : EvG (pIt Dw) W cl (iZipA K (tCons te (tCons tf tNil))) (gZip f g) := fun B O0 O σ H ρ R I ok =>
  h.go mIt I ok fun x v H1 _ s1 I1 p1 ok1 => k.go mIt I1 ok1 fun y u H2 _ s2 I2 p2 ok2 => by
    have p1 := dp_mono (hid_same s2) p1
    cases x with
    | list xs =>
      cases y with
      | list ys =>
        cases p1 with
        | lst hp ha =>
          cases p2 with
          | lst hq hb =>
            exact ⟨_, _, _, _, rfl, .inl ⟨sqL_rd (rd_mono hid_le hp), sqL_rd (rd_mono hid_le hq), ok2 _ H2 (Same.refl _) (itz_d fun O' H' g => ⟨⟨gf_rd g hp, dpAll_mono g ha⟩, gf_rd g hq, dpAll_mono g hb⟩)⟩⟩
      | _ => exact False.elim ok2
    | tuple xs =>
      cases y with
      | tuple ys =>
        cases p1 with
        | tup hp ha =>
          cases p2 with
          | tup hq hb =>
            exact ⟨_, _, _, _, rfl, .inr ⟨sqT_tq (tq_mono hid_le hp), sqT_tq (tq_mono hid_le hq), ok2 _ H2 (Same.refl _) (itzT_d fun O' H' g => ⟨⟨gf_tq g hp, dpAll_mono g ha⟩, gf_tq g hq, dpAll_mono g hb⟩)⟩⟩
      | _ => exact False.elim ok2
    | _ => exact False.elim ok2
theorem di_zip {e e2 : Expr} {te tf : TE} {p pos tpos : Pos} {elts : List Expr} {kk : Nat} {f g : Sl → Rs PyData} (hg : Gl X "zip") (hm : X.mg "zip" = none) (h : DX pD X W cl e te f) (k : DX pD X W cl e2 tf g)
    (hs : starEach [e, e2] X.env = (false, eval e X.env) :: starEach [e2] X.env := by rfl) (hs2 : starEach [e2] X.env = (false, eval e2 X.env) :: starEach [] X.env := by rfl) (hpl : (backTo pos (starEach [e2] X.env)).any (·.1) = false := by rfl) : DI (pIt Dw) X W cl (.Tuple elts kk tpos) (.Call (.Name "zip" p) [e, e2] [] pos) (iZipA X.K (tCons te (tCons tf tNil))) (gZip f g) :=
  ⟨pi_zipA hg hm (pa_cons h.pe (pa_cons k.pe pa_nil hs2) hs) hs hpl, ev_zip h.ev k.ev⟩
/-! ### for -/
def forLoop (set : PyData → Sl → Option Sl) (body : Sl → Ot) : List PyData → Sl → Ot
  | [], ρ => .nx ρ
  | d :: ds, ρ => match set d ρ with
    | none => .bad
    | some ρ1 => match body ρ1 with
      | .nx ρ2 => forLoop set body ds ρ2
      | o => o
def sFor (items : Sl → Rs (List PyData)) (set : PyData → Sl → Option Sl) (body : Sl → Ot) : Sl → Ot := fun ρ => oBind (items ρ) ρ fun ds => forLoop set body ds ρ
theorem ev_for {R : RR} {is : List Nat} {wi : TI} {g : TG} {tb : TS} {f : Sl → Rs (List PyData)} {set : PyData → Sl → Option Sl} {body : Sl → Ot} (hi : EvG (pIt R) W cl wi f) (hg : EvT R is g set) (hb : EvS W cl tb body) : EvS W cl (tFor wi g tb) (sFor f set body) := fun B O0 O σ H ρ D I ok =>
  hi.goS I ok fun ds J H1 _ s1 I1 it ok1 => by
    refine ⟨fun i m σ' H' => ∃ O' ρ', Rp B O0 O' σ' H' ρ' ∧ Same (hid O H1) (hid O' H') ∧ m = ds.length - i ∧ OkS W cl B O0 O' H' (forLoop set body (ds.drop i) ρ') D, ⟨_, O, ρ, I1, Same.refl _, rfl, ok1⟩, ?_⟩
    rintro i m σ' H' ⟨O', ρ', I', fs, rfl, ok'⟩
    by_cases hlt : i < ds.length
    · have hd : ds.drop i = ds[i] :: ds.drop (i + 1) := List.drop_eq_getElem_cons hlt
      rw [hd] at ok'
      refine .inr ⟨it.go i O' H' fs I'.od hlt, fun σ2 H2 => ∃ O2 ρ2, Rp B O0 O2 σ2 H2 ρ2 ∧ Same (hid O H1) (hid O2 H2) ∧ OkS W cl B O0 O2 H2 (forLoop set body (ds.drop (i + 1)) ρ2) D, fun σ2 H2 ⟨O2, ρ2, a, b, c⟩ => ⟨ds.length - (i + 1), by omega, O2, ρ2, a, b, rfl, c⟩, fun x H2 y => ?_⟩
      obtain ⟨s2, dq⟩ := it.yld i O' H' x H2 fs I'.od y ds[i] (List.getElem?_eq_getElem hlt)
      have I2 := I'.mono s2
      have ok2 : OkS W cl B O0 O' H2 (forLoop set body (ds[i] :: ds.drop (i + 1)) ρ') D := OkS.mono (hid_same s2) ok'
      unfold forLoop at ok2
      cases e : set ds[i] ρ' with
      | none => rw [e] at ok2; exact False.elim ok2
      | some ρ1 =>
        rw [e] at ok2
        refine hg B O0 O' σ' H2 ρ' ρ1 x ds[i] _ I2 dq e fun σ3 I3 _ => ?_
        refine hb B O0 O' σ3 H2 ρ1 _ I3 ?_
        dsimp only at ok2
        cases e3 : body ρ1 with
        | bad => rw [e3] at ok2; exact ok2
        | rt d => rw [e3] at ok2; exact ok2
        | er c p ρ4 => rw [e3] at ok2; exact ok2
        | nx ρ4 =>
          rw [e3] at ok2
          exact fun σ4 O4 H4 I4 s4 => ⟨O4, ρ4, I4, (fs.trans (hid_same s2)).trans s4, OkS.mono s4 ok2⟩
    · rw [List.drop_eq_nil_of_le (by omega)] at ok'
      exact .inl ⟨it.stop i O' H' fs I'.od (by omega), ok' σ' O' H' I' (Same.refl _)⟩
theorem ds_for {R : RR} {is : List Nat} {tg iter : Expr} {body : List Stmt} {wi : TI} {g : TG} {tb : TS} {pos : Pos} {f : Sl → Rs (List PyData)} {set : PyData → Sl → Option Sl} {h : Sl → Ot} (hp : PassesOwn (model X.prog X.w) X.A X.env X.xe) (hc : X.calm = true) (hi : DI (pIt R) X W cl tg iter wi f) (hg : PG X tg g) (ht : EvT R is g set) (hb : DSs X W cl body tb h)
    (hs : ∀ x, foldedSetIterable iter X.env x = pure x := by intro _; rfl) : DS X W cl (.For tg iter body [] pos) (tFor wi g tb) (sFor f set h) := ⟨ps_for hp hc hi.pi hg hb.pss hs, ev_for hi.ev ht hb.ev⟩
/-! ### while -/
def whLoop (c : Sl → Rs Bool) (body : Sl → Ot) : Nat → Sl → Ot
  | 0, _ => .bad
  | n + 1, ρ => oBind (c ρ) ρ fun b => if b = true then (match body ρ with
    | .nx ρ2 => whLoop c body n ρ2
    | o => o) else .nx ρ
theorem ev_while {tc : TT} {tb : TS} {c : Sl → Rs Bool} {body : Sl → Ot} (n : Nat) (hc : EvG pB W cl tc c) (hb : EvS W cl tb body) : EvS W cl (tWhile tc tb) (whLoop c body n) := fun B O0 O σ H ρ D I ok => by
  refine ⟨fun m σ' H' => ∃ O' ρ', Rp B O0 O' σ' H' ρ' ∧ Same (hid O H) (hid O' H') ∧ OkS W cl B O0 O' H' (whLoop c body m ρ') D, ⟨n, O, ρ, I, Same.refl _, ok⟩, ?_⟩
  rintro m σ' H' ⟨O', ρ', I', fs, ok'⟩
  cases m with
  | zero => exact False.elim ok'
  | succ m =>
    refine hc.goS I' ok' fun b v H1 _ s1 I1 p1 ok1 => ?_
    have e : v = b := p1
    subst e
    cases v with
    | false =>
      show D.nx σ' H1
      exact ok1 σ' O' H1 I1 (Same.refl _)
    | true =>
      refine ⟨fun σ2 H2 => ∃ O2 ρ2, Rp B O0 O2 σ2 H2 ρ2 ∧ Same (hid O H) (hid O2 H2) ∧ OkS W cl B O0 O2 H2 (whLoop c body m ρ2) D, fun σ2 H2 q => ⟨m, Nat.lt_succ_self m, q⟩, ?_⟩
      refine hb B O0 O' σ' H1 ρ' _ I1 ?_
      rw [if_pos rfl] at ok1
      cases e3 : body ρ' with
      | bad => rw [e3] at ok1; exact ok1
      | rt d => rw [e3] at ok1; exact ok1
      | er c p ρ4 => rw [e3] at ok1; exact ok1
      | nx ρ4 =>
        rw [e3] at ok1
        exact fun σ4 O4 H4 I4 s4 => ⟨O4, ρ4, I4, (fs.trans (hid_same s1)).trans s4, OkS.mono s4 ok1⟩
theorem ds_while {c : Expr} {body : List Stmt} {tc : TT} {tb : TS} {pos : Pos} {fc : Sl → Rs Bool} {h : Sl → Ot} (n : Nat) (hp : PassesOwn (model X.prog X.w) X.A X.env X.xe) (hc : DT X W cl c tc fc) (hb : DSs X W cl body tb h) : DS X W cl (.While c body [] pos) (tWhile tc tb) (whLoop fc h n) := ⟨ps_while hp hc.pt hb.pss, ev_while n hc.ev hb.ev⟩
end
end SB

namespace SB
open PySem PySem.Spec PyProof.Rows L2 RZ
/-! ### list comprehensions -/
def wipeS (ρ : Sl) : List Nat → Sl
  | [] => ρ
  | v :: vs => (wipeS ρ vs).set v none
theorem Rp.unset {B : Hp} {O0 O : List Addr} {σ : L2.St} {H : Hp} {ρ : Sl} (I : Rp B O0 O σ H ρ) (i : Nat) : Rp B O0 O (σ.set i none) H (ρ.set i none) := by
  have back : ∀ {k : Nat} {c : Cl}, (ρ.set i none)[k]? = some (some c) → i ≠ k ∧ ρ[k]? = some (some c) := fun {k c} e => by
    by_cases z : i = k
    · subst z
      by_cases hl : i < ρ.length
      · rw [List.getElem?_set_self hl] at e; cases e
      · rw [List.getElem?_eq_none (by rw [List.length_set]; omega)] at e; cases e
    · rw [List.getElem?_set_ne z] at e; exact ⟨z, e⟩
  refine ⟨I.ex, I.sub, I.b0, I.od, by rw [List.length_set, List.length_set]; exact I.len, fun j c e => ?_, fun j k c c' hjk hj hk o o' => ?_⟩
  · obtain ⟨n, e⟩ := back e
    obtain ⟨v, a, b⟩ := I.sl j c e
    exact ⟨v, by rw [List.getElem?_set_ne n]; exact a, b⟩
  · obtain ⟨n1, e1⟩ := back hj
    obtain ⟨n2, e2⟩ := back hk
    rw [List.getElem?_set_ne n1, List.getElem?_set_ne n2]
    exact I.dj j k c c' hjk e1 e2 o o'
theorem Rp.wipe {B : Hp} {O0 O : List Addr} {σ : L2.St} {H : Hp} {ρ : Sl} (I : Rp B O0 O σ H ρ) : ∀ vs : List Nat, Rp B O0 O (L2.wipe σ vs) H (wipeS ρ vs)
  | [] => I
  | v :: vs => (I.wipe vs).unset v
theorem wipe_get (σ : L2.St) : ∀ (vs : List Nat) (j : Nat), (L2.wipe σ vs)[j]? = if j ∈ vs then (if j < σ.length then some none else none) else σ[j]?
  | [], j => by simp [L2.wipe]
  | v :: vs, j => by
    unfold L2.wipe
    have ih := wipe_get σ vs j
    by_cases e : v = j
    · subst e
      rw [if_pos List.mem_cons_self]
      by_cases hl : v < σ.length
      · rw [if_pos hl, List.getElem?_set_self (by rw [wipe_length]; exact hl)]
      · rw [if_neg hl, List.getElem?_eq_none (by rw [List.length_set, wipe_length]; omega)]
    · rw [List.getElem?_set_ne e, ih]
      by_cases hm : j ∈ vs
      · rw [if_pos hm, if_pos (List.mem_cons_of_mem _ hm)]
      · rw [if_neg hm, if_neg (fun z => (List.mem_cons.mp z).elim (fun q => e q.symm) hm)]
theorem wipe_only {σ σ' : L2.St} {is vs : List Nat} (h : OnlyAt is (L2.wipe σ vs) σ') (hs : ∀ i ∈ is, i ∈ vs) : L2.wipe σ' vs = L2.wipe σ vs := by
  have hl : σ'.length = σ.length := by rw [h.1, wipe_length]
  refine List.ext_getElem? fun j => ?_
  rw [wipe_get, wipe_get, hl]
  by_cases hm : j ∈ vs
  · rw [if_pos hm, if_pos hm]
  · rw [if_neg hm, if_neg hm, h.2 j (fun z => hm (hs j z)), wipe_get, if_neg hm]
def noErr {α : Type} : Rs α → Rs α
  | .err _ _ => .bad
  | r => r
def lcLoop (set : PyData → Sl → Option Sl) (test : Sl → Rs Bool) (elt : Sl → Rs PyData) (ρ : Sl) : List PyData → Rs (List PyData)
  | [] => .ok []
  | d :: ds => match set d ρ with
    | none => .bad
    | some ρ1 => (noErr (test ρ1)).bind fun b => if b = true then (noErr (elt ρ1)).bind fun y => (lcLoop set test elt ρ ds).bind fun ys => .ok (y :: ys) else lcLoop set test elt ρ ds
def gLc (vs : List Nat) (items : Sl → Rs (List PyData)) (set : PyData → Sl → Option Sl) (test : Sl → Rs Bool) (elt : Sl → Rs PyData) : Sl → Rs PyData := fun ρ => (items ρ).bind fun ds => if ds.length ≤ sz then (lcLoop set test elt (wipeS ρ vs) ds).bind fun ys => .ok (.list ys) else .bad
def gYes : Sl → Rs Bool := fun _ => .ok true
theorem ev_yes {W : L2.WX} {cl : Nat → Addr} : EvG pB W cl tYes gYes := fun B O0 O σ H ρ Q I ok => ok true H (Same.refl _) rfl
abbrev W0 : L2.WX := fun _ _ _ _ => False
theorem lcLoop_no {set : PyData → Sl → Option Sl} {test : Sl → Rs Bool} {elt : Sl → Rs PyData} {ρ : Sl} : ∀ (ds : List PyData) (c : Nat) (p : Option PyData), lcLoop set test elt ρ ds ≠ .err c p
  | [], c, p => fun z => nomatch z
  | d :: ds, c, p => by
    have ih := lcLoop_no (set := set) (test := test) (elt := elt) (ρ := ρ) ds
    unfold lcLoop
    cases set d ρ with
    | none => exact fun z => nomatch z
    | some ρ1 =>
      show (noErr (test ρ1)).bind _ ≠ _
      cases test ρ1 with
      | bad => exact fun z => nomatch z
      | err _ _ => exact fun z => nomatch z
      | ok b =>
        show (if b = true then _ else _) ≠ _
        by_cases hb : b = true
        · rw [if_pos hb]
          cases elt ρ1 with
          | bad => exact fun z => nomatch z
          | err _ _ => exact fun z => nomatch z
          | ok y =>
            show (lcLoop set test elt ρ ds).bind _ ≠ _
            cases e : lcLoop set test elt ρ ds with
            | bad => exact fun z => nomatch z
            | err c' p' => exact absurd e (ih c' p')
            | ok ys => exact fun z => nomatch z
        · rw [if_neg hb]
          exact ih c p
theorem ev_lc {W : L2.WX} {cl : Nat → Addr} {R : RR} {vs is : List Nat} {wi : TI} {g : TG} {tt : TT} {te : TE} {f : Sl → Rs (List PyData)} {set : PyData → Sl → Option Sl} {test : Sl → Rs Bool} {elt : Sl → Rs PyData} (hs : ∀ i ∈ is, i ∈ vs)
    (hi : EvG (pItC R) W cl wi f) (hg : EvT R is g set) (ht : EvG pB W0 cl tt test) (he : EvG pD W0 cl te elt) : EvG pF W cl (tLc wi g tt te vs) (gLc vs f set test elt) := fun B O0 O σ H ρ Q I ok =>
  hi.go mF I ok fun ds J H1 _ s1 I1 it ok1 D hD => by
    have hl : ds.length ≤ sz := by
      by_cases z : ds.length ≤ sz
      · exact z
      · rw [if_neg z] at ok1; exact False.elim ok1
    rw [if_pos hl] at ok1
    have s0 : Same H1 (upd H1 D (.lst [])) := same_new hD
    obtain ⟨I2, m2⟩ := I1.more s0 hD upd_same
    refine ⟨fun i m H' => m = ds.length - i ∧ i ≤ ds.length ∧ Same H1 H' ∧ Same (hid O H1) (hid (D :: O) H') ∧ ∃ accV acc rest, H' D = some (.lst accV) ∧ DqAll (hid (D :: O) H') accV acc ∧ acc.length ≤ i ∧ lcLoop set test elt (wipeS ρ vs) (ds.drop i) = .ok rest ∧ OkG pF W cl O σ H1 (.ok (.list (acc ++ rest))) Q, ?_, ?_⟩
    · cases e : lcLoop set test elt (wipeS ρ vs) ds with
      | bad => rw [e] at ok1; exact False.elim ok1
      | err c p => exact absurd e (lcLoop_no ds c p)
      | ok rest =>
        rw [e] at ok1
        exact ⟨ds.length, rfl, Nat.zero_le _, s0, m2, [], [], rest, upd_same, .nil, Nat.le_refl _, e, ok1⟩
    rintro i m H' ⟨rfl, hi, sH, fs, accV, acc, rest, hDl, ha, hacc, hr, okr⟩
    have I' : Rp B O0 (D :: O) σ H' ρ := by
      refine ⟨I1.ex.trans sH, I2.sub, I2.b0, fun p hp => ?_, I1.len, fun j c e => ?_, I1.dj⟩
      · rcases List.mem_cons.mp hp with rfl | hp
        · rw [hDl]; exact fun z => nomatch z
        · exact od_same sH I1.od p hp
      · obtain ⟨v, a, b⟩ := I1.sl j c e
        refine ⟨v, a, ?_⟩
        cases c with
        | d x => exact dp_mono fs b
        | own ys =>
          obtain ⟨q, us, e, hq, hb, hh, ha⟩ := b
          exact ⟨q, us, e, List.mem_cons_of_mem _ hq, hb, sH _ _ hh, dpAll_mono fs ha⟩
    have gc : Gc O H1 (D :: O) H' := ⟨sH, fs⟩
    by_cases hlt : i < ds.length
    · have hd : ds.drop i = ds[i] :: ds.drop (i + 1) := List.drop_eq_getElem_cons hlt
      rw [hd] at hr
      refine .inr ⟨it.go i _ H' gc I'.od hlt, _, fun H'' q => ⟨ds.length - (i + 1), by omega, q⟩, fun x H2 y => ?_⟩
      obtain ⟨s2, dq⟩ := it.yld i _ H' x H2 gc I'.od y ds[i] (List.getElem?_eq_getElem hlt)
      have J2 := (I'.mono s2).wipe vs
      unfold lcLoop at hr
      cases e : set ds[i] (wipeS ρ vs) with
      | none => rw [e] at hr; cases hr
      | some ρ1 =>
        rw [e] at hr
        refine hg B O0 (D :: O) (L2.wipe σ vs) H2 _ ρ1 x ds[i] _ J2 dq e fun σ3 I3 oa => ⟨wipe_only oa hs, ?_⟩
        have hr : (noErr (test ρ1)).bind (fun b => if b = true then (noErr (elt ρ1)).bind fun y => (lcLoop set test elt (wipeS ρ vs) (ds.drop (i + 1))).bind fun ys => .ok (y :: ys) else lcLoop set test elt (wipeS ρ vs) (ds.drop (i + 1))) = .ok rest := hr
        refine ht B O0 (D :: O) σ3 H2 ρ1 _ I3 ?_
        cases e3 : test ρ1 with
        | bad => rw [e3] at hr; cases hr
        | err _ _ => rw [e3] at hr; cases hr
        | ok b =>
          rw [e3] at hr
          intro b' H3 s3 eb
          have eb : b' = b := eb
          subst eb
          have hr : (if b' = true then (noErr (elt ρ1)).bind fun y => (lcLoop set test elt (wipeS ρ vs) (ds.drop (i + 1))).bind fun ys => .ok (y :: ys) else lcLoop set test elt (wipeS ρ vs) (ds.drop (i + 1))) = .ok rest := hr
          cases b' with
          | false =>
            show _ ∧ _
            have s4 := s2.trans s3
            exact ⟨rfl, hlt, sH.trans s4, fs.trans (hid_same s4), accV, acc, rest, s4 _ _ hDl, dpAll_mono (hid_same s4) ha, by omega, hr, okr⟩
          | true =>
            show te σ3 H3 _
            refine he B O0 (D :: O) σ3 H3 ρ1 _ (I3.mono s3) ?_
            rw [if_pos rfl] at hr
            cases e4 : elt ρ1 with
            | bad => rw [e4] at hr; cases hr
            | err _ _ => rw [e4] at hr; cases hr
            | ok y =>
              rw [e4] at hr
              intro v H4 s4 dv
              have s5 := (s2.trans s3).trans s4
              have hD4 := s5 _ _ hDl
              have hr : (lcLoop set test elt (wipeS ρ vs) (ds.drop (i + 1))).bind (fun ys => .ok (y :: ys)) = .ok rest := hr
              cases e5 : lcLoop set test elt (wipeS ρ vs) (ds.drop (i + 1)) with
              | bad => rw [e5] at hr; cases hr
              | err c p => exact absurd e5 (lcLoop_no _ c p)
              | ok ys =>
                rw [e5] at hr
                cases hr
                have hmut : Same (hid (D :: O) H4) (hid (D :: O) (upd H4 D (.lst (accV ++ [v])))) := hid_mut List.mem_cons_self
                refine ⟨accV, hD4, ?_, rfl, hlt, fun a o q => ?_, ((fs.trans (hid_same s5)).trans hmut), accV ++ [v], acc ++ [y], ys, upd_same, dpAll_app (dpAll_mono ((hid_same s5).trans hmut) ha) (.cons (dp_mono hmut dv) .nil), ?_, e5, ?_⟩
                · rw [dpAll_len ha]; exact sz_lt (by omega)
                · rw [upd_ne (ne_of_none q hD)]; exact s5 _ _ (sH _ _ q)
                · rw [List.length_append, List.length_singleton]; omega
                · rw [List.append_assoc]; exact okr
    · have e : i = ds.length := by omega
      subst e
      rw [List.drop_length] at hr
      cases hr
      rw [List.append_nil] at okr
      exact .inl ⟨it.stop _ _ H' gc I'.od (Nat.le_refl _), okr _ H' sH (pL_pF I1.od ⟨D, accV, acc, rfl, rfl, hD, hDl, ha⟩)⟩
section
variable {X : Cx} {W : L2.WX} {cl : Nat → Addr}
theorem d_lc {elt tg iter : Expr} {ifs : List Expr} {scope : Scope} {own : List (Str × Nat)} {pos : Pos} {R : RR} {is : List Nat} {wi : TI} {g : TG} {tt : TT} {te : TE} {f : Sl → Rs (List PyData)} {set : PyData → Sl → Option Sl} {test : Sl → Rs Bool} {fe : Sl → Rs PyData} (hc : X.calm = true) (hN : X.N.Nodup) (hi : DI (pItC R) X W cl tg iter wi f) (ok : BlkOk X.N X.env.scope scope own)
    (hg : ∀ (s : Shared) (H : Hp) (C : Addr) (cl' : List (Str × Addr)) (fp : List Addr), PG (X.blk s H scope (compEnvC scope cl' C X.env) fp) tg g) (hs : EvT R is g set) (hsub : ∀ i ∈ is, i ∈ own.map (·.2))
    (ht : ∀ (s : Shared) (H : Hp) (C : Addr) (cl' : List (Str × Addr)) (fp : List Addr), PTs (X.blk s H scope (compEnvC scope cl' C X.env) fp) ifs tt) (het : EvG pB W0 cl tt test)
    (he : ∀ (s : Shared) (H : Hp) (C : Addr) (cl' : List (Str × Addr)) (fp : List Addr), DX pD (X.blk s H scope (compEnvC scope cl' C X.env) fp) W0 cl elt te fe) (hf : ∀ x, foldedSetIterable iter X.env x = pure x := by intro _; rfl) :
    DX pF X W cl (.ListComp elt [⟨tg, iter, ifs, 0⟩] scope pos) (tLc wi g tt te (own.map (·.2))) (gLc (own.map (·.2)) f set test fe) :=
  ⟨pe_lc hc hN hi.pi ok hg ht (fun s H C c fp => (he s H C c fp).pe) hf, ev_lc hsub hi.ev hs het (he X.s_0 X.H_0 0 [] []).ev⟩
/-- with a test -/
theorem d_lcIf {elt tg iter c : Expr} {scope : Scope} {own : List (Str × Nat)} {pos : Pos} {R : RR} {is : List Nat} {wi : TI} {g : TG} {tt : TT} {te : TE} {f : Sl → Rs (List PyData)} {set : PyData → Sl → Option Sl} {test : Sl → Rs Bool} {fe : Sl → Rs PyData} (hc : X.calm = true) (hN : X.N.Nodup) (hi : DI (pItC R) X W cl tg iter wi f) (ok : BlkOk X.N X.env.scope scope own)
    (hg : ∀ (s : Shared) (H : Hp) (C : Addr) (cl' : List (Str × Addr)) (fp : List Addr), PG (X.blk s H scope (compEnvC scope cl' C X.env) fp) tg g) (hs : EvT R is g set) (hsub : ∀ i ∈ is, i ∈ own.map (·.2))
    (ht : ∀ (s : Shared) (H : Hp) (C : Addr) (cl' : List (Str × Addr)) (fp : List Addr), DT (X.blk s H scope (compEnvC scope cl' C X.env) fp) W0 cl c tt test)
    (he : ∀ (s : Shared) (H : Hp) (C : Addr) (cl' : List (Str × Addr)) (fp : List Addr), DX pD (X.blk s H scope (compEnvC scope cl' C X.env) fp) W0 cl elt te fe) (hf : ∀ x, foldedSetIterable iter X.env x = pure x := by intro _; rfl) :
    DX pF X W cl (.ListComp elt [⟨tg, iter, [c], 0⟩] scope pos) (tLc wi g tt te (own.map (·.2))) (gLc (own.map (·.2)) f set test fe) :=
  d_lc hc hN hi ok hg hs hsub (fun s H C c' fp => pts_one (ht s H C c' fp).pt) (ht X.s_0 X.H_0 0 [] []).ev he hf
theorem d_lcAll {elt tg iter : Expr} {scope : Scope} {own : List (Str × Nat)} {pos : Pos} {R : RR} {is : List Nat} {wi : TI} {g : TG} {te : TE} {f : Sl → Rs (List PyData)} {set : PyData → Sl → Option Sl} {fe : Sl → Rs PyData} (hc : X.calm = true) (hN : X.N.Nodup) (hi : DI (pItC R) X W cl tg iter wi f) (ok : BlkOk X.N X.env.scope scope own)
    (hg : ∀ (s : Shared) (H : Hp) (C : Addr) (cl' : List (Str × Addr)) (fp : List Addr), PG (X.blk s H scope (compEnvC scope cl' C X.env) fp) tg g) (hs : EvT R is g set) (hsub : ∀ i ∈ is, i ∈ own.map (·.2))
    (he : ∀ (s : Shared) (H : Hp) (C : Addr) (cl' : List (Str × Addr)) (fp : List Addr), DX pD (X.blk s H scope (compEnvC scope cl' C X.env) fp) W0 cl elt te fe) (hf : ∀ x, foldedSetIterable iter X.env x = pure x := by intro _; rfl) :
    DX pF X W cl (.ListComp elt [⟨tg, iter, [], 0⟩] scope pos) (tLc wi g tYes te (own.map (·.2))) (gLc (own.map (·.2)) f set gYes fe) :=
  d_lc hc hN hi ok hg hs hsub (fun _ _ _ _ _ => pts_nil) ev_yes he hf
/-- name = [..] on one line: the comprehension as a value, told by the statement's own rule -/
theorem ds_setLc {i : Nat} {y : Str} {py : Pos} {elt tg iter : Expr} {ifs : List Expr} {scope : Scope} {own : List (Str × Nat)} {pos spos : Pos} {R : RR} {is : List Nat} {wi : TI} {g : TG} {tt : TT} {te : TE} {f : Sl → Rs (List PyData)} {set : PyData → Sl → Option Sl} {test : Sl → Rs Bool} {fe : Sl → Rs PyData} (hc : X.calm = true) (hN : X.N.Nodup) (hy : X.N[i]? = some y) (hyl : X.env.scope.names.lookup y = some .local)
    (hsw : swapsWith (.ListComp elt [⟨tg, iter, ifs, 0⟩] scope pos) (some (.Name y py)) spos.line X.env = pure true) (hi : DI (pItC R) X W cl tg iter wi f) (ok : BlkOk X.N X.env.scope scope own)
    (hg : ∀ (s : Shared) (H : Hp) (C : Addr) (cl' : List (Str × Addr)) (fp : List Addr), PG (X.blk s H scope (compEnvC scope cl' C X.env) fp) tg g) (hs : EvT R is g set) (hsub : ∀ i ∈ is, i ∈ own.map (·.2))
    (ht : ∀ (s : Shared) (H : Hp) (C : Addr) (cl' : List (Str × Addr)) (fp : List Addr), PTs (X.blk s H scope (compEnvC scope cl' C X.env) fp) ifs tt) (het : EvG pB W0 cl tt test)
    (he : ∀ (s : Shared) (H : Hp) (C : Addr) (cl' : List (Str × Addr)) (fp : List Addr), DX pD (X.blk s H scope (compEnvC scope cl' C X.env) fp) W0 cl elt te fe) (hf : ∀ x, foldedSetIterable iter X.env x = pure x := by intro _; rfl) :
    DS X W cl (.Assign [.Name y py] (.ListComp elt [⟨tg, iter, ifs, 0⟩] scope pos) spos) (tAsg (tLc wi g tt te (own.map (·.2))) (gName i)) (sSet i (gLc (own.map (·.2)) f set test fe)) :=
  ⟨ps_setLc hc hN hy hyl hsw hi.pi ok hg ht (fun s H C c fp => (he s H C c fp).pe) hf, ev_set i ((ev_lc hsub hi.ev hs het (he X.s_0 X.H_0 0 [] []).ev).weak fun _ _ _ _ _ _ _ p => p.1)⟩
end
/-! ### a def -/
def Ot.rs : Ot → Rs PyData
  | .bad => .bad
  | .nx _ => .ok .none
  | .rt d => .ok d
  | .er c p _ => .err c p
def stD (N : Nat) (ds : List PyData) : Sl := ds.map (fun d => some (.d d)) ++ List.replicate (N - ds.length) none
def fnM (n N : Nat) (h : Sl → Ot) : List PyData → Rs PyData := fun ds => if ds.length = n then (h (stD N ds)).rs else .bad
theorem Rp.start {O : List Addr} {H : Hp} {N : List Str} {vs : List V} {ds : List PyData} (od : ∀ p ∈ O, H p ≠ none) (ha : DqAll (hid O H) vs ds) : Rp H O O (L2.start N vs) H (stD N.length ds) := by
  have hl := dpAll_len ha
  have noown : ∀ {k : Nat} {c : Cl}, (stD N.length ds)[k]? = some (some c) → ∃ d, ds[k]? = some d ∧ c = .d d := fun {k c} e => by
    unfold stD at e
    by_cases hk : k < ds.length
    · rw [List.getElem?_append_left (by rw [List.length_map]; exact hk), List.getElem?_map, List.getElem?_eq_getElem hk] at e
      exact ⟨_, List.getElem?_eq_getElem hk, (Option.some.inj (Option.some.inj e)).symm⟩
    · rw [List.getElem?_append_right (by rw [List.length_map]; omega), List.getElem?_replicate] at e
      split at e <;> cases e
  refine ⟨Same.refl _, fun _ h => h, od, od, ?_, fun i c e => ?_, fun j k c c' hjk hj hk o o' => ?_⟩
  · unfold L2.start stD
    rw [List.length_append, List.length_append, List.length_map, List.length_map, List.length_replicate, List.length_replicate, hl]
  · obtain ⟨d, e', rfl⟩ := noown e
    obtain ⟨v, hv, q⟩ := dpAll_get ha e'
    refine ⟨v, ?_, q⟩
    unfold L2.start
    obtain ⟨hi, _⟩ := List.getElem?_eq_some_iff.mp hv
    rw [List.getElem?_append_left (by rw [List.length_map]; exact hi), List.getElem?_map, hv]
    rfl
  · obtain ⟨d, _, rfl⟩ := noown hj
    cases o
section
variable {P : Program} {w : World} {K : Frg} {mg : Str → Option Value} {base : Heap} {cl : Nat → Addr}
theorem fn_body {N ps : List Str} {h : Sl → Ot} {t : TS} {vs : List V} {H : Hp} {Q : VK} {E : XK} (hsp : FnSp cl (fnM ps.length N.length h) vs H Q E) (ev : EvS (fun cls d _ H' => E cls d H') cl t h) : t { nx := fun _ H' => Q .non H', rt := Q } (L2.start N vs) H := by
  obtain ⟨O, ds, od, ha, ok⟩ := hsp
  have I := Rp.start (N := N) od ha
  refine ev H O O _ H _ _ I ?_
  unfold fnM at ok
  by_cases hn : ds.length = ps.length
  · rw [if_pos hn] at ok
    revert ok
    cases h (stD N.length ds) with
    | bad => exact fun z => z
    | nx ρ' => exact fun ok σ' O' H' I' s => ok .non H' I'.ex ⟨.non, fun _ e => nomatch e⟩
    | rt d => exact fun ok v H' s p => ok v H' s p
    | er c p ρ' => exact fun ok σ' O' H' d I' _ eo => ok d H' I'.ex (EO.sub I'.sub eo)
  · rw [if_neg hn] at ok; exact False.elim ok
theorem fn_len {N ps : List Str} {h : Sl → Ot} {vs : List V} {H : Hp} {Q : VK} {E : XK} (hsp : FnSp cl (fnM ps.length N.length h) vs H Q E) : vs.length = ps.length := by
  obtain ⟨O, ds, od, ha, ok⟩ := hsp
  rw [dpAll_len ha]
  unfold fnM at ok
  by_cases hn : ds.length = ps.length
  · exact hn
  · rw [if_neg hn] at ok; exact False.elim ok
end
end SB

namespace SB
open PySem PySem.Spec PyProof.Rows L2 RZ
/-! ### lists that may be read -/
section
variable {X : Cx}
theorem Inv.rdL {pins : List (Addr × Obj)} {σ : L2.St} {H : Hp} {s : Shared} {l : Addr} {xs : List V} (I : Inv X pins σ H s) (h : Rd H l (.lst xs)) : xs.length ≤ sizeLine ∧ ∃ (its : List Value) (n : Nat), Vals xs its ∧ xs.length = its.length ∧ s.heap.get? l = some { cls := .type "list", data := .seq its.toArray n } := by
  obtain ⟨z, its, n, r, e⟩ := h.ok I.hok
  exact ⟨z, its, n, r, r.length, e⟩
def rCatR : R2 := fun x y H Q => ∃ l b xs zs, x = .ref l ∧ y = .ref b ∧ Rd H l (.lst xs) ∧ Rd H b (.lst zs) ∧ xs.length + zs.length ≤ sizeLine ∧ ∀ p, H p = none → Q (.ref p) (upd H p (.lst (xs ++ zs)))
theorem op_catR : OpR X (binaryOp .Add) rCatR := by
  intro pins s σ H x y v u Q I rx ry h
  obtain ⟨l, b, xs, zs, rfl, rfl, hH, hB, hz, q⟩ := h
  cases rx
  cases ry
  obtain ⟨z, its, n, r, hl, e⟩ := Inv.rdL I hH
  obtain ⟨z2, its2, n2, r2, hl2, e2⟩ := Inv.rdL I hB
  refine PySem.P.add_list e e2 ?_ (by rw [List.size_toArray, List.size_toArray]; omega)
  have ea : its.toArray ++ its2.toArray = (its ++ its2).toArray := by simp
  rw [ea]
  exact ⟨.ref _, _, I.lnew (t' := s.toks) (r.append r2) (by rw [List.length_append]; omega), rfl, q _ I.fresh⟩
/-- t + u: a new tuple whose object is known -/
def rCatF (K : Frg) : R2 := fun x y H Q => ∃ a b xs ys, x = .ref a ∧ y = .ref b ∧ SqT K H a xs ∧ SqT K H b ys ∧ xs.length + ys.length ≤ sizeLine ∧
  (xs = [] → Q (.ref b) H) ∧ (xs ≠ [] → ys = [] → Q (.ref a) H) ∧ (xs ≠ [] → ys ≠ [] → ∀ (p : Addr) (o : Obj), H p = none → o.dict = none → Q (.ref p) (upd H p (.frz o (.tup (xs ++ ys)))))
theorem op_catF : OpR X (binaryOp .Add) (rCatF X.K) := by
  intro pins s σ H x y v u Q I rx ry h
  obtain ⟨a, b, xs, ys, rfl, rfl, ha, hb, hz, q0, q1, q2⟩ := h
  cases rx
  cases ry
  obtain ⟨its, r1, p1, _⟩ := I.tuple ha
  obtain ⟨its2, r2, p2, _⟩ := I.tuple hb
  by_cases hx : xs = []
  · subst hx
    cases r1
    exact cat_tup0 p1 p2 ⟨.ref b, H, I, rfl, q0 rfl⟩
  · refine HT.cat_tup p1 p2 (fun z => hx (r1.nil_iff.mp z)) (fun z => ⟨.ref a, H, I, rfl, q1 hx (r2.nil_iff.mp z)⟩) (fun z => ?_) (by rw [← r1.length, ← r2.length]; exact hz)
    refine ⟨.ref s.heap.objs.size, _, I.laid (t' := s.toks) (o := .frz { cls := .type "tuple", data := .seq (its ++ its2).toArray } (.tup (xs ++ ys))) (fun b ob q => Heap.get?_push_of_some _ q) (Nat.le_refl _) ?_, rfl, q2 hx (fun w => z (r2.nil_iff.mpr w)) _ _ (I.hok.fresh (Nat.le_refl _)) rfl⟩
    exact ⟨Heap.get?_push_size _ rfl, by rw [List.length_append]; exact hz, _, r1.append r2, IsTup.new _ _⟩
/-! ### + -/
def pAdd : PyData → PyData → Rs PyData
  | .int i, .int j => .ok (.int (i + j))
  | .tuple a, .tuple b => if a.length + b.length ≤ sz then .ok (.tuple (a ++ b)) else .bad
  | .list a, .list b => if a.length + b.length ≤ sz then .ok (.list (a ++ b)) else .bad
  | .str a, .str b => if a.length + b.length ≤ sz then .ok (.str (a ++ b)) else .bad
  | _, _ => .bad
def rAddS : R2 := fun x y H Q => ∃ i j, x = .str i ∧ y = .str j ∧ i.length + j.length ≤ sizeLine ∧ Q (.str (i ++ j)) H
def rAdd (K : Frg) : R2 := fun x y H Q => rI0 (fun i j => .int (i + j)) x y H Q ∨ rCatF K x y H Q ∨ rCatR x y H Q ∨ rAddS x y H Q
theorem op_addA : OpR X (binaryOp .Add) (rAdd X.K) := op_add.or (op_catF.or (op_catR.or op_add_str))
theorem od_add {K : Frg} : OpD pF (rAdd K) pAdd := fun W cl O σ H v u x y Q od hx hy ok => by
  unfold pAdd at ok
  split at ok
  · rename_i i j
    exact .inl ⟨i, j, rd_int hx, rd_int hy, ok _ H (Same.refl H) ⟨.int _, fun _ e => nomatch e⟩⟩
  · rename_i a b
    obtain ⟨hl, ok⟩ := okG_if ok
    obtain ⟨p, vs, rfl, hp, ha⟩ := rd_tup hx
    obtain ⟨q, us, rfl, hq, hb⟩ := rd_tup hy
    refine .inr (.inl ⟨p, q, vs, us, rfl, rfl, sqT_tq (tq_mono hid_le hp), sqT_tq (tq_mono hid_le hq), by rw [dpAll_len ha, dpAll_len hb]; exact sz_le hl, fun e => ?_, fun _ e => ?_, fun _ _ z ob hz hd => ?_⟩)
    · subst e
      cases ha
      exact ok _ H (Same.refl H) ⟨.tup hq hb, fun _ e => nomatch e⟩
    · subst e
      cases hb
      rw [List.append_nil] at ok
      exact ok _ H (Same.refl H) ⟨.tup hp ha, fun _ e => nomatch e⟩
    · exact ok _ _ (same_new hz) (newF_tup od hz hd (dpAll_app ha hb))
  · rename_i a b
    obtain ⟨hl, ok⟩ := okG_if ok
    obtain ⟨p, vs, rfl, hp, ha⟩ := rd_lst hx
    obtain ⟨q, us, rfl, hq, hb⟩ := rd_lst hy
    exact .inr (.inr (.inl ⟨p, q, vs, us, rfl, rfl, hp, hq, by rw [dpAll_len ha, dpAll_len hb]; exact sz_le hl, fun z hz => ok _ _ (same_new hz) (newF od hz (dpAll_app ha hb))⟩))
  · rename_i a b
    obtain ⟨hl, ok⟩ := okG_if ok
    exact .inr (.inr (.inr ⟨a, b, rd_str hx, rd_str hy, sz_le hl, ok _ H (Same.refl H) ⟨.str _, fun _ e => nomatch e⟩⟩))
  · exact False.elim ok
/-! ### * -/
def mulOk (i j : Int) : Prop := (-(2 ^ 64) < i ∧ i < 2 ^ 64) ∨ (-(2 ^ 64) < j ∧ j < 2 ^ 64)
instance (i j : Int) : Decidable (mulOk i j) := by unfold mulOk; infer_instance
def repD (k : Nat) (a : List PyData) : List PyData := (List.replicate k a).flatten
def pMul : PyData → PyData → Rs PyData
  | .int i, .int j => if mulOk i j then .ok (.int (i * j)) else .bad
  | .tuple a, .int k => if a ≠ [] ∧ 1 ≤ k ∧ k ≤ 1000 ∧ a.length ≤ 1000 then .ok (.tuple (repD k.toNat a)) else .bad
  | .list a, .int k => if (-(1000000000 : Int) ≤ k ∧ k ≤ 1000000000) ∧ a.length * k.toNat ≤ sz then .ok (.list (repD k.toNat a)) else .bad
  | _, _ => .bad
def rRepR : R2 := fun x y H Q => ∃ l k xs, x = .ref l ∧ y = .int k ∧ Rd H l (.lst xs) ∧ -(2 ^ 63) ≤ k ∧ k < 2 ^ 63 ∧ xs.length * k.toNat ≤ sizeLine ∧ ∀ p, H p = none → Q (.ref p) (upd H p (.lst (List.replicate k.toNat xs).flatten))
theorem op_repR : OpR X (binaryOp .Mult) rRepR := by
  intro pins s σ H x y v u Q I rx ry h
  obtain ⟨l, k, xs, rfl, rfl, hH, h1, h2, hz, q⟩ := h
  cases rx
  obtain ⟨t, rfl⟩ := ry
  obtain ⟨z, its, n, r, hl, e⟩ := Inv.rdL I hH
  have hlen : its.toArray.size * k.toNat ≤ sizeLine := by rw [List.size_toArray, ← hl]; exact hz
  have hcap : ¬ its.toArray.size * k.toNat > (2 ^ 63 - 1) / 8 := by
    have : (sizeLine : Nat) ≤ (2 ^ 63 - 1) / 8 := by decide
    omega
  have hfit : ¬ (!Builtin.List.listFitsIndex k) = true := by
    rw [fitsIndex_both h1 h2]
    exact Bool.false_ne_true
  have hlong : ¬ Builtin.List.listTooLong (its.toArray.size * k.toNat) = true := by
    rw [notLongL hlen]
    exact Bool.false_ne_true
  have hnew : List.foldl (fun x1 x2 => x1 ++ x2) #[] (List.replicate (if its.toArray.isEmpty = true then 0 else k.toNat) its.toArray) = (List.replicate k.toNat its).flatten.toArray := by
    have f0 : ∀ m : Nat, List.foldl (fun x1 x2 => x1 ++ x2) #[] (List.replicate m its.toArray) = (List.replicate m its).flatten.toArray := fun m => by
      have := foldl_rep its m []
      rw [List.nil_append] at this
      exact this
    rw [f0]
    cases its with
    | nil => simp
    | cons a r' => rw [if_neg (by simp)]
  refine wpAny_binaryOp_repeat_ref (T := "list") (U := "int") (by decide) ⟨_, e, rfl⟩ (fun s' => typeIs_int s' k t) noFill_list_mul F.fills_int_mul F.slot_int_rmul repeat_list F.slot_int_index.lookup
    (call_meets F.slot_int_rmul (typeIs_int s k t) F.entry_int_rmul (F.args_int_rmul_2 _ _) (int___rmul___int_list k t l its.toArray n)
      ⟨e, rfl, ⟨_, e, rfl⟩, call_meets F.slot_list_mul ⟨_, e, rfl⟩ F.entry_list_mul (F.args_list_mul_2 _ _) (AutoListH.list___mul___list_int_3 l its.toArray n k t hfit hcap hlong) ⟨e, ?_⟩⟩)
  rw [hnew]
  exact ⟨.ref _, _, I.lnew (t' := s.toks) (r.rep k.toNat) (by rw [PyProof.Rows.lm_len_rep_flat, Nat.mul_comm]; exact hz), rfl, q _ I.fresh⟩
theorem dpAll_rep {H : Hp} {vs : List V} {ds : List PyData} (h : DqAll H vs ds) : ∀ k : Nat, DqAll H (List.replicate k vs).flatten (List.replicate k ds).flatten
  | 0 => .nil
  | k + 1 => by
    rw [List.replicate_succ, List.replicate_succ, List.flatten_cons, List.flatten_cons]
    exact dpAll_app h (dpAll_rep h k)
theorem tuple_mul1 (l : Addr) (items : Array Value) (n : Nat) (dd : Option Addr) (sl : Array (Option Value)) (u : Tok) :
    Meets (Builtin.«tuple.__mul__» ⟨[.ref l, .int 1 u], []⟩) (fun _ R s => s.heap.get? l = some { cls := .type "tuple", dict := dd, data := .seq items n, slots := sl } ∧ R (.ok (.ret (Value.ref l))) s) :=
  .of_wp fun prog w A R s h => by
    obtain ⟨hp, g, d, tk, os⟩ := s
    obtain ⟨hl, h⟩ := h
    have f1 := AutoSeq1.idx_int
    have c0 : (decide ((1 : Int) < -(2 ^ 63)) || decide ((1 : Int) ≥ 2 ^ 63)) = false := by decide
    have c1 : (items.isEmpty || (1 : Int) == 1) = true := by rw [show ((1 : Int) == 1) = true from rfl, Bool.or_true]
    wp_walk using wpAny_loadPart' hl
    repeat (first
      | (refine wpAny_ite_false (decide_eq_false (by rw [c0]; exact Bool.false_ne_true)) ?_; wp_walk using wpAny_loadPart' hl)
      | (refine wpAny_ite_true (decide_eq_true c1) ?_; wp_walk using wpAny_loadPart' hl))
    exact ⟨_, rfl, h⟩
def rRepF (K : Frg) : R2 := fun x y H Q => ∃ l k xs, x = .ref l ∧ y = .int k ∧ SqT K H l xs ∧ xs ≠ [] ∧ 2 ≤ k ∧ k ≤ 1000 ∧ xs.length ≤ 1000 ∧ ∀ (p : Addr) (o : Obj), H p = none → o.dict = none → Q (.ref p) (upd H p (.frz o (.tup (List.replicate k.toNat xs).flatten)))
theorem op_repF : OpR X (binaryOp .Mult) (rRepF X.K) := by
  intro pins s σ H x y v u Q I rx ry h
  obtain ⟨l, k, xs, rfl, rfl, hT, hne, h1, h2, hz, q⟩ := h
  cases rx
  obtain ⟨t, rfl⟩ := ry
  obtain ⟨its, r, ⟨⟨cls, dd, data, sl⟩, ho, hc, n, hd⟩, hs⟩ := I.tuple hT
  simp only at hc hd
  subst hc hd
  have hle : its.length = xs.length := r.length.symm
  have hn : its ≠ [] := fun e => hne (by
    rw [e] at hle
    exact List.eq_nil_of_length_eq_zero hle.symm)
  have hi : its.toArray.isEmpty = false := by
    cases its with
    | nil => exact absurd rfl hn
    | cons a b => rfl
  have hsz0 : its.toArray.size = xs.length := by rw [List.size_toArray, hle]
  have hm : ((its.toArray.size : Nat) : Int) * k ≤ 1000000 := by
    rw [hsz0]
    have a1 : ((xs.length : Nat) : Int) * k ≤ 1000 * k := Int.mul_le_mul_of_nonneg_right (by omega) (by omega)
    omega
  have flen : (List.replicate k.toNat its).flatten.length ≤ sizeLine := by
    rw [PyProof.Rows.lm_len_rep_flat, hle, sizeLine_eq]
    have a1 : k.toNat * xs.length ≤ 1000 * 1000 := Nat.mul_le_mul (by omega) hz
    omega
  have c0 : (decide (k < -(2 ^ 63)) || decide (k ≥ 2 ^ 63)) = false := by
    rw [decide_eq_false (by omega), decide_eq_false (by omega)] <;> rfl
  have c1 : (its.toArray.isEmpty || k == 1) = false := by
    rw [hi, Bool.false_or]
    exact beq_eq_false_iff_ne.mpr (by omega)
  have c2 : (decide (k ≤ 0) || its.toArray.isEmpty) = false := by
    rw [hi, Bool.or_false]
    exact decide_eq_false (by omega)
  have c4 : Builtin.Tuple.tupleTooMany (((its.toArray.size : Nat) : Int) * k) = false := by
    unfold Builtin.Tuple.tupleTooMany
    rw [sizeLine_eq]
    exact decide_eq_false (by omega)
  refine wpAny_binaryOp_repeat_ref (T := "tuple") (U := "int") (by decide) ⟨_, ho, rfl⟩ (fun s' => typeIs_int s' k t) noFill_tuple_mul F.fills_int_mul F.slot_int_rmul repeat_tuple F.slot_int_index.lookup
    (call_meets F.slot_int_rmul (typeIs_int s k t) F.entry_int_rmul (F.args_int_rmul_2 _ _) (int_rmul_tuple k t l its.toArray n dd sl)
      ⟨ho, rfl, ⟨_, ho, rfl⟩, call_meets F.slot_tuple_mul ⟨_, ho, rfl⟩ F.entry_tuple_mul (F.args_tuple_mul_2 _ _) (tuple_mulW l its.toArray n dd sl k t c0 c1 c2 (by omega) c4 (by rw [size_rep, List.size_toArray]; exact flen)) ⟨ho, ?_⟩⟩)
  rw [size_rep]
  refine ⟨.ref s.heap.objs.size, _, I.laid (t' := s.toks) (o := .frz { cls := .type "tuple", data := .seq (List.replicate k.toNat its).flatten.toArray } (.tup (List.replicate k.toNat xs).flatten)) (fun b ob q => Heap.get?_push_of_some _ q) (Nat.le_refl _) ?_, rfl, q _ _ (I.hok.fresh (Nat.le_refl _)) rfl⟩
  exact ⟨Heap.get?_push_size _ rfl, by rw [PyProof.Rows.lm_len_rep_flat, sizeLine_eq]; have a1 : k.toNat * xs.length ≤ 1000 * 1000 := Nat.mul_le_mul (by omega) hz; omega, _, r.rep k.toNat, IsTup.new _ _⟩
def rRep1 (K : Frg) : R2 := fun x y H Q => ∃ l xs, x = .ref l ∧ y = .int 1 ∧ SqT K H l xs ∧ Q (.ref l) H
theorem op_rep1 : OpR X (binaryOp .Mult) (rRep1 X.K) := by
  intro pins s σ H x y v u Q I rx ry h
  obtain ⟨l, xs, rfl, rfl, hT, q⟩ := h
  cases rx
  obtain ⟨t, rfl⟩ := ry
  obtain ⟨its, r, ⟨⟨cls, dd, data, sl⟩, ho, hc, n, hd⟩, hs⟩ := I.tuple hT
  simp only at hc hd
  subst hc hd
  refine wpAny_binaryOp_repeat_ref (T := "tuple") (U := "int") (by decide) ⟨_, ho, rfl⟩ (fun s' => typeIs_int s' 1 t) noFill_tuple_mul F.fills_int_mul F.slot_int_rmul repeat_tuple F.slot_int_index.lookup
    (call_meets F.slot_int_rmul (typeIs_int s 1 t) F.entry_int_rmul (F.args_int_rmul_2 _ _) (int_rmul_tuple 1 t l its.toArray n dd sl)
      ⟨ho, rfl, ⟨_, ho, rfl⟩, call_meets F.slot_tuple_mul ⟨_, ho, rfl⟩ F.entry_tuple_mul (F.args_tuple_mul_2 _ _) (tuple_mul1 l its.toArray n dd sl t) ⟨ho, ?_⟩⟩)
  exact ⟨.ref l, H, I, rfl, q⟩
def rMul (K : Frg) : R2 := fun x y H Q => rI CMul (fun i j => .int (i * j)) x y H Q ∨ rRepF K x y H Q ∨ rRepR x y H Q ∨ rRep1 K x y H Q
theorem op_mulA : OpR X (binaryOp .Mult) (rMul X.K) := op_mul.or (op_repF.or (op_repR.or op_rep1))
theorem rep1 (a : List PyData) : repD 1 a = a := by unfold repD; simp
theorem od_mul {K : Frg} : OpD pF (rMul K) pMul := fun W cl O σ H v u x y Q od hx hy ok => by
  unfold pMul at ok
  split at ok
  · rename_i i j
    obtain ⟨hc, ok⟩ := okG_if ok
    exact .inl ⟨i, j, rd_int hx, rd_int hy, hc, ok _ H (Same.refl H) ⟨.int _, fun _ e => nomatch e⟩⟩
  · rename_i a k
    obtain ⟨⟨hne, h2, h3, h4⟩, ok⟩ := okG_if ok
    obtain ⟨p, vs, rfl, hp, ha⟩ := rd_tup hx
    have hl := dpAll_len ha
    by_cases h1 : k = 1
    · subst h1
      have e : repD (1 : Int).toNat a = a := rep1 a
      rw [e] at ok
      exact .inr (.inr (.inr ⟨p, vs, rfl, rd_int hy, sqT_tq (tq_mono hid_le hp), ok _ H (Same.refl H) ⟨.tup hp ha, fun _ e => nomatch e⟩⟩))
    · refine .inr (.inl ⟨p, k, vs, rfl, rd_int hy, sqT_tq (tq_mono hid_le hp), fun e => hne ?_, by omega, h3, by omega, fun q ob hq hd => ok _ _ (same_new hq) (newF_tup od hq hd (dpAll_rep ha _))⟩)
      subst e
      cases ha
      rfl
  · rename_i a k
    obtain ⟨⟨⟨h1, h2⟩, h3⟩, ok⟩ := okG_if ok
    obtain ⟨p, vs, rfl, hp, ha⟩ := rd_lst hx
    exact .inr (.inr (.inl ⟨p, k, vs, rfl, rd_int hy, hp, by omega, by omega, by rw [dpAll_len ha]; exact sz_le h3, fun q hq => ok _ _ (same_new hq) (newF od hq (dpAll_rep ha _))⟩))
  · exact False.elim ok
/-! ### the rest of arithmetic -/
def divOk (i j : Int) : Prop := 0 < j ∧ j < 1073741824
instance (i j : Int) : Decidable (divOk i j) := by unfold divOk; infer_instance
instance (i j : Int) : Decidable (CDiv i j) := by unfold CDiv; infer_instance
instance (i j : Int) : Decidable (CPow i j) := by unfold CPow; infer_instance
def pSub : PyData → PyData → Rs PyData := iOp fun i j => .ok (.int (i - j))
def pMod : PyData → PyData → Rs PyData := iOp fun i j => if 0 < j then .ok (.int (i % j)) else .bad
def pDiv : PyData → PyData → Rs PyData := iOp fun i j => if CDiv i j then .ok (.int (i / j)) else .bad
def pPow : PyData → PyData → Rs PyData := iOp fun i j => if CPow i j then .ok (.int (i ^ j.toNat)) else .bad
theorem od_sub : OpD pF (rI0 fun i j => V.int (i - j)) pSub := op_I0
theorem od_mod : OpD pF (rI (fun _ j => 0 < j) fun i j => V.int (i % j)) pMod := op_IC (C := fun _ j => 0 < j)
theorem od_div : OpD pF (rI CDiv fun i j => V.int (i / j)) pDiv := op_IC
theorem od_pow : OpD pF (rI CPow fun i j => V.int (i ^ j.toNat)) pPow := op_IC
def pLt : PyData → PyData → Rs PyData := iOp fun i j => .ok (.bool (decide (i < j)))
def pLe : PyData → PyData → Rs PyData := iOp fun i j => .ok (.bool (decide (i ≤ j)))
def pGt : PyData → PyData → Rs PyData := iOp fun i j => .ok (.bool (decide (j < i)))
def pGe : PyData → PyData → Rs PyData := iOp fun i j => .ok (.bool (decide (j ≤ i)))
theorem od_lt : OpD pF (rI0 fun i j => V.bl (decide (i < j))) pLt := op_IB
theorem od_le : OpD pF (rI0 fun i j => V.bl (decide (i ≤ j))) pLe := op_IB
theorem od_gt : OpD pF (rI0 fun i j => V.bl (decide (j < i))) pGt := op_IB
theorem od_ge : OpD pF (rI0 fun i j => V.bl (decide (j ≤ i))) pGe := op_IB
/-! ### ==, != of data -/
def pEq (x y : PyData) : Rs PyData := if SeqAt.shaped x = true ∧ SeqAt.shaped y = true then .ok (.bool (PyData.eqv x y)) else .bad
def pNe (x y : PyData) : Rs PyData := if SeqAt.shaped x = true ∧ SeqAt.shaped y = true then .ok (.bool (!PyData.eqv x y)) else .bad
theorem od_eq {K : Frg} : OpD pF (rEqD K) pEq := fun W cl O σ H v u x y Q od hx hy ok => by
  obtain ⟨⟨h1, h2⟩, ok⟩ := okG_if ok
  exact ⟨x, y, dq_dp hx.dq, dq_dp hy.dq, h1, h2, ok _ H (Same.refl H) ⟨.bl _, fun _ e => nomatch e⟩⟩
theorem od_ne {K : Frg} : OpD pF (rNeD K) pNe := fun W cl O σ H v u x y Q od hx hy ok => by
  obtain ⟨⟨h1, h2⟩, ok⟩ := okG_if ok
  exact ⟨x, y, dq_dp hx.dq, dq_dp hy.dq, h1, h2, ok _ H (Same.refl H) ⟨.bl _, fun _ e => nomatch e⟩⟩
def rIsN : R2 := fun x y H Q => y = .non ∧ Q (.bl (decide (x = .non))) H
def rNotN : R2 := fun x y H Q => y = .non ∧ Q (.bl (!decide (x = .non))) H
theorem op_isN1 : OpR X (compareOp .Is) rIsN := op_isN
theorem op_notN1 : OpR X (compareOp .IsNot) rNotN := op_notN
def isNoneD : PyData → Bool
  | .none => true
  | _ => false
def pIs (x y : PyData) : Rs PyData := match y with
  | .none => .ok (.bool (isNoneD x))
  | _ => .bad
def pIsNot (x y : PyData) : Rs PyData := match y with
  | .none => .ok (.bool (!isNoneD x))
  | _ => .bad
theorem rd_isNone {O : List Addr} {H : Hp} {v : V} {x : PyData} (h : RdV O H v x) : decide (v = .non) = isNoneD x := by
  cases x with
  | none => rw [rd_non h]; rfl
  | bool b => rw [rd_bl h]; rfl
  | int i => rw [rd_int h]; rfl
  | str z => rw [rd_str h]; rfl
  | list ds => obtain ⟨p, vs, rfl, _⟩ := rd_lst h; rfl
  | tuple ds => obtain ⟨p, vs, rfl, _⟩ := rd_tup h; rfl
  | dict kv => exact (rd_dict h).elim
theorem od_is : OpD pF rIsN pIs := fun W cl O σ H v u x y Q od hx hy ok => by
  cases y with
  | none => exact ⟨rd_non hy, ok _ H (Same.refl H) ⟨by rw [rd_isNone hx]; exact .bl _, fun _ e => nomatch e⟩⟩
  | _ => exact False.elim ok
theorem od_isNot : OpD pF rNotN pIsNot := fun W cl O σ H v u x y Q od hx hy ok => by
  cases y with
  | none => exact ⟨rd_non hy, ok _ H (Same.refl H) ⟨by rw [rd_isNone hx]; exact .bl _, fun _ e => nomatch e⟩⟩
  | _ => exact False.elim ok
end
end SB

namespace SB
open PySem PySem.Spec PyProof.Rows L2 RZ
section
variable {X : Cx} {W : L2.WX} {cl : Nat → Addr}
/-! ### subscripts -/
def ixD (ds : List PyData) (i : Int) : Rs PyData := match atI ds i with
  | some d => .ok d
  | none => .bad
def pIx : PyData → PyData → Rs PyData
  | .list ds, .int i => ixD ds i
  | .tuple ds, .int i => ixD ds i
  | .str z, .int i => if z.length ≤ sz then (match atI z.cps.toList i with
    | some c => .ok (.str ⟨#[c]⟩)
    | none => .bad) else .bad
  | _, _ => .bad
theorem atI_dq {H : Hp} {vs : List V} {ds : List PyData} (h : DqAll H vs ds) {i : Int} {d : PyData} (e : atI ds i = some d) : ∃ v, atI vs i = some v ∧ Dq H v d := by
  unfold atI at e ⊢
  rw [dpAll_len h]
  cases k : ixN ds.length i with
  | none => rw [k] at e; cases e
  | some j =>
    rw [k] at e
    exact dpAll_get h e
theorem ixD_ok {P : Po PyData V} {W : L2.WX} {cl : Nat → Addr} {O : List Addr} {σ : L2.St} {H : Hp} {ds : List PyData} {i : Int} {Q : VK} (h : OkG P W cl O σ H (ixD ds i) Q) : ∃ d, atI ds i = some d ∧ ∀ v H', Same H H' → P O H H' v d → Q v H' := by
  unfold ixD at h
  cases e : atI ds i with
  | none => rw [e] at h; exact False.elim h
  | some d => rw [e] at h; exact ⟨d, rfl, h⟩
theorem od_ix {K : Frg} : OpD pD (rIx K) pIx := fun W cl O σ H v u x y Q od hx hy ok => by
  unfold pIx at ok
  split at ok
  · rename_i ds i
    obtain ⟨d, e, ok⟩ := ixD_ok ok
    obtain ⟨p, vs, rfl, hp, ha⟩ := rd_lst hx
    obtain ⟨v, ev, dq⟩ := atI_dq ha e
    exact .inl ⟨p, vs, i, v, rfl, rd_int hy, sqL_rd hp, ev, ok _ H (Same.refl H) dq⟩
  · rename_i ds i
    obtain ⟨d, e, ok⟩ := ixD_ok ok
    obtain ⟨p, vs, rfl, hp, ha⟩ := rd_tup hx
    obtain ⟨v, ev, dq⟩ := atI_dq ha e
    exact .inr (.inl ⟨p, vs, i, v, rfl, rd_int hy, sqT_tq (tq_mono hid_le hp), ev, ok _ H (Same.refl H) dq⟩)
  · rename_i z i
    by_cases hl : z.length ≤ sz
    · rw [if_pos hl] at ok
      cases e : atI z.cps.toList i with
      | none => rw [e] at ok; exact False.elim ok
      | some c =>
        rw [e] at ok
        exact .inr (.inr ⟨z, i, c, rd_str hx, rd_int hy, sz_le hl, e, ok _ H (Same.refl H) (.str _)⟩)
    · rw [if_neg hl] at ok; exact False.elim ok
  · exact False.elim ok
theorem d_ix {a b : Expr} {pos : Pos} {ta tb : TE} {fa fb : Sl → Rs PyData} (ha : DX pR X W cl a ta fa) (hb : DX pR X W cl b tb fb) (hs : PlainIx b := by intro _ _; rfl) : DX pD X W cl (.Subscript a b pos) (tOp (rIx X.K) ta tb) (gBin pIx fa fb) :=
  ⟨pe_ix ix_seq ha.pe hb.pe hs, ev_op mD od_ix ha.ev hb.ev⟩
/-! ### slices -/
def rSlF (K : Frg) : V → Option Int → Option Int → Hp → VK → Prop := fun x lo hi H Q => ∃ a xs, x = .ref a ∧ SqT K H a xs ∧
  (HT.sIx xs.length 0 lo = 0 ∧ HT.sIx xs.length xs.length hi = xs.length → Q (.ref a) H) ∧ (¬ (HT.sIx xs.length 0 lo = 0 ∧ HT.sIx xs.length xs.length hi = xs.length) → ∀ (p : Addr) (o : Obj), H p = none → o.dict = none → Q (.ref p) (upd H p (.frz o (.tup (cutV xs lo hi)))))
theorem sl_tupF : SlR X (rSlF X.K) := by
  intro pins s σ H x v vl vu lo hi sl Q I rx hs pl pu h
  obtain ⟨a, xs, rfl, hx, q1, q2⟩ := h
  cases rx
  obtain ⟨its, r, ht, hz⟩ := I.tuple hx
  have hlen : its.toArray.size = xs.length := by rw [List.size_toArray]; exact r.length.symm
  refine ⟨"tuple", _, PyProof.Rows.slot_tuple_getitem.lookup, ht.typeIs, ?_⟩
  by_cases hw : HT.sIx xs.length 0 lo = 0 ∧ HT.sIx xs.length xs.length hi = xs.length
  · exact getItem_tuple_whole ht hs pl pu (by rw [hlen]; exact hw) ⟨.ref a, H, I, rfl, q1 hw⟩
  · refine HT.getItem_tuple_cut ht hs pl pu (by rw [hlen]; exact hw) ?_ (by rw [hlen]; exact hz)
    rw [hlen]
    refine ⟨.ref s.heap.objs.size, _, I.laid (t' := s.toks) (o := .frz { cls := .type "tuple", data := .seq ((its.toArray.toList.drop (HT.sIx xs.length 0 lo)).take (HT.sIx xs.length xs.length hi - HT.sIx xs.length 0 lo)).toArray } (.tup (cutV xs lo hi))) (fun b ob q => Heap.get?_push_of_some _ q) (Nat.le_refl _) ?_, rfl, q2 hw _ _ (I.hok.fresh (Nat.le_refl _)) rfl⟩
    exact ⟨Heap.get?_push_size _ rfl, Nat.le_trans (cutV_length xs lo hi) hz, _, (r.drop (HT.sIx xs.length 0 lo)).take (HT.sIx xs.length xs.length hi - HT.sIx xs.length 0 lo), IsTup.new _ _⟩
structure DO (X : Cx) (W : L2.WX) (cl : Nat → Addr) (e : Option Expr) (t : TO) (f : Sl → Rs (Option Int)) : Prop where
  po : PO X e t
  ev : EvG pI W cl t f
def oNo : Sl → Rs (Option Int) := fun _ => .ok none
def oSo (f : Sl → Rs PyData) : Sl → Rs (Option Int) := fun ρ => ((f ρ).bind asI).bind fun i => .ok (some i)
theorem do_no : DO X W cl none tNoPart oNo := ⟨po_none, fun B O0 O σ H ρ Q I ok => ok none H (Same.refl H) rfl⟩
theorem do_so {e : Expr} {te : TE} {f : Sl → Rs PyData} (h : DX pR X W cl e te f) : DO X W cl (some e) (tPart te) (oSo f) := ⟨po_some h.pe, fun B O0 O σ H ρ Q I ok => by
  refine h.ev B O0 O σ H ρ _ I ?_
  unfold oSo at ok
  revert ok
  cases f ρ with
  | bad => exact fun z => z
  | err c p => exact fun z => z
  | ok x =>
    cases x with
    | int i => exact fun ok v H1 s1 p1 => ⟨i, rd_int p1, ok _ H1 s1 rfl⟩
    | _ => exact fun z => False.elim z⟩
def cutD {α : Type} (xs : List α) (lo hi : Option Int) : List α := (xs.drop (HT.sIx xs.length 0 lo)).take (HT.sIx xs.length xs.length hi - HT.sIx xs.length 0 lo)
theorem dpAll_cut {H : Hp} {vs : List V} {ds : List PyData} (h : DqAll H vs ds) (lo hi : Option Int) : DqAll H (cutV vs lo hi) (cutD ds lo hi) := by
  unfold cutV cutD
  rw [dpAll_len h]
  exact dpAll_take _ (dpAll_drop _ h)
def pSl (x : PyData) (lo hi : Option Int) : Rs PyData := match x with
  | .list ds => .ok (.list (cutD ds lo hi))
  | .tuple ds => .ok (.tuple (cutD ds lo hi))
  | _ => .bad
def gSl (f : Sl → Rs PyData) (l h : Sl → Rs (Option Int)) : Sl → Rs PyData := fun ρ => (f ρ).bind fun x => (l ρ).bind fun lo => (h ρ).bind fun hi => pSl x lo hi
def rSlD (K : Frg) : V → Option Int → Option Int → Hp → VK → Prop := fun x lo hi H Q => rSlL K x lo hi H Q ∨ rSlF K x lo hi H Q
theorem cutD_whole {α : Type} {xs : List α} {lo hi : Option Int} (h : HT.sIx xs.length 0 lo = 0 ∧ HT.sIx xs.length xs.length hi = xs.length) : cutD xs lo hi = xs := by
  unfold cutD
  rw [h.1, h.2, List.drop_zero, Nat.sub_zero, List.take_length]
theorem ev_sl {K : Frg} {te : TE} {tl th : TO} {f : Sl → Rs PyData} {l h : Sl → Rs (Option Int)} (h1 : EvG pR W cl te f) (h2 : EvG pI W cl tl l) (h3 : EvG pI W cl th h) : EvG pF W cl (tSl (rSlD K) te tl th) (gSl f l h) := fun B O0 O σ H ρ Q I ok =>
  h1.go mF I ok fun x v H1 _ s1 I1 p1 ok1 => h2.go mF I1 ok1 fun lo lo' H2 _ s2 I2 p2 ok2 => h3.go mF I2 ok2 fun hi hi' H3 _ s3 I3 p3 ok3 => by
    have e2 : lo' = lo := p2
    have e3 : hi' = hi := p3
    subst e2 e3
    have p1 := RdV.up (s2.trans s3) p1
    cases x with
    | list ds =>
      obtain ⟨p, vs, rfl, hp, ha⟩ := rd_lst p1
      exact .inl ⟨p, vs, rfl, sqL_rd hp, fun q hq => ok3 _ _ (same_new hq) (newF I3.od hq (dpAll_cut ha _ _))⟩
    | tuple ds =>
      obtain ⟨p, vs, rfl, hp, ha⟩ := rd_tup p1
      refine .inr ⟨p, vs, rfl, sqT_tq (tq_mono hid_le hp), fun hw => ?_, fun _ q ob hq hd => ok3 _ _ (same_new hq) (newF_tup I3.od hq hd (dpAll_cut ha _ _))⟩
      rw [dpAll_len ha] at hw
      have ok3 : OkG pF W cl O σ H3 (.ok (.tuple (cutD ds lo' hi'))) Q := ok3
      rw [cutD_whole hw] at ok3
      exact ok3 _ H3 (Same.refl _) ⟨.tup hp ha, fun _ e => nomatch e⟩
    | _ => exact False.elim ok3
theorem d_sl {e : Expr} {lo hi : Option Expr} {p2 pos : Pos} {te : TE} {tl th : TO} {f : Sl → Rs PyData} {l h : Sl → Rs (Option Int)} (he : DX pR X W cl e te f) (hl : DO X W cl lo tl l) (hh : DO X W cl hi th h) : DX pF X W cl (.Subscript e (.Slice lo hi none p2) pos) (tSl (rSlD X.K) te tl th) (gSl f l h) :=
  ⟨pe_slice (sl_list.or sl_tupF) he.pe hl.po hh.po, ev_sl he.ev hl.ev hh.ev⟩
/-! ### calls of built-ins with one argument, with two -/
def Call1 (P : Po PyData V) (r : List V → Hp → VK → Prop) (g : PyData → Rs PyData) : Prop := ∀ (W : L2.WX) (cl : Nat → Addr) (O : List Addr) (σ : L2.St) (H : Hp) (v : V) (x : PyData) (Q : VK), (∀ p ∈ O, H p ≠ none) → RdV O H v x → OkG P W cl O σ H (g x) Q → r [v] H Q
def Call2 (P : Po PyData V) (r : List V → Hp → VK → Prop) (g : PyData → PyData → Rs PyData) : Prop := ∀ (W : L2.WX) (cl : Nat → Addr) (O : List Addr) (σ : L2.St) (H : Hp) (v u : V) (x y : PyData) (Q : VK), (∀ p ∈ O, H p ≠ none) → RdV O H v x → RdV O H u y → OkG P W cl O σ H (g x y) Q → r [v, u] H Q
def gUn (g : PyData → Rs PyData) (f : Sl → Rs PyData) : Sl → Rs PyData := fun ρ => (f ρ).bind g
theorem ev_c1 {P : Po PyData V} {r : List V → Hp → VK → Prop} {g : PyData → Rs PyData} {ta : TE} {fa : Sl → Rs PyData} (m : Mon P) (hr : Call1 P r g) (ha : EvG pR W cl ta fa) : EvG P W cl (tCB r (tCons ta tNil)) (gUn g fa) := fun B O0 O σ H ρ Q I ok =>
  ha.go m I ok fun x v H1 _ s1 I1 p1 ok1 => hr W cl O σ H1 v x Q I1.od p1 ok1
theorem ev_c2 {P : Po PyData V} {r : List V → Hp → VK → Prop} {g : PyData → PyData → Rs PyData} {ta tb : TE} {fa fb : Sl → Rs PyData} (m : Mon P) (hr : Call2 P r g) (ha : EvG pR W cl ta fa) (hb : EvG pR W cl tb fb) : EvG P W cl (tCB r (tCons ta (tCons tb tNil))) (gBin g fa fb) := fun B O0 O σ H ρ Q I ok =>
  ha.go m I ok fun x v H1 _ s1 I1 p1 ok1 => hb.go m I1 ok1 fun y u H2 _ s2 I2 p2 ok2 => hr W cl O σ H2 v u x y Q I2.od (RdV.up s2 p1) p2 ok2
theorem d_b1 {P : Po PyData V} {x : Str} {id : String} {r : List V → Hp → VK → Prop} {g : PyData → Rs PyData} {a : Expr} {p pos : Pos} {ta : TE} {fa : Sl → Rs PyData} (m : Mon P) (hc : CallR X (.builtin id) r) (hr : Call1 P r g) (hg : Gl X x) (hm : X.mg x = none) (hv : bootBuiltins x = some (.builtin id)) (ha : DX pR X W cl a ta fa)
    (hn : x ≠ "__name__" := by decide) (hdb : (x == ("__debug__" : Str)) = false := by decide) (h1 : starEach [a] X.env = (false, eval a X.env) :: starEach [] X.env := by rfl) : DX P X W cl (.Call (.Name x p) [a] [] pos) (tCB r (tCons ta tNil)) (gUn g fa) :=
  ⟨pe_callB hc hg hm hv (pa_cons ha.pe pa_nil h1) hn hdb h1, ev_c1 m hr ha.ev⟩
theorem d_t1 {P : Po PyData V} {x : Str} {T : String} {r : List V → Hp → VK → Prop} {g : PyData → Rs PyData} {a : Expr} {p pos : Pos} {ta : TE} {fa : Sl → Rs PyData} (m : Mon P) (hc : CallR X (.type T) r) (hr : Call1 P r g) (hg : Gl X x) (hm : X.mg x = none) (hv : bootBuiltins x = some (.type T)) (ha : DX pR X W cl a ta fa)
    (hn : x ≠ "__name__" := by decide) (hdb : (x == ("__debug__" : Str)) = false := by decide) (h1 : starEach [a] X.env = (false, eval a X.env) :: starEach [] X.env := by rfl) : DX P X W cl (.Call (.Name x p) [a] [] pos) (tCB r (tCons ta tNil)) (gUn g fa) :=
  ⟨pe_callTy hc hg hm hv (pa_cons ha.pe pa_nil h1) hn hdb h1, ev_c1 m hr ha.ev⟩
theorem d_b2 {P : Po PyData V} {x : Str} {id : String} {r : List V → Hp → VK → Prop} {g : PyData → PyData → Rs PyData} {a b : Expr} {p pos : Pos} {ta tb : TE} {fa fb : Sl → Rs PyData} (m : Mon P) (hc : CallR X (.builtin id) r) (hr : Call2 P r g) (hg : Gl X x) (hm : X.mg x = none) (hv : bootBuiltins x = some (.builtin id)) (ha : DX pR X W cl a ta fa) (hb : DX pR X W cl b tb fb)
    (hn : x ≠ "__name__" := by decide) (hdb : (x == ("__debug__" : Str)) = false := by decide) (h1 : starEach [a, b] X.env = (false, eval a X.env) :: starEach [b] X.env := by rfl) (h2 : starEach [b] X.env = (false, eval b X.env) :: starEach [] X.env := by rfl) (h3 : (backTo pos (starEach [b] X.env)).any (·.1) = false := by rfl) : DX P X W cl (.Call (.Name x p) [a, b] [] pos) (tCB r (tCons ta (tCons tb tNil))) (gBin g fa fb) :=
  ⟨pe_callB hc hg hm hv (pa_cons ha.pe (pa_cons hb.pe pa_nil h2) h1) hn hdb h1 h3, ev_c2 m hr ha.ev hb.ev⟩
/-! #### len -/
def pLen : PyData → Rs PyData
  | .list ds => .ok (.int ds.length)
  | .tuple ds => .ok (.int ds.length)
  | .str z => if z.length ≤ sz then .ok (.int z.length) else .bad
  | _ => .bad
def rLen (K : Frg) : List V → Hp → VK → Prop := fun xs H Q => ∃ x n, xs = [x] ∧ LenV K x H n ∧ Q (.int n) H
theorem cr_len : CallR X (.builtin "len") (rLen X.K) := call_len
theorem c1_len {K : Frg} : Call1 pF (rLen K) pLen := fun W cl O σ H v x Q od hx ok => by
  cases x with
  | list ds =>
    obtain ⟨p, vs, rfl, hp, ha⟩ := rd_lst hx
    exact ⟨_, vs.length, rfl, .inl ⟨vs, sqL_rd hp, rfl⟩, by rw [dpAll_len ha]; exact ok _ H (Same.refl H) ⟨.int _, fun _ e => nomatch e⟩⟩
  | tuple ds =>
    obtain ⟨p, vs, rfl, hp, ha⟩ := rd_tup hx
    exact ⟨_, vs.length, rfl, .inr ⟨vs, sqT_tq (tq_mono hid_le hp), rfl⟩, by rw [dpAll_len ha]; exact ok _ H (Same.refl H) ⟨.int _, fun _ e => nomatch e⟩⟩
  | str z =>
    obtain ⟨hl, ok⟩ := okG_if ok
    exact ⟨.str z, z.length, by rw [rd_str hx], ⟨sz_le hl, rfl⟩, ok _ H (Same.refl H) ⟨.int _, fun _ e => nomatch e⟩⟩
  | _ => exact False.elim ok
/-! #### data that are ints -/
def asInts : List PyData → Option (List Int)
  | [] => some []
  | .int i :: ds => (asInts ds).map (i :: ·)
  | _ :: _ => none
theorem asInts_eq : ∀ {ds : List PyData} {ns : List Int}, asInts ds = some ns → ds = ns.map PyData.int
  | [], ns, h => by cases h; rfl
  | d :: ds, ns, h => by
    cases d with
    | int i =>
      have h : (asInts ds).map (i :: ·) = some ns := h
      cases e : asInts ds with
      | none => rw [e] at h; cases h
      | some ms =>
        rw [e] at h
        cases h
        rw [asInts_eq e]
        rfl
    | _ => cases h
theorem asInts_map (ns : List Int) : asInts (ns.map PyData.int) = some ns := by
  induction ns with
  | nil => rfl
  | cons n ns ih => show (asInts (ns.map PyData.int)).map (n :: ·) = _; rw [ih]; rfl
/-! #### sum -/
def pSum : PyData → Rs PyData
  | .list ds => (match asInts ds with
    | some ns => .ok (.int ns.sum)
    | none => .bad)
  | .tuple ds => (match asInts ds with
    | some ns => .ok (.int ns.sum)
    | none => .bad)
  | _ => .bad
theorem sum_tup {prog : Program} {w : World} {A : Around} {E : Value → Shared → Prop} {s : Shared} {l : Addr} {its : List Value} {ns : List Int} {Q : Value → Shared → Prop} (hh : A.handled = none) (hl : s.heap.IsTuple l its.toArray) (hi : IntsAre its ns)
    (h : ∀ h' tk t', (∀ b o, s.heap.get? b = some o → h'.get? b = some o) → Q (.int ns.sum t') { s with heap := h', toks := tk }) : wpAny (model prog w) A (call (.builtin "sum") [.ref l]) Q E s := by
  obtain ⟨xs, e⟩ := hi.allInts.items
  have hn : numsOf (intItems xs).toList = ns := by rw [← e]; exact hi.numsOf
  rw [nums_intItems] at hn
  rw [e] at hl
  have hlt : l < s.heap.objs.size := by obtain ⟨_, e, _⟩ := hl; exact Heap.lt_size e
  refine call_sum_walkG (PySem.wpAny_pyIter_tuple hl ?_)
  refine ⟨_, _, _, _, _, _, numAt xs, rfl, Walks.tuple (A := A.in1) hh _ l (Nat.ne_of_lt hlt) (intItems xs), ⟨⟨_, Heap.get?_push_size _ rfl, rfl, rfl⟩, hl.push _⟩, fun b hb => ?_, (fun _ _ => intItems_at), fun h' tk t' hk => ?_⟩
  · show b < (s.heap.push _).objs.size
    rw [Heap.size_push]
    rcases List.mem_cons.mp hb with rfl | hb
    · exact Nat.lt_succ_self _
    · rcases List.mem_cons.mp hb with rfl | hb
      · exact Nat.lt_succ_of_lt hlt
      · cases hb
  · have := h h' tk t' fun b o e => hk b o (fun hm => absurd (Heap.lt_size e) ((List.mem_singleton.mp hm) ▸ Nat.lt_irrefl _)) (Heap.get?_push_of_some _ e)
    rw [show (intItems xs).size = xs.size by simp [intItems], preSum_eq, List.take_of_length_le (by simp), hn]
    exact this
def rSumT (K : Frg) : List V → Hp → VK → Prop := fun vs H Q => ∃ (a : Addr) (ns : List Int), vs = [V.ref a] ∧ SqT K H a (ns.map V.int) ∧ Q (.int ns.sum) H
theorem cr_sumT (hc : X.calm = true) : CallR X (.builtin "sum") (rSumT X.K) := by
  intro pins s σ H vs us Q I r h
  obtain ⟨a, ns, rfl, hs, q⟩ := h
  obtain ⟨its, rv, hl, _⟩ := I.tuple hs
  rw [Vals.ref1 r]
  exact sum_tup (I.ok.hd hc) hl rv.ints fun h' tk t' hk => ⟨.int _, H, I.kept hk, ⟨_, rfl⟩, q⟩
def rSumA (K : Frg) : List V → Hp → VK → Prop := fun xs H Q => rSum K xs H Q ∨ rSumT K xs H Q
theorem cr_sumA (hc : X.calm = true) : CallR X (.builtin "sum") (rSumA X.K) := (cr_sum hc).or (cr_sumT hc)
theorem c1_sum {K : Frg} : Call1 pF (rSumA K) pSum := fun W cl O σ H v x Q od hx ok => by
  cases x with
  | list ds =>
    obtain ⟨p, vs, rfl, hp, ha⟩ := rd_lst hx
    unfold pSum at ok
    dsimp only at ok
    cases e : asInts ds with
    | none => rw [e] at ok; exact False.elim ok
    | some ns =>
      rw [e] at ok
      rw [asInts_eq e] at ha
      rw [dpAll_ints_inv ha] at hp
      exact .inl ⟨p, ns, rfl, sqL_rd hp, ok _ H (Same.refl H) ⟨.int _, fun _ e => nomatch e⟩⟩
  | tuple ds =>
    obtain ⟨p, vs, rfl, hp, ha⟩ := rd_tup hx
    unfold pSum at ok
    dsimp only at ok
    cases e : asInts ds with
    | none => rw [e] at ok; exact False.elim ok
    | some ns =>
      rw [e] at ok
      rw [asInts_eq e] at ha
      rw [dpAll_ints_inv ha] at hp
      exact .inr ⟨p, ns, rfl, sqT_tq (tq_mono hid_le hp), ok _ H (Same.refl H) ⟨.int _, fun _ e => nomatch e⟩⟩
  | _ => exact False.elim ok
/-! #### tuple(x), list(x) -/
def pTuple : PyData → Rs PyData
  | .list ds => .ok (.tuple ds)
  | .tuple ds => .ok (.tuple ds)
  | _ => .bad
def pList : PyData → Rs PyData
  | .list ds => .ok (.list ds)
  | .tuple ds => .ok (.list ds)
  | _ => .bad
def rTuple (K : Frg) : List V → Hp → VK → Prop := fun xs H Q => ∃ p ys, xs = [.ref p] ∧ ((SqL K H p ys ∧ ∀ (l : Addr) (o : Obj), H l = none → o.dict = none → Q (.ref l) (upd H l (.frz o (.tup ys)))) ∨ (SqT K H p ys ∧ Q (.ref p) H))
theorem cr_tuple : CallR X (.type "tuple") (rTuple X.K) := by
  intro pins s σ H xs us Q I r h
  obtain ⟨p, ys, rfl, h⟩ := h
  obtain ⟨u, rfl, rx⟩ := vals1 r
  cases rx
  rcases h with ⟨hq, q⟩ | ⟨hq, q⟩
  · obtain ⟨its, r', pl, hz⟩ := I.list hq
    have hlen := r'.length
    refine call_tuple_list pl.isList (fun h' kp => ?_) (by simp only [List.size_toArray] <;> omega)
    have I1 : Inv X pins σ H { s with heap := h' } := I.kept (t' := s.toks) kp
    have I2 : Inv X pins σ (upd H h'.objs.size (.frz { cls := .type "tuple", data := .seq its.toArray } (.tup ys))) { s with heap := h'.push { cls := .type "tuple", data := .seq its.toArray } } :=
      I1.laid (t' := s.toks) (fun b o e => Heap.get?_push_of_some _ e) (Nat.le_refl _) (show ObjOk X.prog X.w _ _ _ (.frz { cls := .type "tuple", data := .seq its.toArray } (.tup ys)) from ⟨Heap.get?_push_size _ rfl, hz, its, r', IsTup.new _ _⟩)
    exact ⟨.ref h'.objs.size, _, I2, rfl, q _ _ (I1.hok.fresh (Nat.le_refl _)) rfl⟩
  · obtain ⟨its, r', pl, hz⟩ := I.tuple hq
    exact call_tuple_same pl ⟨.ref p, H, I, rfl, q⟩
def rList (K : Frg) : List V → Hp → VK → Prop := fun xs H Q => ∃ p ys, xs = [.ref p] ∧ (SqL K H p ys ∨ SqT K H p ys) ∧ ∀ l, H l = none → Q (.ref l) (upd H l (.lst ys))
theorem cr_list : CallR X (.type "list") (rList X.K) := call_list_of
theorem c1_tuple {K : Frg} : Call1 pF (rTuple K) pTuple := fun W cl O σ H v x Q od hx ok => by
  cases x with
  | list ds =>
    obtain ⟨p, vs, rfl, hp, ha⟩ := rd_lst hx
    exact ⟨p, vs, rfl, .inl ⟨sqL_rd hp, fun l ob hl hd => ok _ _ (same_new hl) (newF_tup od hl hd ha)⟩⟩
  | tuple ds =>
    obtain ⟨p, vs, rfl, hp, ha⟩ := rd_tup hx
    exact ⟨p, vs, rfl, .inr ⟨sqT_tq (tq_mono hid_le hp), ok _ H (Same.refl H) ⟨.tup hp ha, fun _ e => nomatch e⟩⟩⟩
  | _ => exact False.elim ok
theorem c1_list {K : Frg} : Call1 pF (rList K) pList := fun W cl O σ H v x Q od hx ok => by
  cases x with
  | list ds =>
    obtain ⟨p, vs, rfl, hp, ha⟩ := rd_lst hx
    exact ⟨p, vs, rfl, .inl (sqL_rd hp), fun l hl => ok _ _ (same_new hl) (newF od hl ha)⟩
  | tuple ds =>
    obtain ⟨p, vs, rfl, hp, ha⟩ := rd_tup hx
    exact ⟨p, vs, rfl, .inr (sqT_tq (tq_mono hid_le hp)), fun l hl => ok _ _ (same_new hl) (newF od hl ha)⟩
  | _ => exact False.elim ok
/-! #### min, max of two ints; abs; int of a truth value -/
def pMin : PyData → PyData → Rs PyData := iOp fun i j => .ok (.int (if j < i then j else i))
def pMax : PyData → PyData → Rs PyData := iOp fun i j => .ok (.int (if j > i then j else i))
def rMin2 : List V → Hp → VK → Prop := fun xs H Q => ∃ i j, xs = [.int i, .int j] ∧ Q (.int (if j < i then j else i)) H
def rMax2 : List V → Hp → VK → Prop := fun xs H Q => ∃ i j, xs = [.int i, .int j] ∧ Q (.int (if j > i then j else i)) H
theorem cr_min2 (hc : X.calm = true) : CallR X (.builtin "min") rMin2 := call_min2 hc
theorem cr_max2 (hc : X.calm = true) : CallR X (.builtin "max") rMax2 := call_max2 hc
theorem c2_min : Call2 pF rMin2 pMin := fun W cl O σ H v u x y Q od hx hy ok => by
  cases x with
  | int i =>
    cases y with
    | int j => exact ⟨i, j, by rw [rd_int hx, rd_int hy], ok _ H (Same.refl H) ⟨.int _, fun _ e => nomatch e⟩⟩
    | _ => exact False.elim ok
  | _ => exact False.elim ok
theorem c2_max : Call2 pF rMax2 pMax := fun W cl O σ H v u x y Q od hx hy ok => by
  cases x with
  | int i =>
    cases y with
    | int j => exact ⟨i, j, by rw [rd_int hx, rd_int hy], ok _ H (Same.refl H) ⟨.int _, fun _ e => nomatch e⟩⟩
    | _ => exact False.elim ok
  | _ => exact False.elim ok
/-! #### isinstance(x, T), T a built-in class -/
def isiD (T : String) : PyData → Rs Bool
  | .none => .ok false
  | .bool _ => .ok (T == "bool" || T == "int")
  | .int _ => .ok (T == "int")
  | .str _ => .ok (T == "str")
  | .list _ => .ok (T == "list")
  | .tuple _ => .ok (T == "tuple")
  | .dict _ => .bad
def tIsi (K : Frg) (T : String) (ta : TE) : TE := tCB (rIsi K) (tCons ta (tCons (tC (.ty T)) tNil))
def isiTypes : List String := ["int", "bool", "str", "list", "tuple"]
theorem kit5 {T : String} (h : T ∈ isiTypes) : kitB "NoneType" T = some false ∧ kitB "bool" T = some (T == "bool" || T == "int") ∧ kitB "int" T = some (T == "int") ∧ kitB "str" T = some (T == "str") ∧ kitB "list" T = some (T == "list") ∧ kitB "tuple" T = some (T == "tuple") := by
  unfold isiTypes at h
  simp only [List.mem_cons, List.not_mem_nil, or_false] at h
  rcases h with rfl | rfl | rfl | rfl | rfl <;> decide +kernel
theorem tyx_lst {K : Frg} {H : Hp} {p : Addr} {vs : List V} (h : Rd H p (.lst vs)) : TyX K H (.ref p) (.type "list") := by
  rcases h with h | ⟨o, h⟩
  · exact .base (.lst h)
  · exact .base (.frz h)
theorem tyx_tup {K : Frg} {H : Hp} {p : Addr} {vs : List V} (h : Rd H p (.tup vs)) : TyX K H (.ref p) (.type "tuple") := by
  rcases h with h | ⟨o, h⟩
  · exact .base (.tup h)
  · exact .fTuple h
def gIsi (T : String) (f : Sl → Rs PyData) : Sl → Rs Bool := fun ρ => (f ρ).bind (isiD T)
theorem ev_isi {K : Frg} {T : String} (hT : T ∈ isiTypes) {ta : TE} {f : Sl → Rs PyData} (h : EvG pR W cl ta f) : EvG pF W cl (tIsi K T ta) (gB (gIsi T f)) := fun B O0 O σ H ρ Q I ok => by
  have k := kit5 hT
  refine h B O0 O σ H ρ _ I ?_
  unfold gB gIsi at ok
  revert ok
  cases f ρ with
  | bad => exact fun z => z
  | err c p => exact fun z => z
  | ok x =>
    intro ok v H1 s1 p1
    cases x with
    | none => exact ⟨v, .ty T, .type "NoneType", .type T, _, rfl, .ty T, by rw [rd_non p1]; exact .base .non, kit_ty k.1, ok _ H1 s1 ⟨.bl _, fun _ e => nomatch e⟩⟩
    | bool b => exact ⟨v, .ty T, .type "bool", .type T, _, rfl, .ty T, by rw [rd_bl p1]; exact .base (.bl b), kit_ty k.2.1, ok _ H1 s1 ⟨.bl _, fun _ e => nomatch e⟩⟩
    | int i => exact ⟨v, .ty T, .type "int", .type T, _, rfl, .ty T, by rw [rd_int p1]; exact .base (.int i), kit_ty k.2.2.1, ok _ H1 s1 ⟨.bl _, fun _ e => nomatch e⟩⟩
    | str z => exact ⟨v, .ty T, .type "str", .type T, _, rfl, .ty T, by rw [rd_str p1]; exact .base (.str z), kit_ty k.2.2.2.1, ok _ H1 s1 ⟨.bl _, fun _ e => nomatch e⟩⟩
    | list ds =>
      obtain ⟨p, vs, rfl, hp, ha⟩ := rd_lst p1
      exact ⟨_, .ty T, .type "list", .type T, _, rfl, .ty T, tyx_lst hp, kit_ty k.2.2.2.2.1, ok _ H1 s1 ⟨.bl _, fun _ e => nomatch e⟩⟩
    | tuple ds =>
      obtain ⟨p, vs, rfl, hp, ha⟩ := rd_tup p1
      exact ⟨_, .ty T, .type "tuple", .type T, _, rfl, .ty T, tyx_tup (tq_rd (tq_mono hid_le hp)), kit_ty k.2.2.2.2.2, ok _ H1 s1 ⟨.bl _, fun _ e => nomatch e⟩⟩
    | dict kv => exact (rd_dict p1).elim
end
end SB

namespace SB
open PySem PySem.Spec PyProof.Rows L2 RZ
section
variable {X : Cx} {W : L2.WX} {cl : Nat → Addr}
theorem d_isi {T : String} {x : Str} {a : Expr} {p q pos : Pos} {ta : TE} {f : Sl → Rs PyData} (hT : T ∈ isiTypes) (hg : Gl X "isinstance") (hm : X.mg "isinstance" = none) (hgT : Gl X x) (hmT : X.mg x = none) (hvT : bootBuiltins x = some (.type T)) (ha : DX pR X W cl a ta f)
    (hn : x ≠ "__name__" := by decide) (hdb : (x == ("__debug__" : Str)) = false := by decide)
    (h1 : starEach [a, .Name x q] X.env = (false, eval a X.env) :: starEach [.Name x q] X.env := by rfl) (h2 : starEach [.Name x q] X.env = (false, eval (.Name x q) X.env) :: starEach [] X.env := by rfl) (h3 : (backTo pos (starEach [.Name x q] X.env)).any (·.1) = false := by rfl) :
    DX pF X W cl (.Call (.Name "isinstance" p) [a, .Name x q] [] pos) (tIsi X.K T ta) (gB (gIsi T f)) :=
  ⟨pe_callB call_isi hg hm (by decide +kernel) (pa_cons ha.pe (pa_cons (pe_bltn hgT hmT hvT rfl hn hdb) pa_nil h2) h1) (by decide) (by decide) h1 h3, ev_isi hT ha.ev⟩
/-! ### x in t, x not in t -/
def flatD : PyData → Bool
  | .none => true
  | .bool _ => true
  | .int _ => true
  | .str _ => true
  | _ => false
def pIn (neg : Bool) (x y : PyData) : Rs PyData := match y with
  | .tuple ds => if flatD x = true ∧ ds.all flatD = true then .ok (.bool (if neg then !ds.any (fun z => PyData.eqv z x) else ds.any (fun z => PyData.eqv z x))) else .bad
  | .list ds => if SeqAt.shaped x = true ∧ SeqAt.shaped (.list ds) = true then .ok (.bool (if neg then !ds.any (fun z => PyData.eqv z x) else ds.any (fun z => PyData.eqv z x))) else .bad
  | _ => .bad
theorem flat_dq {H : Hp} {v : V} {d : PyData} (h : Dq H v d) (f : flatD d = true) : flatV v = true := by
  cases h with
  | non => rfl
  | bl b => rfl
  | int i => rfl
  | str z => rfl
  | lst _ _ => cases f
  | tup _ _ => cases f
theorem eqV_dq {H : Hp} {v u : V} {d e : PyData} (h : Dq H v d) (k : Dq H u e) (f : flatD d = true) (g : flatD e = true) : eqV v u = PyData.eqv d e := by
  cases h <;> cases k <;> first | (cases f; done) | (cases g; done) | (simp only [eqV, PyData.eqv]; done) | (simp [eqV, PyData.eqv]; done) | skip
  all_goals (simp only [eqV, PyData.eqv] <;> rfl)
theorem inV_dq {H : Hp} {u : V} {e : PyData} (k : Dq H u e) (g : flatD e = true) : ∀ {vs : List V} {ds : List PyData}, DqAll H vs ds → ds.all flatD = true → vs.all flatV = true ∧ inV u vs = ds.any (fun z => PyData.eqv z e)
  | _, _, .nil, _ => ⟨rfl, rfl⟩
  | v :: vs, d :: ds, .cons h t, f => by
    rw [List.all_cons, Bool.and_eq_true] at f
    obtain ⟨a, b⟩ := inV_dq k g t f.2
    refine ⟨by rw [List.all_cons, flat_dq h f.1, a]; rfl, ?_⟩
    unfold inV at b ⊢
    rw [List.any_cons, List.any_cons, b, eqV_dq h k f.1 g]
def rInA (K : Frg) (neg : Bool) : R2 := fun x y H Q => rIn K neg x y H Q ∨ (if neg = true then rNotInD K x y H Q else rInD K x y H Q)
theorem op_inA (hu : X.A.units + 65 < cLine) : OpR X (compareOp .In) (rInA X.K false) := op_in_seq.or (op_inD hu)
theorem op_notInA (hu : X.A.units + 65 < cLine) : OpR X (compareOp .NotIn) (rInA X.K true) := op_notIn_seq.or (op_notInD hu)
theorem od_in {K : Frg} (neg : Bool) : OpD pF (rInA K neg) (pIn neg) := fun W cl O σ H v u x y Q od hx hy ok => by
  cases y with
  | tuple ds =>
    obtain ⟨⟨h1, h2⟩, ok⟩ := okG_if ok
    obtain ⟨p, vs, rfl, hp, ha⟩ := rd_tup hy
    obtain ⟨a, b⟩ := inV_dq (dp_mono (Same.refl _) hx.dq) h1 (dpAll_mono hid_le ha) h2
    refine .inl ⟨p, vs, rfl, .inr (sqT_tq (tq_mono hid_le hp)), flat_dq hx.dq h1, a, ?_⟩
    rw [b]
    exact ok _ H (Same.refl H) ⟨.bl _, fun _ e => nomatch e⟩
  | list ds =>
    obtain ⟨⟨h1, h2⟩, ok⟩ := okG_if ok
    refine .inr ?_
    cases neg with
    | true => exact ⟨x, ds, dq_dp hx.dq, dq_dp hy.dq, h1, h2, ok _ H (Same.refl H) ⟨.bl _, fun _ e => nomatch e⟩⟩
    | false => exact ⟨x, ds, dq_dp hx.dq, dq_dp hy.dq, h1, h2, ok _ H (Same.refl H) ⟨.bl _, fun _ e => nomatch e⟩⟩
  | _ => exact False.elim ok
end
/-! ### sorted of ints -/
def insI (x : Int) : List Int → List Int
  | [] => [x]
  | y :: ys => if x ≤ y then x :: y :: ys else y :: insI x ys
def sortI : List Int → List Int
  | [] => []
  | x :: xs => insI x (sortI xs)
theorem insI_perm (x : Int) : ∀ ys : List Int, (insI x ys).Perm (x :: ys)
  | [] => List.Perm.refl _
  | y :: ys => by
    unfold insI
    split
    · exact List.Perm.refl _
    · exact ((insI_perm x ys).cons y).trans (List.Perm.swap x y ys)
theorem sortI_perm : ∀ xs : List Int, (sortI xs).Perm xs
  | [] => List.Perm.refl _
  | x :: xs => (insI_perm x (sortI xs)).trans ((sortI_perm xs).cons x)
theorem insI_sorted (x : Int) : ∀ {ys : List Int}, ys.Pairwise (· ≤ ·) → (insI x ys).Pairwise (· ≤ ·)
  | [], _ => List.pairwise_cons.mpr ⟨(fun _ h => nomatch h), List.Pairwise.nil⟩
  | y :: ys, h => by
    obtain ⟨h1, h2⟩ := List.pairwise_cons.mp h
    unfold insI
    by_cases e : x ≤ y
    · rw [if_pos e]
      refine List.pairwise_cons.mpr ⟨fun z hz => ?_, h⟩
      rcases List.mem_cons.mp hz with rfl | hz
      · exact e
      · exact Int.le_trans e (h1 z hz)
    · rw [if_neg e]
      refine List.pairwise_cons.mpr ⟨fun z hz => ?_, insI_sorted x h2⟩
      rcases List.mem_cons.mp ((insI_perm x ys).mem_iff.mp hz) with rfl | hz
      · omega
      · exact h1 z hz
theorem sortI_sorted : ∀ xs : List Int, (sortI xs).Pairwise (· ≤ ·)
  | [] => List.Pairwise.nil
  | x :: xs => insI_sorted x (sortI_sorted xs)
theorem sorted_unique : ∀ {xs ys : List Int}, xs.Perm ys → xs.Pairwise (· ≤ ·) → ys.Pairwise (· ≤ ·) → xs = ys
  | [], ys, p, _, _ => (List.Perm.nil_eq p)
  | x :: xs, [], p, _, _ => absurd p.length_eq (by simp)
  | x :: xs, y :: ys, p, h, k => by
    obtain ⟨h1, h2⟩ := List.pairwise_cons.mp h
    obtain ⟨k1, k2⟩ := List.pairwise_cons.mp k
    have e : x = y := by
      have a : x ∈ y :: ys := p.mem_iff.mp List.mem_cons_self
      have b : y ∈ x :: xs := p.mem_iff.mpr List.mem_cons_self
      rcases List.mem_cons.mp a with e | a
      · exact e
      · rcases List.mem_cons.mp b with e | b
        · exact e.symm
        · have := k1 x a
          have := h1 y b
          omega
    subst e
    rw [sorted_unique ((List.perm_cons x).mp p) h2 k2]
theorem sortI_of {xs ys : List Int} (p : ys.Perm xs) (h : ys.Pairwise (· ≤ ·)) : ys = sortI xs := sorted_unique (p.trans (sortI_perm xs).symm) h (sortI_sorted xs)
theorem sortI_len (xs : List Int) : (sortI xs).length = xs.length := (sortI_perm xs).length_eq
def pSorted : PyData → Rs PyData
  | .list ds => (match asInts ds with
    | some ns => .ok (.list ((sortI ns).map PyData.int))
    | none => .bad)
  | .tuple ds => (match asInts ds with
    | some ns => .ok (.list ((sortI ns).map PyData.int))
    | none => .bad)
  | _ => .bad
section
variable {prog : Program} {w : World} {A : Around} {E : Value → Shared → Prop} {s : Shared}
/-- sorted of a list or a tuple -/
theorem sorted_seq {l : Addr} {T : String} {o : Obj} {n : Nat} {vs : List Value} {ltv : Value → Value → Bool} {Q : Value → Shared → Prop} (O : SrtO.Swo ltv) (hT : T = "list" ∨ T = "tuple") (ho : s.heap.get? l = some o) (hc : o.cls = .type T) (hd : o.data = .seq vs.toArray n) (hz : vs.length ≤ sizeLine)
    (hS : 2 ≤ vs.length → ∀ (h₁ : Heap) (a : Addr), h₁.get? a = some (seqObj "list" vs.toArray 0) → (∀ b o, s.heap.get? b = some o → b ≠ a ∧ h₁.get? b = some o) → SrtO.SortableO prog w A.in1.in1 { s with heap := h₁ } a vs ltv)
    (h : ∀ (out : List Value) (h1 h2 : Heap) (p : Addr) (ep : Nat), SrtO.Srtd ltv out → SrtO.Stb ltv out vs → (∀ b o, s.heap.get? b = some o → h1.get? b = some o) → (∀ b o, h1.get? b = some o → h2.get? b = some o) → h1.objs.size ≤ p → h2.get? p = some { cls := .type "list", data := .seq out.toArray ep } → Q (.ref p) { s with heap := h2 }) :
    wpAny (model prog w) A (call (.builtin "sorted") [.ref l]) Q E s := by
  refine Calls.call_function_entry kind_sorted plain_sorted entry_sorted (args_sorted1 _) ?_
  unfold Builtin.«sorted»
  refine wpAny_bind (m := checkCount "sorted" 1 1 _) (wpAny_pure ?_)
  refine wpAny_bind (wpAny_collect_seq l hT ho hc hd (fun h' hk => ?_) (by rw [List.size_toArray]; exact hz))
  refine wpAny_bind (wpAny_newList ?_ (by simpa using hz))
  have hoL : (h'.push (seqObj "list" vs.toArray 0)).get? h'.objs.size = some (seqObj "list" vs.toArray 0) := Heap.get?_push_size _ rfl
  have keep : ∀ b o, s.heap.get? b = some o → b ≠ h'.objs.size ∧ (h'.push (seqObj "list" vs.toArray 0)).get? b = some o := fun b o q =>
    ⟨Nat.ne_of_lt (Heap.lt_size (hk _ _ q)), Heap.get?_push_of_some _ (hk _ _ q)⟩
  show wpAny _ _ _ _ _ { s with heap := h'.push (seqObj "list" vs.toArray 0) }
  refine wpAny_bind (wpAny_holding (wpAny_call_entry slot_list_sort ⟨_, hoL, rfl⟩ entry_list_sort (SrtO.list_sort_ord O hoL hz (fun h2 => hS h2 _ _ hoL keep) fun out hs hb => ⟨_, rfl, ?_⟩) (args_list_sort _)))
  obtain ⟨ep, he'⟩ := PyProof.Rows.sortedHeap_at (vs := vs) (out := out.toArray) hoL
  refine wpAny_pure ⟨_, rfl, h out h' _ h'.objs.size ep hs hb hk (fun b o q => ?_) (Nat.le_refl _) he'⟩
  have q1 : (h'.push (seqObj "list" vs.toArray 0)).get? b = some o := Heap.get?_push_of_some _ q
  rw [PyProof.Rows.sortedHeap_old (Nat.ne_of_lt (Heap.lt_size q)) (Heap.lt_size q1)]
  exact q1
end
section
variable {X : Cx} {W : L2.WX} {cl : Nat → Addr}
def rSortA (K : Frg) : List V → Hp → VK → Prop := fun vs H Q => ∃ (a : Addr) (ns : List Int), vs = [V.ref a] ∧ (SqL K H a (ns.map V.int) ∨ SqT K H a (ns.map V.int)) ∧ ∀ p, H p = none → Q (.ref p) (upd H p (.lst ((sortI ns).map V.int)))
theorem cr_sortA : CallR X (.builtin "sorted") (rSortA X.K) := by
  intro pins s σ H vs us Q I r h
  obtain ⟨a, ns, rfl, hs, q⟩ := h
  rw [Vals.ref1 r]
  obtain ⟨its, T, o, n, hT, rv, ho, hc, hd, hz⟩ : ∃ (its : List Value) (T : String) (o : Obj) (n : Nat), (T = "list" ∨ T = "tuple") ∧ Vals (ns.map V.int) its ∧ s.heap.get? a = some o ∧ o.cls = .type T ∧ o.data = .seq its.toArray n ∧ (ns.map V.int).length ≤ sizeLine := by
    rcases hs with hs | hs
    · obtain ⟨its, rv, ⟨o, n, ho, hc, _, hd⟩, hz⟩ := I.list hs
      exact ⟨its, "list", o, n, .inl rfl, rv, ho, hc, hd, hz⟩
    · obtain ⟨its, rv, ⟨o, ho, hc, n, hd⟩, hz⟩ := I.tuple hs
      exact ⟨its, "tuple", o, n, .inr rfl, rv, ho, hc, hd, hz⟩
  have hi := rv.ints
  refine sorted_seq SrtO.swo_int hT ho hc hd (by rw [← rv.length]; exact hz) (fun h2 h₁ a' _ _ => SrtO.ints_sortable hi h2) fun out g1 h2 p ep h1 hb hk hk2 hp he => ?_
  obtain ⟨k1, k2, k3⟩ := SrtO.ints_out hi h1 hb
  have es : out.map SrtO.iv = sortI ns := sortI_of k2 k3
  rw [es] at k1
  have hlen : ((sortI ns).map V.int).length ≤ sizeLine := by
    rw [List.length_map, sortI_len]
    rw [List.length_map] at hz
    exact hz
  exact ⟨.ref p, upd H p (.lst ((sortI ns).map V.int)), (I.kept (t' := s.toks) hk).laid (t' := s.toks) hk2 hp ⟨hlen, out, ep, vals_of_ints k1, he⟩, rfl, q p ((I.kept (t' := s.toks) hk).hok.fresh hp)⟩
theorem c1_sorted {K : Frg} : Call1 pF (rSortA K) pSorted := fun W cl O σ H v x Q od hx ok => by
  cases x with
  | list ds =>
    obtain ⟨p, vs, rfl, hp, ha⟩ := rd_lst hx
    unfold pSorted at ok
    dsimp only at ok
    cases e : asInts ds with
    | none => rw [e] at ok; exact False.elim ok
    | some ns =>
      rw [e] at ok
      rw [asInts_eq e] at ha
      rw [dpAll_ints_inv ha] at hp
      exact ⟨p, ns, rfl, .inl (sqL_rd hp), fun q hq => ok _ _ (same_new hq) (newF od hq (dpAll_ints _))⟩
  | tuple ds =>
    obtain ⟨p, vs, rfl, hp, ha⟩ := rd_tup hx
    unfold pSorted at ok
    dsimp only at ok
    cases e : asInts ds with
    | none => rw [e] at ok; exact False.elim ok
    | some ns =>
      rw [e] at ok
      rw [asInts_eq e] at ha
      rw [dpAll_ints_inv ha] at hp
      exact ⟨p, ns, rfl, .inr (sqT_tq (tq_mono hid_le hp)), fun q hq => ok _ _ (same_new hq) (newF od hq (dpAll_ints _))⟩
  | _ => exact False.elim ok
end
end SB

namespace SB
open PySem PySem.Spec PyProof.Rows L2 RZ
section
variable {X : Cx} {W : L2.WX} {cl : Nat → Addr}
theorem Rp.ownAt {B : Hp} {O0 O : List Addr} {σ : L2.St} {H : Hp} {ρ : Sl} (I : Rp B O0 O σ H ρ) {i : Nat} {xs : List PyData} (h : ρ[i]? = some (some (.own xs))) : ∃ p vs, σ[i]? = some (some (.ref p)) ∧ p ∈ O ∧ H p = some (.lst vs) ∧ DqAll (hid O H) vs xs := by
  obtain ⟨v, hv, p, vs, rfl, hO, bp, hp, ha⟩ := I.sl i _ h
  exact ⟨p, vs, hv, hO, hp, ha⟩
theorem tyL {K : Frg} {H : Hp} {p : Addr} {vs : List V} (h : H p = some (.lst vs)) : tyV K "list" (.ref p) H := .inl ⟨rfl, _, SqL.of h⟩
/-! ### x.append(e) -/
def sApp (i : Nat) (f : Sl → Rs PyData) : Sl → Ot := fun ρ => match ρ[i]? with
  | some (some (.own xs)) => oBind (f ρ) ρ fun d => if xs.length < sz then .nx (ρ.set i (some (.own (xs ++ [d])))) else .bad
  | _ => .bad
theorem okS_if {W : L2.WX} {cl : Nat → Addr} {B : Hp} {O0 O : List Addr} {H : Hp} {c : Prop} [Decidable c] {a : Ot} {D : Ends} (h : OkS W cl B O0 O H (if c then a else .bad) D) : c ∧ OkS W cl B O0 O H a D := by
  by_cases e : c
  · rw [if_pos e] at h; exact ⟨e, h⟩
  · rw [if_neg e] at h; exact False.elim h
theorem ev_app {K : Frg} {te : TE} {f : Sl → Rs PyData} (i : Nat) (he : EvG pD W cl te f) : EvS W cl (tDrop (tBM K "list" rAppend (tVar i) (tCons te tNil))) (sApp i f) := fun B O0 O σ H ρ D I ok => by
  unfold sApp at ok
  split at ok
  · rename_i xs e
    obtain ⟨p, vs, hv, hO, hp, ha⟩ := I.ownAt e
    refine ⟨.ref p, hv, tyL hp, ?_⟩
    refine he.goS I ok fun d v H1 _ s1 I1 p1 ok1 => ?_
    obtain ⟨hl, ok1⟩ := okS_if ok1
    obtain ⟨q, us, hv', hO', hq, ha'⟩ := I1.ownAt e
    rw [hv] at hv'; cases hv'
    obtain ⟨J, sm⟩ := I1.mut e hv hq hO (dpAll_app ha' (.cons p1 .nil))
    exact ⟨p, us, v, rfl, rfl, hq, by rw [dpAll_len ha']; exact sz_lt hl, ok1 _ _ _ J sm⟩
  · exact False.elim ok
theorem ds_app {i : Nat} {x : Str} {e : Expr} {te : TE} {f : Sl → Rs PyData} {p apos cpos pos : Pos} (he : DX pD X W cl e te f) (hN : X.N[i]? = some x := by rfl) (hv : Vis X.env.scope x := by first | exact Or.inl rfl | exact Or.inr (Or.inl rfl) | exact Or.inr (Or.inr rfl)) (hd : (x == ("__debug__" : Str)) = false := by decide)
    (hcd : (x == ("__classdict__" : Str)) = false := by decide) (hbase : attributeBase (.Name x p) "append" X.env (eval (.Name x p) X.env) = eval (.Name x p) X.env := by rfl)
    (hfew : ((backTo cpos (starEach [e] X.env)).all (fun x => !x.1) && (backToKw cpos (keywordEach [] X.env)).all (fun x => x.1.isSome) && decide ([e].length + ([] : List Keyword).length + (if ([] : List Keyword).isEmpty then 0 else 1) < 30)) = true := by rfl)
    (hline : (apos.endLine == cpos.line) = true := by rfl) (h1 : starEach [e] X.env = (false, eval e X.env) :: starEach [] X.env := by rfl) (hpl : (backTo cpos (starEach [] X.env)).any (·.1) = false := by rfl)
    (hs : swapsWith (.Call (.Attribute (.Name x p) "append" apos) [e] [] cpos) none pos.line X.env = pure false := by rfl) :
    DS X W cl (.Expr (.Call (.Attribute (.Name x p) "append" apos) [e] [] cpos) pos) (tDrop (tBM X.K "list" rAppend (tVar i) (tCons te tNil))) (sApp i f) :=
  ⟨ps_expr (pe_bm PySem.F.plainAttrs_list PySem.F.slot_list_append PySem.F.type_list_append mt_append (pe_var hN hv hd hcd) (pa_cons he.pe pa_nil h1) hbase hfew hline h1 hpl) hs, ev_app i he.ev⟩
/-! ### x.extend(e) -/
theorem list_extend_tupW (l : Addr) (items : Array Value) (n : Nat) (b : Addr) (items2 : Array Value) (n2 : Nat) (dd : Option Addr) (sl : Array (Option Value)) (hs0 : ¬(!items.isEmpty && Builtin.List.listTooLong (items.size + items2.size)) = true) (hs1 : items.size ≤ sizeLine) (hs2 : items.size + items2.size ≤ sizeLine + 1) :
    Meets (Builtin.«list.extend» ⟨[.ref l, .ref b], []⟩) (fun _ R s => s.heap.get? l = some { cls := .type "list", dict := none, data := .seq items n, slots := #[] } ∧ s.heap.get? b = some { cls := .type "tuple", dict := dd, data := .seq items2 n2, slots := sl } ∧ R (.ok (.ret Value.none)) { s with heap := s.heap.update l (Obj.mapSeq fun x => x ++ items2), toks := s.toks }) :=
  .of_wp fun prog w A R s h => by
    obtain ⟨hp, g, d, tk, os⟩ := s; obtain ⟨hl, hb, h⟩ := h; have f1 := AutoSeq1.idx_int; have f2 := AutoSeq1.sub_tuple_tuple; have f3 := AutoSeq1.sub_list_list; have f4 := AutoSeq1.sub_tuple_list; have f5 := AutoSeq1.sub_list_tuple;
    have hz' : (items ++ items2).size ≤ sizeLine + 1 := by rw [Array.size_append]; exact hs2
    wp_walk using (wpAny_updateSeq hl rfl (hz := hs1) (_hz' := hz')), wpAny_loadPart' hl, wpAny_loadPart' hb; exact ⟨_, rfl, h⟩
def rExtA (K : Frg) : V → List V → Hp → VK → Prop := fun x vs H Q => ∃ l b xs zs, x = .ref l ∧ vs = [.ref b] ∧ H l = some (.lst xs) ∧ (Rd H b (.lst zs) ∨ SqT K H b zs) ∧ xs.length + zs.length ≤ sizeLine ∧ Q .non (upd H l (.lst (xs ++ zs)))
theorem mt_extA : MtM X "list.extend" (rExtA X.K) := by
  intro pins s σ H x vs v us Q I rx rv h
  obtain ⟨l, b, xs, zs, rfl, rfl, hH, hB, hz, q⟩ := h
  cases rx
  obtain ⟨u, rfl, ru⟩ := rv.one
  cases ru
  obtain ⟨z, its, n, r, hl, e⟩ := I.lstM hH
  rcases hB with hB | hB
  · obtain ⟨z2, its2, n2, r2, hl2, e2⟩ := Inv.rdL I hB
    have hsz : its.toArray.size + its2.toArray.size ≤ sizeLine := by rw [List.size_toArray, List.size_toArray]; omega
    have hlong : ¬ (!its.toArray.isEmpty && Builtin.List.listTooLong (its.toArray.size + its2.toArray.size)) = true := by
      rw [notLongL hsz, Bool.and_false]
      exact Bool.false_ne_true
    refine call_meets F.slot_list_extend ⟨_, e, rfl⟩ F.entry_list_extend (F.args_list_extend_2 _ _)
      (AutoSeq1.list_extend_list_list_0 l its.toArray n b its2.toArray n2 hlong (by rw [List.size_toArray]; omega) (by omega)) ⟨e, e2, ?_⟩
    refine ⟨.non, _, I.lset (its' := its ++ its2) hH e (by simp) (r.append r2) ?_, rfl, q⟩
    rw [List.length_append]
    omega
  · obtain ⟨its2, r2, ⟨⟨cls2, dd2, data2, sl2⟩, e2, hc2, n2, hd2⟩, hz2⟩ := I.tuple hB
    simp only at hc2 hd2
    subst hc2 hd2
    have hl2 := r2.length
    have hsz : its.toArray.size + its2.toArray.size ≤ sizeLine := by rw [List.size_toArray, List.size_toArray]; omega
    have hlong : ¬ (!its.toArray.isEmpty && Builtin.List.listTooLong (its.toArray.size + its2.toArray.size)) = true := by
      rw [notLongL hsz, Bool.and_false]
      exact Bool.false_ne_true
    refine call_meets F.slot_list_extend ⟨_, e, rfl⟩ F.entry_list_extend (F.args_list_extend_2 _ _)
      (list_extend_tupW l its.toArray n b its2.toArray n2 dd2 sl2 hlong (by rw [List.size_toArray]; omega) (by omega)) ⟨e, e2, ?_⟩
    refine ⟨.non, _, I.lset (its' := its ++ its2) hH e (by simp) (r.append r2) ?_, rfl, q⟩
    rw [List.length_append]
    omega
def sExt (i : Nat) (f : Sl → Rs PyData) : Sl → Ot := fun ρ => match ρ[i]? with
  | some (some (.own xs)) => oBind ((f ρ).bind asSeq) ρ fun ds => if xs.length + ds.length ≤ sz then .nx (ρ.set i (some (.own (xs ++ ds)))) else .bad
  | _ => .bad
theorem ev_ext {K : Frg} {te : TE} {f : Sl → Rs PyData} (i : Nat) (he : EvG pR W cl te f) : EvS W cl (tDrop (tBM K "list" (rExtA K) (tVar i) (tCons te tNil))) (sExt i f) := fun B O0 O σ H ρ D I ok => by
  unfold sExt at ok
  split at ok
  · rename_i xs e
    obtain ⟨p, vs, hv, hO, hp, ha⟩ := I.ownAt e
    refine ⟨.ref p, hv, tyL hp, ?_⟩
    refine he B O0 O σ H ρ _ I ?_
    revert ok
    cases f ρ with
    | bad => exact fun z => z
    | err c p => exact fun ok d H' s eo => ok σ O H' d (I.mono s) (hid_same s) eo
    | ok x =>
      intro ok v H1 s1 p1
      have I1 := I.mono s1
      obtain ⟨q, us, hv', hO', hq, ha'⟩ := I1.ownAt e
      rw [hv] at hv'; cases hv'
      cases x with
      | list ds =>
        obtain ⟨hl, ok⟩ := okS_if ok
        obtain ⟨b, ws, rfl, hb, hw⟩ := rd_lst p1
        obtain ⟨J, sm⟩ := I1.mut e hv hq hO (dpAll_app ha' hw)
        exact ⟨p, b, us, ws, rfl, rfl, hq, .inl hb, by rw [dpAll_len ha', dpAll_len hw]; exact sz_le hl, ok _ _ _ J ((hid_same s1).trans sm)⟩
      | tuple ds =>
        obtain ⟨hl, ok⟩ := okS_if ok
        obtain ⟨b, ws, rfl, hb, hw⟩ := rd_tup p1
        obtain ⟨J, sm⟩ := I1.mut e hv hq hO (dpAll_app ha' hw)
        exact ⟨p, b, us, ws, rfl, rfl, hq, .inr (sqT_tq (tq_mono hid_le hb)), by rw [dpAll_len ha', dpAll_len hw]; exact sz_le hl, ok _ _ _ J ((hid_same s1).trans sm)⟩
      | _ => exact False.elim ok
  · exact False.elim ok
theorem ds_ext {i : Nat} {x : Str} {e : Expr} {te : TE} {f : Sl → Rs PyData} {p apos cpos pos : Pos} (he : DX pR X W cl e te f) (hN : X.N[i]? = some x := by rfl) (hv : Vis X.env.scope x := by first | exact Or.inl rfl | exact Or.inr (Or.inl rfl) | exact Or.inr (Or.inr rfl)) (hd : (x == ("__debug__" : Str)) = false := by decide)
    (hcd : (x == ("__classdict__" : Str)) = false := by decide) (hbase : attributeBase (.Name x p) "extend" X.env (eval (.Name x p) X.env) = eval (.Name x p) X.env := by rfl)
    (hfew : ((backTo cpos (starEach [e] X.env)).all (fun x => !x.1) && (backToKw cpos (keywordEach [] X.env)).all (fun x => x.1.isSome) && decide ([e].length + ([] : List Keyword).length + (if ([] : List Keyword).isEmpty then 0 else 1) < 30)) = true := by rfl)
    (hline : (apos.endLine == cpos.line) = true := by rfl) (h1 : starEach [e] X.env = (false, eval e X.env) :: starEach [] X.env := by rfl) (hpl : (backTo cpos (starEach [] X.env)).any (·.1) = false := by rfl)
    (hs : swapsWith (.Call (.Attribute (.Name x p) "extend" apos) [e] [] cpos) none pos.line X.env = pure false := by rfl) :
    DS X W cl (.Expr (.Call (.Attribute (.Name x p) "extend" apos) [e] [] cpos) pos) (tDrop (tBM X.K "list" (rExtA X.K) (tVar i) (tCons te tNil))) (sExt i f) :=
  ⟨ps_expr (pe_bm PySem.F.plainAttrs_list PySem.F.slot_list_extend PySem.F.type_list_extend mt_extA (pe_var hN hv hd hcd) (pa_cons he.pe pa_nil h1) hbase hfew hline h1 hpl) hs, ev_ext i he.ev⟩
/-! ### x.remove(e), ints -/
def sRem (i : Nat) (f : Sl → Rs PyData) : Sl → Ot := fun ρ => match ρ[i]? with
  | some (some (.own xs)) => oBind ((f ρ).bind asI) ρ fun k => (match asInts xs with
    | some ns => if k ∈ ns then .nx (ρ.set i (some (.own ((ns.erase k).map PyData.int)))) else .bad
    | none => .bad)
  | _ => .bad
theorem ev_rem {K : Frg} {te : TE} {f : Sl → Rs PyData} (i : Nat) (he : EvG pR W cl te f) : EvS W cl (tDrop (tBM K "list" rRemI (tVar i) (tCons te tNil))) (sRem i f) := fun B O0 O σ H ρ D I ok => by
  unfold sRem at ok
  split at ok
  · rename_i xs e
    obtain ⟨p, vs, hv, hO, hp, ha⟩ := I.ownAt e
    refine ⟨.ref p, hv, tyL hp, ?_⟩
    refine he B O0 O σ H ρ _ I ?_
    revert ok
    cases f ρ with
    | bad => exact fun z => z
    | err c p => exact fun ok d H' s eo => ok σ O H' d (I.mono s) (hid_same s) eo
    | ok x =>
      intro ok v H1 s1 p1
      have I1 := I.mono s1
      obtain ⟨q, us, hv', hO', hq, ha'⟩ := I1.ownAt e
      rw [hv] at hv'; cases hv'
      cases x with
      | int k =>
        have ok : OkS W cl B O0 O H (match asInts xs with
          | some ns => if k ∈ ns then .nx (ρ.set i (some (.own ((ns.erase k).map PyData.int)))) else .bad
          | none => .bad) D := ok
        cases ei : asInts xs with
        | none => rw [ei] at ok; exact False.elim ok
        | some ns =>
          rw [ei] at ok
          obtain ⟨hm, ok⟩ := okS_if ok
          rw [asInts_eq ei] at ha'
          have eu := dpAll_ints_inv ha'
          subst eu
          obtain ⟨j, hj, h1, h2, h3⟩ := first_at hm
          obtain ⟨J, sm⟩ := I1.mut e hv hq hO (dpAll_ints (ns.erase k))
          refine ⟨p, ns, k, j, rfl, by rw [rd_int p1], hq, h1, fun m hmj => h2 m hmj, ?_⟩
          rw [h3]
          exact ok _ _ _ J ((hid_same s1).trans sm)
      | _ => exact False.elim ok
  · exact False.elim ok
theorem ds_rem {i : Nat} {x : Str} {e : Expr} {te : TE} {f : Sl → Rs PyData} {p apos cpos pos : Pos} (he : DX pR X W cl e te f) (hN : X.N[i]? = some x := by rfl) (hv : Vis X.env.scope x := by first | exact Or.inl rfl | exact Or.inr (Or.inl rfl) | exact Or.inr (Or.inr rfl)) (hd : (x == ("__debug__" : Str)) = false := by decide)
    (hcd : (x == ("__classdict__" : Str)) = false := by decide) (hbase : attributeBase (.Name x p) "remove" X.env (eval (.Name x p) X.env) = eval (.Name x p) X.env := by rfl)
    (hfew : ((backTo cpos (starEach [e] X.env)).all (fun x => !x.1) && (backToKw cpos (keywordEach [] X.env)).all (fun x => x.1.isSome) && decide ([e].length + ([] : List Keyword).length + (if ([] : List Keyword).isEmpty then 0 else 1) < 30)) = true := by rfl)
    (hline : (apos.endLine == cpos.line) = true := by rfl) (h1 : starEach [e] X.env = (false, eval e X.env) :: starEach [] X.env := by rfl) (hpl : (backTo cpos (starEach [] X.env)).any (·.1) = false := by rfl)
    (hs : swapsWith (.Call (.Attribute (.Name x p) "remove" apos) [e] [] cpos) none pos.line X.env = pure false := by rfl) :
    DS X W cl (.Expr (.Call (.Attribute (.Name x p) "remove" apos) [e] [] cpos) pos) (tDrop (tBM X.K "list" rRemI (tVar i) (tCons te tNil))) (sRem i f) :=
  ⟨ps_expr (pe_bm PySem.F.plainAttrs_list PySem.F.slot_list_remove PySem.F.type_list_remove mt_remove (pe_var hN hv hd hcd) (pa_cons he.pe pa_nil h1) hbase hfew hline h1 hpl) hs, ev_rem i he.ev⟩
/-! ### x[k] = e -/
def sItem (i : Nat) (fk f : Sl → Rs PyData) : Sl → Ot := fun ρ => match ρ[i]? with
  | some (some (.own xs)) => oBind (f ρ) ρ fun d => oBind ((fk ρ).bind asI) ρ fun k => (match ixN xs.length k with
    | some j => .nx (ρ.set i (some (.own (xs.set j d))))
    | none => .bad)
  | _ => .bad
theorem ev_item {te tk : TE} {f fk : Sl → Rs PyData} (i : Nat) (he : EvG pD W cl te f) (hk : EvG pR W cl tk fk) : EvS W cl (tAsg te (gSub (tVar i) tk rSetL)) (sItem i fk f) := fun B O0 O σ H ρ D I ok => by
  unfold sItem at ok
  split at ok
  · rename_i xs e
    refine he.goS I ok fun d v H1 _ s1 I1 p1 ok1 => ?_
    obtain ⟨p, vs, hv, hO, hp, ha⟩ := I1.ownAt e
    refine ⟨.ref p, hv, ?_⟩
    refine hk B O0 O σ H1 ρ _ I1 ?_
    revert ok1
    cases fk ρ with
    | bad => exact fun z => z
    | err c p => exact fun ok d H' s eo => ok σ O H' d (I1.mono s) (hid_same s) eo
    | ok x =>
      intro ok u H2 s2 p2
      have I2 := I1.mono s2
      cases x with
      | int k =>
        have ok : OkS W cl B O0 O H1 (match ixN xs.length k with
          | some j => .nx (ρ.set i (some (.own (xs.set j d))))
          | none => .bad) D := ok
        cases ej : ixN xs.length k with
        | none => rw [ej] at ok; exact False.elim ok
        | some j =>
          rw [ej] at ok
          obtain ⟨q, us, hv', hO', hq, ha'⟩ := I2.ownAt e
          rw [hv] at hv'; cases hv'
          obtain ⟨J, sm⟩ := I2.mut e hv hq hO (dpAll_set (dp_mono (hid_same s2) p1) j ha')
          exact ⟨p, us, k, j, rfl, rd_int p2, hq, by rw [dpAll_len ha']; exact ej, ok _ _ _ J ((hid_same s2).trans sm)⟩
      | _ => exact False.elim ok
  · exact False.elim ok
theorem ds_item {i : Nat} {x : Str} {e k : Expr} {te tk : TE} {f fk : Sl → Rs PyData} {p spos pos : Pos} (he : DX pD X W cl e te f) (hk : DX pR X W cl k tk fk) (hN : X.N[i]? = some x := by rfl) (hv : Vis X.env.scope x := by first | exact Or.inl rfl | exact Or.inr (Or.inl rfl) | exact Or.inr (Or.inr rfl)) (hd : (x == ("__debug__" : Str)) = false := by decide)
    (hcd : (x == ("__classdict__" : Str)) = false := by decide) (hg : PG X (.Subscript (.Name x p) k spos) (gSub (tVar i) tk rSetL))
    (hs : swapsWithSole [.Subscript (.Name x p) k spos] e pos.line X.env = pure false := by rfl) (hw : swappedStores [.Subscript (.Name x p) k spos] e X.env = pure none := by rfl)
    (h1 : (assignEach [.Subscript (.Name x p) k spos] X.env).map (·.2) = [assign (.Subscript (.Name x p) k spos) X.env] := by rfl) : DS X W cl (.Assign [.Subscript (.Name x p) k spos] e pos) (tAsg te (gSub (tVar i) tk rSetL)) (sItem i fk f) :=
  ⟨ps_asg he.pe hg hs hw h1, ev_item i he.ev hk.ev⟩
/-! ### targets = x.pop(), x.pop(k) -/
def sPop (i : Nat) (set : PyData → Sl → Option Sl) : Sl → Ot := fun ρ => match ρ[i]? with
  | some (some (.own xs)) => (match xs[xs.length - 1]? with
    | some d => (match set d (ρ.set i (some (.own xs.dropLast))) with
      | some ρ' => .nx ρ'
      | none => .bad)
    | none => .bad)
  | _ => .bad
theorem dpAll_dropLast {H : Hp} {vs : List V} {ds : List PyData} (h : DqAll H vs ds) : DqAll H vs.dropLast ds.dropLast := by
  rw [List.dropLast_eq_take, List.dropLast_eq_take, dpAll_len h]
  exact dpAll_take _ h
theorem ev_pop {K : Frg} {is : List Nat} {g : TG} {set : PyData → Sl → Option Sl} (i : Nat) (hg : EvT Ds is g set) : EvS W cl (tAsg (tBM0 K "list" rPop (tVar i)) g) (sPop i set) := fun B O0 O σ H ρ D I ok => by
  unfold sPop at ok
  split at ok
  · rename_i xs e
    obtain ⟨p, vs, hv, hO, hp, ha⟩ := I.ownAt e
    cases el : xs[xs.length - 1]? with
    | none => rw [el] at ok; exact False.elim ok
    | some d =>
      rw [el] at ok
      dsimp only at ok
      cases es : set d (ρ.set i (some (.own xs.dropLast))) with
      | none => rw [es] at ok; exact False.elim ok
      | some ρ' =>
        rw [es] at ok
        obtain ⟨v, hv2, dv⟩ := dpAll_get ha el
        obtain ⟨J, sm⟩ := I.mut e hv hp hO (dpAll_dropLast ha)
        refine ⟨.ref p, hv, tyL hp, p, vs, v, rfl, rfl, hp, by rw [dpAll_len ha]; exact hv2, ?_⟩
        exact hg B O0 O σ _ _ ρ' v d _ J (dp_mono sm dv) es fun σ' I' _ => ok σ' O _ I' sm
  · exact False.elim ok
theorem ds_pop {i : Nat} {is : List Nat} {x : Str} {tg : Expr} {g : TG} {set : PyData → Sl → Option Sl} {p apos cpos pos : Pos} (hg : PG X tg g) (ht : EvT Ds is g set) (hN : X.N[i]? = some x := by rfl) (hv : Vis X.env.scope x := by first | exact Or.inl rfl | exact Or.inr (Or.inl rfl) | exact Or.inr (Or.inr rfl)) (hd : (x == ("__debug__" : Str)) = false := by decide)
    (hcd : (x == ("__classdict__" : Str)) = false := by decide) (hbase : attributeBase (.Name x p) "pop" X.env (eval (.Name x p) X.env) = eval (.Name x p) X.env := by rfl) (hline : (apos.endLine == cpos.line) = true := by rfl)
    (hs : swapsWithSole [tg] (.Call (.Attribute (.Name x p) "pop" apos) [] [] cpos) pos.line X.env = pure false := by rfl) (hw : swappedStores [tg] (.Call (.Attribute (.Name x p) "pop" apos) [] [] cpos) X.env = pure none := by rfl)
    (h1 : (assignEach [tg] X.env).map (·.2) = [assign tg X.env] := by rfl) :
    DS X W cl (.Assign [tg] (.Call (.Attribute (.Name x p) "pop" apos) [] [] cpos) pos) (tAsg (tBM0 X.K "list" rPop (tVar i)) g) (sPop i set) :=
  ⟨ps_asg (pe_bm0 PySem.F.plainAttrs_list PySem.F.slot_list_pop PySem.F.type_list_pop mt_pop (pe_var hN hv hd hcd) hbase hline) hg hs hw h1, ev_pop i ht⟩
def sPopAt (i : Nat) (set : PyData → Sl → Option Sl) (fk : Sl → Rs PyData) : Sl → Ot := fun ρ => match ρ[i]? with
  | some (some (.own xs)) => oBind ((fk ρ).bind asI) ρ fun k => (match (if 0 ≤ k ∧ k < 1000000 then xs[k.toNat]? else none) with
    | some d => (match set d (ρ.set i (some (.own (xs.eraseIdx k.toNat)))) with
      | some ρ' => .nx ρ'
      | none => .bad)
    | none => .bad)
  | _ => .bad
theorem ev_popAt {K : Frg} {is : List Nat} {g : TG} {set : PyData → Sl → Option Sl} {tk : TE} {fk : Sl → Rs PyData} (i : Nat) (hg : EvT Ds is g set) (hk : EvG pR W cl tk fk) : EvS W cl (tAsg (tBM K "list" rPopAt (tVar i) (tCons tk tNil)) g) (sPopAt i set fk) := fun B O0 O σ H ρ D I ok => by
  unfold sPopAt at ok
  split at ok
  · rename_i xs e
    obtain ⟨p, vs, hv, hO, hp, ha⟩ := I.ownAt e
    refine ⟨.ref p, hv, tyL hp, ?_⟩
    refine hk B O0 O σ H ρ _ I ?_
    revert ok
    cases fk ρ with
    | bad => exact fun z => z
    | err c p => exact fun ok d H' s eo => ok σ O H' d (I.mono s) (hid_same s) eo
    | ok x =>
      intro ok u H2 s2 p2
      have I2 := I.mono s2
      cases x with
      | int k =>
        have ok : OkS W cl B O0 O H (match (if 0 ≤ k ∧ k < 1000000 then xs[k.toNat]? else none) with
          | some d => (match set d (ρ.set i (some (.own (xs.eraseIdx k.toNat)))) with
            | some ρ' => .nx ρ'
            | none => .bad)
          | none => .bad) D := ok
        by_cases hk0 : 0 ≤ k ∧ k < 1000000
        · rw [if_pos hk0] at ok
          cases el : xs[k.toNat]? with
          | none => rw [el] at ok; exact False.elim ok
          | some d =>
            rw [el] at ok
            dsimp only at ok
            cases es : set d (ρ.set i (some (.own (xs.eraseIdx k.toNat)))) with
            | none => rw [es] at ok; exact False.elim ok
            | some ρ' =>
              rw [es] at ok
              obtain ⟨q, us, hv', hO', hq, ha'⟩ := I2.ownAt e
              rw [hv] at hv'; cases hv'
              obtain ⟨v, hv2, dv⟩ := dpAll_get ha' el
              have hlt := (List.getElem?_eq_some_iff.mp hv2).1
              have hix : ixN us.length k = some k.toNat := by
                unfold ixN
                rw [if_pos hk0.1, if_pos (by omega)]
              obtain ⟨J, sm⟩ := I2.mut e hv hq hO (dpAll_erase k.toNat ha')
              refine ⟨p, us, k, k.toNat, v, rfl, by rw [rd_int p2], hq, by omega, by omega, (ixN_seq hix).1, hv2, ?_⟩
              exact hg B O0 O σ _ _ ρ' v d _ J (dp_mono sm dv) es fun σ' I' _ => ok σ' O _ I' ((hid_same s2).trans sm)
        · rw [if_neg hk0] at ok; exact False.elim ok
      | _ => exact False.elim ok
  · exact False.elim ok
theorem ds_popAt {i : Nat} {is : List Nat} {x : Str} {tg k : Expr} {g : TG} {set : PyData → Sl → Option Sl} {tk : TE} {fk : Sl → Rs PyData} {p apos cpos pos : Pos} (hk : DX pR X W cl k tk fk) (hg : PG X tg g) (ht : EvT Ds is g set) (hN : X.N[i]? = some x := by rfl) (hv : Vis X.env.scope x := by first | exact Or.inl rfl | exact Or.inr (Or.inl rfl) | exact Or.inr (Or.inr rfl)) (hd : (x == ("__debug__" : Str)) = false := by decide)
    (hcd : (x == ("__classdict__" : Str)) = false := by decide) (hbase : attributeBase (.Name x p) "pop" X.env (eval (.Name x p) X.env) = eval (.Name x p) X.env := by rfl)
    (hfew : ((backTo cpos (starEach [k] X.env)).all (fun x => !x.1) && (backToKw cpos (keywordEach [] X.env)).all (fun x => x.1.isSome) && decide ([k].length + ([] : List Keyword).length + (if ([] : List Keyword).isEmpty then 0 else 1) < 30)) = true := by rfl)
    (hline : (apos.endLine == cpos.line) = true := by rfl) (h2 : starEach [k] X.env = (false, eval k X.env) :: starEach [] X.env := by rfl) (hpl : (backTo cpos (starEach [] X.env)).any (·.1) = false := by rfl)
    (hs : swapsWithSole [tg] (.Call (.Attribute (.Name x p) "pop" apos) [k] [] cpos) pos.line X.env = pure false := by rfl) (hw : swappedStores [tg] (.Call (.Attribute (.Name x p) "pop" apos) [k] [] cpos) X.env = pure none := by rfl)
    (h1 : (assignEach [tg] X.env).map (·.2) = [assign tg X.env] := by rfl) :
    DS X W cl (.Assign [tg] (.Call (.Attribute (.Name x p) "pop" apos) [k] [] cpos) pos) (tAsg (tBM X.K "list" rPopAt (tVar i) (tCons tk tNil)) g) (sPopAt i set fk) :=
  ⟨ps_asg (pe_bm PySem.F.plainAttrs_list PySem.F.slot_list_pop PySem.F.type_list_pop mt_popAt (pe_var hN hv hd hcd) (pa_cons hk.pe pa_nil h2) hbase hfew hline h2 hpl) hg hs hw h1, ev_popAt i ht hk.ev⟩
/-! ### t.count(x), t a tuple -/
def tCnt (to te : TE) : TE := fun σ H Q => to σ H fun x H1 => ∃ p vs, x = .ref p ∧ Tq H1 p vs ∧ te σ H1 fun y H2 => ∃ y', [y] = [y'] ∧ Tq H2 p vs ∧ vs.all flatV = true ∧ flatV y' = true ∧ Q (.int (vs.countP fun z => eqV z y' : Nat)) H2
theorem count_eqU {x : V} : ∀ {xs : List V} {us : List Value}, Vals xs us → xs.all flatV = true → us.countP (eqU x) = xs.countP fun y => eqV y x
  | _, _, .nil, _ => rfl
  | y :: ys, u :: us, .cons r t, f => by
    rw [List.all_cons, Bool.and_eq_true] at f
    rw [List.countP_cons, List.countP_cons, count_eqU t f.2, eqU_of r f.1]
theorem pe_tcount {o e : Expr} {to te : TE} {apos cpos : Pos} (ho : PE X o to) (he : PE X e te) (hbase : attributeBase o "count" X.env (eval o X.env) = eval o X.env := by rfl)
    (hfew : ((backTo cpos (starEach [e] X.env)).all (fun x => !x.1) && (backToKw cpos (keywordEach [] X.env)).all (fun x => x.1.isSome) && decide ([e].length + ([] : List Keyword).length + (if ([] : List Keyword).isEmpty then 0 else 1) < 30)) = true := by rfl)
    (hline : (apos.endLine == cpos.line) = true := by rfl) (hs : starEach [e] X.env = (false, eval e X.env) :: starEach [] X.env := by rfl) (hplain : (backTo cpos (starEach [] X.env)).any (·.1) = false := by rfl) :
    PE X (.Call (.Attribute o "count" apos) [e] [] cpos) (tCnt to te) := by
  refine ⟨fun pins s σ H Q I h => ?_⟩
  refine wpAny_Call_method_late hbase hfew hline rfl (thn (ho.run pins s σ H _ I h) fun v s1 ⟨x, H1, I1, r1, p, vs, ex, hp, q1⟩ => ?_)
  subst ex
  cases r1
  obtain ⟨ob, eo, hdn⟩ := hp
  obtain ⟨hg, _, its, rv, ⟨ob', ho', hc', n', hd'⟩⟩ := (show ObjOk X.prog X.w H1 s1.heap p (.frz ob (.tup vs)) from I1.hok p _ eo)
  rw [hg] at ho'
  cases ho'
  refine ⟨"tuple", "tuple.count", PySem.F.plainAttrs_tuple, PySem.F.slot_tuple_count, PySem.F.type_tuple_count, ⟨ob, hg, hc'⟩, fun a ea => ?_, ?_⟩
  · cases ea
    exact ⟨ob, hg, hdn⟩
  have ha : PA X [e] (tCons te tNil) := pa_cons he pa_nil hs
  have hA := ha.run cpos pins s1 σ H1 (fun ys H2 => ∃ y, ys = [y] ∧ Tq H2 p vs ∧ vs.all flatV = true ∧ flatV y = true ∧ Q (.int (vs.countP fun z => eqV z y : Nat)) H2) I1 q1
  rw [hs] at hA ⊢
  refine Calls.callWith_builtin (by show (false || (backTo cpos (starEach [] X.env)).any (·.1)) = false; rw [hplain] <;> rfl) (Calls.evalArgs_plain ?_)
  refine thn hA fun us s2 ⟨ys, H2, I2, r2, y, ey, hp2, f1, f2, q2⟩ => ?_
  subst ey
  obtain ⟨u, rfl, ru⟩ := vals1 r2
  obtain ⟨its2, rv2, ⟨⟨cls, dd, data, sl⟩, ho2, hc2, n2, hd2⟩, _⟩ := I2.tuple (sqT_tq (K := X.K) hp2)
  simp only at hc2 hd2
  subst hc2 hd2
  show wpAny _ _ (call (.builtin "tuple.count") [.ref p, u]) _ _ _
  refine call_meets PySem.F.slot_tuple_count ⟨_, ho2, rfl⟩ PySem.F.entry_tuple_count (PySem.F.args_tuple_count_2 _ _)
    (SeqAt.tuple_countAt p its2.toArray n2 dd sl u (eqU y)) ⟨ho2, fun z hz => mem_eqAt ru f2 rv2 f1 z (by simpa using hz), ?_⟩
  have ec : its2.toArray.toList.countP (eqU y) = vs.countP fun z => eqV z y := count_eqU rv2 f1
  refine ⟨.int (vs.countP fun z => eqV z y : Nat), H2, I2.tok _, ⟨s2.toks, ?_⟩, q2⟩
  show Value.int ((its2.toArray.toList.countP (eqU y) : Nat) : Int) s2.toks = _
  rw [ec]
def pCnt (r : Rs PyData) : PyData → Rs PyData
  | .tuple ds => r.bind fun y => if flatD y = true ∧ ds.all flatD = true then .ok (.int (ds.countP fun z => PyData.eqv z y : Nat)) else .bad
  | _ => .bad
def gCnt (fo fe : Sl → Rs PyData) : Sl → Rs PyData := fun ρ => (fo ρ).bind (pCnt (fe ρ))
theorem cnt_dq {H : Hp} {u : V} {e : PyData} (k : Dq H u e) (g : flatD e = true) : ∀ {vs : List V} {ds : List PyData}, DqAll H vs ds → ds.all flatD = true → vs.all flatV = true ∧ (vs.countP fun z => eqV z u) = ds.countP (fun z => PyData.eqv z e)
  | _, _, .nil, _ => ⟨rfl, rfl⟩
  | v :: vs, d :: ds, .cons h t, f => by
    rw [List.all_cons, Bool.and_eq_true] at f
    obtain ⟨a, b⟩ := cnt_dq k g t f.2
    refine ⟨by rw [List.all_cons, flat_dq h f.1, a]; rfl, ?_⟩
    rw [List.countP_cons, List.countP_cons, b, eqV_dq h k f.1 g]
theorem d_tcount {o e : Expr} {to te : TE} {fo fe : Sl → Rs PyData} {apos cpos : Pos} (ho : DX pD X W cl o to fo) (he : DX pR X W cl e te fe) (hbase : attributeBase o "count" X.env (eval o X.env) = eval o X.env := by rfl)
    (hfew : ((backTo cpos (starEach [e] X.env)).all (fun x => !x.1) && (backToKw cpos (keywordEach [] X.env)).all (fun x => x.1.isSome) && decide ([e].length + ([] : List Keyword).length + (if ([] : List Keyword).isEmpty then 0 else 1) < 30)) = true := by rfl)
    (hline : (apos.endLine == cpos.line) = true := by rfl) (hs : starEach [e] X.env = (false, eval e X.env) :: starEach [] X.env := by rfl) (hplain : (backTo cpos (starEach [] X.env)).any (·.1) = false := by rfl) :
    DX pF X W cl (.Call (.Attribute o "count" apos) [e] [] cpos) (tCnt to te) (gCnt fo fe) := ⟨pe_tcount ho.pe he.pe hbase hfew hline hs hplain, fun B O0 O σ H ρ Q I ok =>
  ho.ev.go mF I ok fun x v H1 _ s1 I1 p1 ok1 => by
    cases x with
    | tuple ds =>
      cases p1 with
      | tup hp ha =>
        refine ⟨_, _, rfl, tq_mono hid_le hp, ?_⟩
        refine he.ev.go mF I1 ok1 fun y u H2 _ s2 I2 p2 ok2 => ?_
        obtain ⟨⟨h1, h2⟩, ok2⟩ := okG_if ok2
        obtain ⟨a, b⟩ := cnt_dq p2.dq h1 (dpAll_mono (hid_le.trans s2) ha) h2
        refine ⟨u, rfl, tq_mono (hid_le.trans s2) hp, a, flat_dq p2.dq h1, ?_⟩
        rw [b]
        exact ok2 _ H2 (Same.refl _) ⟨.int _, fun _ z => nomatch z⟩
    | _ => exact False.elim ok1⟩
end
section
variable {P : Program} {w : World} {K : Frg} {mg : Str → Option Value} {base : Heap} {cl : Nat → Addr}
/-- a def of the text -/
theorem fnD {x qual : Str} {params : Arguments} {body : List Stmt} {scope : Scope} {f : Addr} {fd : FuncData} {N ps : List Str} {k : Nat} {h : Sl → Ot} (F : FunD K x qual params body scope [] [] f fd) (S : FnScope N ps scope)
    (D : ∀ (cdv : Value) (A : Around) (outer : List Env) (s : Shared) (H : Hp) (E : XK), Room k (A.deeper (envOfC qual scope s.heap.objs.size f cdv)) →
      ∃ t, DSs (cxOf (L2.CX P w) P w K mg base N qual scope f cdv A outer s H E) (fun cls d _ H' => E cls d H') cl body t h) : FnOk P w K mg base (L2.CX P w) (k + 1) f fd ps (FnSp cl (fnM ps.length N.length h)) :=
  F.ok S (fun vs H Q E => fn_len (N := N)) fun cdv A outer s H vs Q E hr hsp => by
    obtain ⟨t, d⟩ := D cdv A outer s H E hr
    exact ⟨t, d.pss, fn_body hsp d.ev⟩
end
end SB

namespace SB
open PySem PySem.Spec PyProof.Rows L2 RZ
/-! ### try with several clauses, each with or without a name -/
abbrev HTs := Value × Option Nat × (Addr → Value → Option Addr → TS)
def endN (i : Nat) (D : Ends) : Ends := { nx := fun σ' H' => D.nx (σ'.set i none) H', rt := D.rt, bk := fun σ' H' => D.bk (σ'.set i none) H', ct := fun σ' H' => D.ct (σ'.set i none) H' }
def wAll (K : Frg) (Wout : L2.WX) (D : Ends) : List HTs → L2.WX
  | [] => Wout
  | (c, none, ts) :: r => fun cls d σ H => ∃ b, PySem.W.exmOne K cls c = some b ∧ (b = true → ∀ a, H a = none → ts a cls d D σ H) ∧ (b = false → wAll K Wout D r cls d σ H)
  | (c, some i, ts) :: r => fun cls d σ H => ∃ b, PySem.W.exmOne K cls c = some b ∧ (b = true → ∀ a, H a = none → ts a cls d (endN i D) (σ.set i (some (.ref a))) H) ∧ (b = false → wAll K Wout D r cls d σ H)
inductive HdsA (X : Cx) : List ExceptHandler → List HTs → Prop
  | nil : HdsA X [] []
  | cons {x : Str} {c : Value} {ts : Addr → Value → Option Addr → TS} {b₀ : Stmt} {suite : List Stmt} {np pos' : Pos} {hds : List ExceptHandler} {l : List HTs} (hc : Names X x c)
      (hsu : ∀ (a : Addr) (oe : Obj) (cls : Value) (d : Option Addr) (pn : List (Addr × Obj)), Zc cls d oe → (∃ vs, oe.data = .fields vs) → PSs (X.suite a ((a, oe) :: pn)) (b₀ :: suite) (ts a cls d)) (r : HdsA X hds l) :
      HdsA X (.ExceptHandler (some (.Name x np)) none (b₀ :: suite) pos' :: hds) ((c, none, ts) :: l)
  | as {x n : Str} {i : Nat} {c : Value} {ts : Addr → Value → Option Addr → TS} {b₀ : Stmt} {suite : List Stmt} {np pos' : Pos} {hds : List ExceptHandler} {l : List HTs} (hc : Names X x c) (hN : X.N.Nodup) (hi : X.N[i]? = some n) (hln : X.env.kindOf n = some .local)
      (hsu : ∀ (a : Addr) (oe : Obj) (cls : Value) (d : Option Addr) (pn : List (Addr × Obj)), Zc cls d oe → (∃ vs, oe.data = .fields vs) → PSs (X.suite a ((a, oe) :: pn)) (b₀ :: suite) (ts a cls d)) (r : HdsA X hds l) :
      HdsA X (.ExceptHandler (some (.Name x np)) (some n) (b₀ :: suite) pos' :: hds) ((c, some i, ts) :: l)
section
variable {X : Cx} {body : List Stmt} {h₀ : ExceptHandler} {hds : List ExceptHandler} {l : List HTs} {pos : Pos} {tb : L2.WX → TS} {Wout : L2.WX}
theorem ps_try_all (hs : X.stack = X.env :: X.outer) (hf : X.env.frame = some X.env.locals) (tk : Takes X Wout)
    (hb : ∀ (W : L2.WX) (pn : List (Addr × Obj)) (xe : Value → Shared → Prop), Takes (X.tr pn xe) W → PassesOwn (model X.prog X.w) X.A X.env xe → PSs (X.tr pn xe) body (tb W))
    (hh : HdsA X (h₀ :: hds) l) : PS X (.Try body (h₀ :: hds) [] [] pos) (fun D σ H => tb (wAll X.K Wout D l) D σ H) := by
  refine ⟨fun pins s σ H D I h => ?_⟩
  have ok := I.ok
  have hfr : X.A.frames = some (X.env :: X.outer) := by rw [ok.frames, hs]
  refine wpAny_Try_except ?_
  refine wpAny_mono ((hb (wAll X.K Wout D l) (X.pn ++ pins) (fun e s₁ => wpAny (model X.prog X.w) X.A (noteFrame e X.env) (fun _ s₂ => wpAny (model X.prog X.w) X.A (setFlight e none) (fun _ s₃ =>
    wpAny (model X.prog X.w) X.A (handleBy e X.env (h₀ :: hds)) (SP X pins D) X.xe s₃) X.xe s₂) X.xe s₁) (fun u s' xx => ?_) PassesOwn.looking).run [] s σ H D (I.toTry _) h) (fun f s1 hsp => ?_) (fun e s1 he => he)
  · obtain ⟨a, B, sI, pins', σ', H', cls, d, rfl, J', nb, up, sky, na, os, ag, w⟩ := xx
    have J : Inv X pins σ' H' sI := J'.ofTry ok
    have sky' : Sky B (X.env :: X.outer) a (Zc cls d) X.env.locals s'.heap := by rw [← hs]; exact sky
    show wpAny (model X.prog X.w) X.A (noteFrame (.ref a) X.env) _ _ _
    refine Sky.land Zc.steady hfr hf sky' fun h3 fl3 up3 => ?_
    have J3 : Inv X pins σ' H' { s' with heap := h3 } := J.landed nb fl3.1 (up.trans up3) os ag
    obtain ⟨oe3, vs3, he3, hz3, hd3⟩ := fl3.there
    have notFr : ∀ {h : Heap} {o : Obj} {vs : Array Value}, h.FunFrames B (X.env :: X.outer) → h.get? a = some o → o.data = .fields vs → a ∉ frs (X.env :: X.outer) := fun {h o vs} ff e dd hm => by
      obtain ⟨_, o', e', hnf⟩ := ff.mem hm
      rw [e] at e'; cases e'
      exact hnf _ dd
    have nfr := notFr fl3.2.2.1 he3 hd3
    have nL : a ≠ X.env.locals := fun z => nfr (List.mem_filterMap.mpr ⟨X.env, List.mem_cons_self, by rw [hf, z]⟩)
    have nF : a ∉ X.fs := fun hm => by
      obtain ⟨e, he, q⟩ := List.mem_filterMap.mp hm
      exact nfr (List.mem_filterMap.mpr ⟨e, List.mem_cons_of_mem _ he, q⟩)
    have S3 := J3.suite he3 hd3 na nL nF
    have LT : PySem.W.Looks (model X.prog X.w) h3 (typeOf (.ref a)) cls := fun A Q E s k q => wpAny_typeOf_ref (k _ _ he3) (by rw [hz3.1]; exact q)
    have go : ∀ {hds' : List ExceptHandler} {l' : List HTs}, HdsA X hds' l' → wAll X.K Wout D l' cls d σ' H' →
        wpAny (model X.prog X.w) X.A (handleBy (.ref a) X.env hds') (SP X pins D) X.xe { s' with heap := h3 } := by
      intro hds' l' hk
      induction hk with
      | nil =>
        intro w
        refine wpAny_handleBy_nil ?_
        obtain ⟨k1, k2, k3, oe, vs, T, oT, ts', he, hz, hd, h1, hr⟩ := id fl3
        unfold PySem.passOn
        refine wpAny_bind (wpAny_field he hd h1 ?_)
        rw [if_neg (show ¬ ((Value.ref T == Value.none) = true) from by simp)]
        have fin : wpAny (model X.prog X.w) X.A (setFlight (.ref a) X.env.frame) (fun _ s4 => wpAny (model X.prog X.w) X.A (throw (.ref a) : Sem Flow) (SP X pins D) X.xe s4) X.xe { s' with heap := h3 } := by
          rw [hf]
          refine HandSPX.setFlight_upZ fl3 fun h4 hh4 up4 => wpAny_throw (tk _ _ ?_)
          exact ⟨a, B, sI, pins, σ', H', cls, d, rfl, J, nb, (up.trans up3).trans up4, .inr (.inr (by rw [hs]; exact hh4)), na, os, ag, w⟩
        first
          | exact wpAny_bind (wpAny_pure (wpAny_bind fin))
          | exact wpAny_bind fin
      | @cons x c ts b₀ suite np pos' hds2 l2 hc hsu r ih =>
        intro w
        obtain ⟨b, hb1, hyes, hno⟩ := w
        refine wpAny_handleBy_cons (codeAny_handlers_test ?_) (by intro q; cases q)
        have LM := PySem.W.exm_one (M := model X.prog X.w) (J3.kIn) LT hb1
        have test : ∀ {Q : Value → Shared → Prop} {E : Value → Shared → Prop}, Q c { s' with heap := h3 } → wpAny (model X.prog X.w) (X.A.mark (some (.ref a))) (eval (.Name x np) X.env) Q E { s' with heap := h3 } := fun {Q E} q => by
          obtain ⟨hg, hdbg, hm | ⟨hm, hv, hnn⟩⟩ := hc
          · exact ld_glob (X := X.suite a ((a, oe3) :: (X.pn ++ pins))) S3 hg hm q hdbg
          · exact ld_blt (X := X.suite a ((a, oe3) :: (X.pn ++ pins))) S3 hg hm hv q hnn hdbg
        refine test (LM.here ?_)
        cases b with
        | true =>
          refine codeAny_handlers_suite ?_
          refine HandSPX.lands_againZ fl3 fun h4 fl4 up4 => ?_
          have J4 : Inv X pins σ' H' { s' with heap := h4 } := J.landed nb fl4.1 ((up.trans up3).trans up4) os ag
          obtain ⟨oe4, vs4, he4, hz4, hd4⟩ := fl4.there
          have S4 := J4.suite he4 hd4 na nL nF
          refine wpAny_mono ((hsu a oe4 cls d (X.pn ++ pins) hz4 ⟨_, hd4⟩).run [] _ _ H' _ S4 (hyes rfl a na)) (fun f s6 hsp => ?_) (fun _ _ z => False.elim z)
          cases f with
          | next =>
            obtain ⟨σ6, H6, S6, q6⟩ := hsp
            exact ⟨_, _, S6.unsuite ok, q6⟩
          | brk =>
            obtain ⟨σ6, H6, S6, q6⟩ := hsp
            exact ⟨_, _, S6.unsuite ok, q6⟩
          | cont =>
            obtain ⟨σ6, H6, S6, q6⟩ := hsp
            exact ⟨_, _, S6.unsuite ok, q6⟩
          | ret u =>
            obtain ⟨v6, σ6, H6, S6, r6, q6⟩ := hsp
            exact ⟨_, _, _, S6.unsuite ok, r6, q6⟩
        | false =>
          show wpAny _ X.A (handleBy (.ref a) X.env hds2) _ _ _
          exact ih (hno rfl)
      | @as x n i c ts b₀ suite np pos' hds2 l2 hc hN hi hln hsu r ih =>
        intro w
        obtain ⟨b, hb1, hyes, hno⟩ := w
        have hloc : Loc X.env.scope n := .inl hln
        refine wpAny_handleBy_cons (codeAny_handlers_test ?_) (by intro q; cases q)
        have LM := PySem.W.exm_one (M := model X.prog X.w) (J3.kIn) LT hb1
        have test : ∀ {Q : Value → Shared → Prop} {E : Value → Shared → Prop}, Q c { s' with heap := h3 } → wpAny (model X.prog X.w) (X.A.mark (some (.ref a))) (eval (.Name x np) X.env) Q E { s' with heap := h3 } := fun {Q E} q => by
          obtain ⟨hg, hdbg, hm | ⟨hm, hv, hnn⟩⟩ := hc
          · exact ld_glob (X := X.suite a ((a, oe3) :: (X.pn ++ pins))) S3 hg hm q hdbg
          · exact ld_blt (X := X.suite a ((a, oe3) :: (X.pn ++ pins))) S3 hg hm hv q hnn hdbg
        refine test (LM.here ?_)
        cases b with
        | true =>
          refine codeAny_handlers_suite_as ?_
          refine HandSPX.lands_againZ fl3 fun h4 fl4 up4 => ?_
          have J4 : Inv X pins σ' H' { s' with heap := h4 } := J.landed nb fl4.1 ((up.trans up3).trans up4) os ag
          obtain ⟨oe4, vs4, he4, hz4, hd4⟩ := fl4.there
          have S4 := J4.suite he4 hd4 na nL nF
          refine store_ok (X := X.suite a ((a, oe4) :: (X.pn ++ pins))) (v := .ref a) S4 hN hi hloc rfl (fun s5 S5 => ?_) (.inr hln)
          refine wpAny_mono ((hsu a oe4 cls d (X.pn ++ pins) hz4 ⟨_, hd4⟩).run [] s5 _ H' _ S5 (hyes rfl a na)) (fun f s6 hsp => ?_) (fun _ _ z => False.elim z)
          have end_ : ∀ {σ6 : L2.St} {H6 : Hp} {Q : Shared → Prop}, Inv (X.suite a ((a, oe4) :: (X.pn ++ pins))) [] σ6 H6 s6 → (∀ s7, Inv X pins (σ6.set i none) H6 s7 → Q s7) →
              wpAny (model X.prog X.w) X.A (do bindName X.env n .none; unbindBehindTheSuite X.env n pos') (fun _ s7 => Q s7) X.xe s6 := fun {σ6 H6 Q} S6 hq => gone_ok (S6.unsuite ok) hN hi hln hq
          cases f with
          | next =>
            obtain ⟨σ6, H6, S6, q6⟩ := hsp
            exact end_ S6 fun s7 J7 => ⟨_, _, J7, q6⟩
          | brk =>
            obtain ⟨σ6, H6, S6, q6⟩ := hsp
            exact end_ S6 fun s7 J7 => ⟨_, _, J7, q6⟩
          | cont =>
            obtain ⟨σ6, H6, S6, q6⟩ := hsp
            exact end_ S6 fun s7 J7 => ⟨_, _, J7, q6⟩
          | ret u =>
            obtain ⟨v6, σ6, H6, S6, r6, q6⟩ := hsp
            exact end_ S6 fun s7 J7 => ⟨_, _, _, J7, r6, q6⟩
        | false =>
          show wpAny _ X.A (handleBy (.ref a) X.env hds2) _ _ _
          exact ih (hno rfl)
    exact go hh w
  · cases f with
    | next =>
      obtain ⟨σ', H', J', q⟩ := hsp
      exact wpAny_execs_nil ⟨σ', H', J'.ofTry ok, q⟩
    | brk =>
      obtain ⟨σ', H', J', q⟩ := hsp
      exact ⟨σ', H', J'.ofTry ok, q⟩
    | cont =>
      obtain ⟨σ', H', J', q⟩ := hsp
      exact ⟨σ', H', J'.ofTry ok, q⟩
    | ret u =>
      obtain ⟨v, σ', H', J', r, q⟩ := hsp
      exact ⟨v, σ', H', J'.ofTry ok, r, q⟩
end
end SB

namespace SB
open PySem PySem.Spec PyProof.Rows L2 RZ
/-! ### try, by data -/
def subX (c k : Nat) : Bool := c == k || k == 0
/-- what the written part says of the classes of errors -/
structure XF (K : Frg) (cl : Nat → Addr) (kn : Nat → Bool) : Prop where
  exc : ∀ c, kn c = true → ExcC K (cl c)
  kit : ∀ c k, kn c = true → kn k = true → PySem.W.kitOne K (.ref (cl c)) (.ref (cl k)) = some (subX c k)
  exm : ∀ c k, kn c = true → kn k = true → PySem.W.exmOne K (.ref (cl c)) (.ref (cl k)) = some (subX c k)
abbrev Sd := Nat → Option PyData → Sl → Ot
abbrev HD := Nat × Option Nat × Sd
def oUn (i : Nat) : Ot → Ot
  | .nx ρ => .nx (ρ.set i none)
  | o => o
inductive HEv (cl : Nat → Addr) (kn : Nat → Bool) : HTs → HD → Prop
  | no {k : Nat} {ts : Addr → Value → Option Addr → TS} {s : Sd} (hk : kn k = true)
      (run : ∀ (c : Nat) (p : Option PyData) (a : Addr) (d : Option Addr) (B : Hp) (O0 O : List Addr) (σ : L2.St) (H : Hp) (ρ : Sl) (D : Ends), kn c = true → Rp B O0 O σ H ρ → EO O H p d → H a = none → OkS W0 cl B O0 O H (s c p ρ) D → ts a (.ref (cl c)) d D σ H) :
      HEv cl kn (.ref (cl k), none, ts) (k, none, s)
  | as {k i : Nat} {ts : Addr → Value → Option Addr → TS} {s : Sd} (hk : kn k = true)
      (run : ∀ (c : Nat) (p : Option PyData) (a : Addr) (d : Option Addr) (B : Hp) (O0 O : List Addr) (σ : L2.St) (H : Hp) (ρ : Sl) (D : Ends), kn c = true → i < σ.length → Rp B O0 O σ H ρ → EO O H p d → H a = none → OkS W0 cl B O0 O H (oUn i (s c p (ρ.set i none))) D → ts a (.ref (cl c)) d (endN i D) (σ.set i (some (.ref a))) H) :
      HEv cl kn (.ref (cl k), some i, ts) (k, some i, s)
inductive HEvs (cl : Nat → Addr) (kn : Nat → Bool) (n : Nat) : List HTs → List HD → Prop
  | nil : HEvs cl kn n [] []
  | cons {t : HTs} {h : HD} {l : List HTs} {r : List HD} (a : HEv cl kn t h) (hn : ∀ i, t.2.1 = some i → i < n) (b : HEvs cl kn n l r) : HEvs cl kn n (t :: l) (h :: r)
theorem OkS.w0 {W : L2.WX} {cl : Nat → Addr} {B : Hp} {O0 O : List Addr} {H : Hp} {o : Ot} {D : Ends} (hn : ∀ c p ρ, o ≠ .er c p ρ) (h : OkS W cl B O0 O H o D) : OkS W0 cl B O0 O H o D := by
  cases o with
  | bad => exact h
  | nx ρ => exact h
  | rt d => exact h
  | er c p ρ => exact absurd rfl (hn c p ρ)
/-- an except suite that lets nothing out -/
def noEr : Ot → Ot
  | .er _ _ _ => .bad
  | o => o
theorem OkS.noEr {W : L2.WX} {cl : Nat → Addr} {B : Hp} {O0 O : List Addr} {H : Hp} {o : Ot} {D : Ends} (h : OkS W cl B O0 O H (SB.noEr o) D) : OkS W0 cl B O0 O H o D := by
  cases o with
  | bad => exact h
  | nx ρ => exact h
  | rt d => exact h
  | er c p ρ => exact False.elim h
def runN (c : Nat) (p : Option PyData) (ρ : Sl) : List HD → Ot
  | [] => .er c p ρ
  | (k, none, s) :: r => if subX c k = true then noEr (s c p ρ) else runN c p ρ r
  | (k, some i, s) :: r => if subX c k = true then noEr (oUn i (s c p (ρ.set i none))) else runN c p ρ r
def sTryN (kn : Nat → Bool) (n : Nat) (h : Sl → Ot) (hs : List HD) : Sl → Ot := fun ρ => match h ρ with
  | .er c p ρ' => if kn c = true ∧ ρ'.length = n then runN c p ρ' hs else .bad
  | o => o
theorem wAll_run {K : Frg} {W : L2.WX} {cl : Nat → Addr} {kn : Nat → Bool} (F : XF K cl kn) {B : Hp} {O0 O' : List Addr} {σ' : L2.St} {H' : Hp} {ρ' : Sl} {D : Ends} {c : Nat} {p : Option PyData} {d : Option Addr} (hk : kn c = true) (I' : Rp B O0 O' σ' H' ρ') (eo : EO O' H' p d) {n : Nat} (hsl : σ'.length = n) :
    ∀ {l : List HTs} {hs : List HD}, HEvs cl kn n l hs → OkS W cl B O0 O' H' (runN c p ρ' hs) D → wAll K W D l (.ref (cl c)) d σ' H' := by
  intro l hs he
  induction he with
  | nil => exact fun ok => ok σ' O' H' d I' (Same.refl _) eo
  | @cons t x l r a hi b ih =>
    intro ok
    cases a with
    | @no k ts s hk2 run =>
      refine ⟨subX c k, F.exm c k hk hk2, fun hb a na => ?_, fun hb => ?_⟩
      · have ok : OkS W cl B O0 O' H' (if subX c k = true then noEr (s c p ρ') else runN c p ρ' r) D := ok
        rw [if_pos hb] at ok
        exact run c p a d B O0 O' σ' H' ρ' D hk I' eo na (OkS.noEr ok)
      · have ok : OkS W cl B O0 O' H' (if subX c k = true then noEr (s c p ρ') else runN c p ρ' r) D := ok
        rw [hb, if_neg Bool.false_ne_true] at ok
        exact ih ok
    | @as k i ts s hk2 run =>
      refine ⟨subX c k, F.exm c k hk hk2, fun hb a na => ?_, fun hb => ?_⟩
      · have ok : OkS W cl B O0 O' H' (if subX c k = true then noEr (oUn i (s c p (ρ'.set i none))) else runN c p ρ' r) D := ok
        rw [if_pos hb] at ok
        exact run c p a d B O0 O' σ' H' ρ' D hk (by rw [hsl]; exact hi i rfl) I' eo na (OkS.noEr ok)
      · have ok : OkS W cl B O0 O' H' (if subX c k = true then noEr (oUn i (s c p (ρ'.set i none))) else runN c p ρ' r) D := ok
        rw [hb, if_neg Bool.false_ne_true] at ok
        exact ih ok
theorem ev_try {K : Frg} {W : L2.WX} {cl : Nat → Addr} {kn : Nat → Bool} {tb : L2.WX → TS} {h : Sl → Ot} {n : Nat} {l : List HTs} {hs : List HD} (F : XF K cl kn) (hb : ∀ W', EvS W' cl (tb W') h) (he : HEvs cl kn n l hs) :
    EvS W cl (fun D σ H => tb (wAll K W D l) D σ H) (sTryN kn n h hs) := fun B O0 O σ H ρ D I ok => by
  refine hb (wAll K W D l) B O0 O σ H ρ D I ?_
  unfold sTryN at ok
  cases e : h ρ with
  | bad => rw [e] at ok; exact ok
  | nx ρ' => rw [e] at ok; exact ok
  | rt d => rw [e] at ok; exact ok
  | er c p ρ' =>
    rw [e] at ok
    obtain ⟨⟨hk, hl⟩, ok⟩ := okS_if ok
    exact fun σ' O' H' d I' sm eo => wAll_run F hk I' eo (by rw [I'.len]; exact hl) he (OkS.mono sm ok)
/-- there is a place for a try's body -/
theorem try_place {X : Cx} (hs : X.stack = X.env :: X.outer) (hf : X.env.frame = some X.env.locals) (W : L2.WX) : ∃ xe : Value → Shared → Prop, Takes (X.tr [] xe) W ∧ PassesOwn (model X.prog X.w) X.A X.env xe := by
  refine ⟨fun e s₁ => wpAny (model X.prog X.w) X.A (noteFrame e X.env) (fun _ s₂ => wpAny (model X.prog X.w) X.A (setFlight e none) (fun _ _ => True) (fun _ _ => True) s₂) (fun _ _ => True) s₁, fun u s' xx => ?_, PassesOwn.looking⟩
  obtain ⟨a, B, sI, pins', σ', H', cls, d, rfl, J', nb, up, sky, na, os, ag, w⟩ := xx
  have hfr : X.A.frames = some (X.env :: X.outer) := by
    have := J'.ok.frames
    rw [← hs]
    exact this
  have sky' : Sky B (X.env :: X.outer) a (Zc cls d) X.env.locals s'.heap := by rw [← hs]; exact sky
  exact Sky.land Zc.steady hfr hf sky' fun _ _ _ => trivial
section
variable {X : Cx} {W : L2.WX} {cl : Nat → Addr} {kn : Nat → Bool}
theorem ds_try {body : List Stmt} {h₀ : ExceptHandler} {hds : List ExceptHandler} {l : List HTs} {hd : List HD} {pos : Pos} {tb : L2.WX → TS} {h : Sl → Ot} (F : XF X.K cl kn) (hs : X.stack = X.env :: X.outer) (hf : X.env.frame = some X.env.locals) (tk : Takes X W)
    (hb : ∀ (W' : L2.WX) (pn : List (Addr × Obj)) (xe : Value → Shared → Prop), Takes (X.tr pn xe) W' → PassesOwn (model X.prog X.w) X.A X.env xe → DSs (X.tr pn xe) W' cl body (tb W') h)
    (hh : HdsA X (h₀ :: hds) l) (he : HEvs cl kn X.N.length l hd) : DS X W cl (.Try body (h₀ :: hds) [] [] pos) (fun D σ H => tb (wAll X.K W D l) D σ H) (sTryN kn X.N.length h hd) :=
  ⟨ps_try_all hs hf tk (fun W' pn xe a b => (hb W' pn xe a b).pss) hh, ev_try F (fun W' => by
    obtain ⟨xe, a, b⟩ := try_place hs hf W'
    exact (hb W' [] xe a b).ev) he⟩
/-! #### isinstance(e, C) of the error that the suite holds -/
def tIsE (K : Frg) (i : Nat) (a : Addr) (cls : Value) (d : Option Addr) (C : Addr) : TE := fun σ H Q => σ[i]? = some (some (.ref a)) ∧ ∃ D b, cls = .ref D ∧ d = none ∧ ExcC K D ∧ PySem.W.kitOne K (.ref D) (.ref C) = some b ∧ Q (.bl b) H
theorem pe_isE {i : Nat} {n x : Str} {a C : Addr} {oe : Obj} {cls : Value} {d : Option Addr} {pn : List (Addr × Obj)} {p q r pos : Pos} (hz : Zc cls d oe) (hf : ∃ vs, oe.data = .fields vs) (hg : Gl X "isinstance") (hm : X.mg "isinstance" = none) (hgC : Gl X x) (hmC : X.mg x = some (.ref C))
    (hN : X.N[i]? = some n := by rfl) (hv : Vis X.env.scope n := by first | exact Or.inl rfl | exact Or.inr (Or.inl rfl) | exact Or.inr (Or.inr rfl)) (hd : (n == ("__debug__" : Str)) = false := by decide) (hcd : (n == ("__classdict__" : Str)) = false := by decide) (hdx : (x == ("__debug__" : Str)) = false := by decide)
    (h1 : starEach [.Name n q, .Name x r] X.env = (false, eval (.Name n q) X.env) :: starEach [.Name x r] X.env := by rfl) (h2 : starEach [.Name x r] X.env = (false, eval (.Name x r) X.env) :: starEach [] X.env := by rfl) (h3 : (backTo pos (starEach [.Name x r] X.env)).any (·.1) = false := by rfl) :
    PE (X.suite a ((a, oe) :: pn)) (.Call (.Name "isinstance" p) [.Name n q, .Name x r] [] pos) (tIsE X.K i a cls d C) := by
  refine ⟨fun pins s σ H Q I h => ?_⟩
  obtain ⟨hi, D, b, rfl, rfl, hx, hk, hq⟩ := h
  have pe : PE (X.suite a ((a, oe) :: pn)) (.Call (.Name "isinstance" p) [.Name n q, .Name x r] [] pos) (tCB (rIsE X.K D a) (tCons (tVar i) (tCons (tC (.ref C)) tNil))) :=
    pe_callB (call_isE hx hz hf) hg hm (by decide +kernel) (pa_cons (pe_var hN hv hd hcd) (pa_cons (pe_glob hgC hmC rfl hdx) pa_nil h2) h1) (by decide) (by decide) h1 h3
  exact pe.run pins s σ H Q I ⟨.ref a, hi, .ref C, .ref C, b, rfl, fun u ru => ru, hk, hq⟩
theorem isE_ok {K : Frg} (F : XF K cl kn) {i : Nat} {a : Addr} {c k : Nat} {σ : L2.St} {H : Hp} {Q : VK} (hc : kn c = true) (hk : kn k = true) (hi : σ[i]? = some (some (.ref a))) (q : Q (.bl (subX c k)) H) : tIsE K i a (.ref (cl c)) none (cl k) σ H Q :=
  ⟨hi, cl c, subX c k, rfl, rfl, F.exc c hc, F.kit c k hc hk, q⟩
/-- return A if isinstance(e, C) and not isinstance(e, D) else B -/
def tSuite2 (K : Frg) (i : Nat) (C D : Addr) (va vb : V) : Addr → Value → Option Addr → TS := fun a cls d => tRet (tIf (tAnd (tB (tIsE K i a cls d C)) (tNot (tB (tIsE K i a cls d D)))) (tC va) (tC vb))
def sdR2 (C D : Nat) (da db : PyData) : Sd := fun c p _ => match p with
  | none => .rt (if (subX c C && !subX c D) = true then da else db)
  | some _ => .bad
theorem hev_2 {K : Frg} (F : XF K cl kn) {k i C D : Nat} {va vb : V} {da db : PyData} (hk : kn k = true) (hC : kn C = true) (hD : kn D = true) (ha : ∀ H, Dq H va da) (hb : ∀ H, Dq H vb db) (na : ∀ ds, da ≠ .list ds) (nb : ∀ ds, db ≠ .list ds) :
    HEv cl kn (.ref (cl k), some i, tSuite2 K i (cl C) (cl D) va vb) (k, some i, sdR2 C D da db) := by
  refine .as hk fun c p a d B O0 O σ H ρ E hc hl I eo na' ok => ?_
  cases p with
  | some x => exact False.elim ok
  | none =>
    cases eo
    have hi : (σ.set i (some (V.ref a)))[i]? = some (some (.ref a)) := List.getElem?_set_self hl
    unfold tSuite2 tRet tIf tAnd tB tNot
    refine isE_ok F hc hC hi ?_
    refine ⟨_, rfl, ?_⟩
    have ok : ∀ v H', Same B H' → pF O0 B H' v (if (subX c C && !subX c D) = true then da else db) → E.rt v H' := ok
    cases e1 : subX c C with
    | false =>
      rw [e1] at ok
      show E.rt vb H
      exact ok vb H I.ex ⟨hb _, fun ds e => (nb ds e).elim⟩
    | true =>
      rw [e1] at ok
      dsimp only
      rw [if_pos rfl]
      refine isE_ok F hc hD hi ?_
      refine ⟨_, rfl, ?_⟩
      cases e2 : subX c D with
      | true =>
        rw [e2] at ok
        show E.rt vb H
        exact ok vb H I.ex ⟨hb _, fun ds e => (nb ds e).elim⟩
      | false =>
        rw [e2] at ok
        show E.rt va H
        exact ok va H I.ex ⟨ha _, fun ds e => (na ds e).elim⟩
theorem ps_suite2 {i : Nat} {n x y : Str} {a C D : Addr} {oe : Obj} {cls : Value} {d : Option Addr} {pn : List (Addr × Obj)} {p p' q q' r r' pos pos' bp np ip rp : Pos} {za zb : Str} {ja jb : Nat} {pa pb : Pos} (hz : Zc cls d oe) (hf : ∃ vs, oe.data = .fields vs) (hg : Gl X "isinstance") (hm : X.mg "isinstance" = none) (hgC : Gl X x) (hmC : X.mg x = some (.ref C)) (hgD : Gl X y) (hmD : X.mg y = some (.ref D))
    (hN : X.N[i]? = some n := by rfl) (hv : Vis X.env.scope n := by first | exact Or.inl rfl | exact Or.inr (Or.inl rfl) | exact Or.inr (Or.inr rfl)) (hd : (n == ("__debug__" : Str)) = false := by decide) (hcd : (n == ("__classdict__" : Str)) = false := by decide) (hdx : (x == ("__debug__" : Str)) = false := by decide) (hdy : (y == ("__debug__" : Str)) = false := by decide)
    (h1 : starEach [.Name n q, .Name x r] X.env = (false, eval (.Name n q) X.env) :: starEach [.Name x r] X.env := by rfl) (h2 : starEach [.Name x r] X.env = (false, eval (.Name x r) X.env) :: starEach [] X.env := by rfl) (h3 : (backTo pos (starEach [.Name x r] X.env)).any (·.1) = false := by rfl)
    (k1 : starEach [.Name n q', .Name y r'] X.env = (false, eval (.Name n q') X.env) :: starEach [.Name y r'] X.env := by rfl) (k2 : starEach [.Name y r'] X.env = (false, eval (.Name y r') X.env) :: starEach [] X.env := by rfl) (k3 : (backTo pos' (starEach [.Name y r'] X.env)).any (·.1) = false := by rfl)
    (t1 : ∀ whole, isTrue (.Call (.Name "isinstance" p) [.Name n q, .Name x r] [] pos) X.env whole = (do let v ← whole; standAt (PySem.Expr.Call (.Name "isinstance" p) [.Name n q, .Name x r] [] pos).pos; holding [v] (truthy v)) := by intro _; rfl)
    (t2 : ∀ whole, isTrue (.Call (.Name "isinstance" p') [.Name n q', .Name y r'] [] pos') X.env whole = (do let v ← whole; standAt (PySem.Expr.Call (.Name "isinstance" p') [.Name n q', .Name y r'] [] pos').pos; holding [v] (truthy v)) := by intro _; rfl) :
    PSs (X.suite a ((a, oe) :: pn)) [.Return (some (.IfExp (.BoolOp .And [.Call (.Name "isinstance" p) [.Name n q, .Name x r] [] pos, .UnaryOp .Not (.Call (.Name "isinstance" p') [.Name n q', .Name y r'] [] pos') np] bp) (.Constant (.str za) ja pa) (.Constant (.str zb) jb pb) ip)) rp] (tSuite2 X.K i C D (.str za) (.str zb) a cls d) :=
  pss_one (ps_ret (pe_ifExp (PW.pt (pw_and (pt_val (pe_isE hz hf hg hm hgC hmC hN hv hd hcd hdx h1 h2 h3) t1) (pw_and1 (pt_not (pt_val (pe_isE hz hf hg hm hgD hmD hN hv hd hcd hdy k1 k2 k3) t2))))) pe_str pe_str))
/-- return a text -/
def tSuite0 (v : V) : Addr → Value → Option Addr → TS := fun _ _ _ => tRet (tC v)
def sdR0 (d : PyData) : Sd := fun _ _ _ => .rt d
theorem hev_0 {k : Nat} {v : V} {d : PyData} (hk : kn k = true) (ha : ∀ H, Dq H v d) (na : ∀ ds, d ≠ .list ds) : HEv cl kn (.ref (cl k), none, tSuite0 v) (k, none, sdR0 d) :=
  .no hk fun c p a d' B O0 O σ H ρ E hc I eo na' ok => ok v H I.ex ⟨ha _, fun ds e => (na ds e).elim⟩
theorem ps_suite0 {a : Addr} {oe : Obj} {pn : List (Addr × Obj)} {z : Str} {j : Nat} {p rp : Pos} {cls : Value} {d : Option Addr} : PSs (X.suite a ((a, oe) :: pn)) [.Return (some (.Constant (.str z) j p)) rp] (tSuite0 (.str z) a cls d) := pss_one (ps_ret pe_str)
end
end SB

namespace SB
open PySem PySem.Spec PyProof.Rows L2 RZ
/-! ### a def that is called by its name -/
def FB (P : Program) (w : World) (K : Frg) (mg : Str → Option Value) (base : Heap) (cl : Nat → Addr) (k : Nat) (x : Str) (ps : List Str) (F : List PyData → Rs PyData) : Prop :=
  ∃ (f : Addr) (fd : FuncData), FnOk P w K mg base (L2.CX P w) k f fd ps (FnSp cl F) ∧ mg x = some (.ref f) ∧ PySem.W.keepIn K (.ref f) = true ∧ Binds K fd ps [] ∧ ∃ (oc : Value) (od : Option Addr) (osl : Array (Option Value)), K.lookup f = some ⟨oc, od, .func fd, osl⟩
/-- where a def of the text stands -/
def FA (K : Frg) (mg : Str → Option Value) (x : Str) (st : Stmt) : Prop := ∃ (f : Addr) (fd : FuncData), FunD K x x (defArgs st) (defBody st) (defScope st) [] [] f fd ∧ mg x = some (.ref f)
section
variable {P : Program} {w : World} {K : Frg} {mg : Str → Option Value} {base : Heap} {cl : Nat → Addr}
theorem fb_of {x : Str} {st : Stmt} {N ps : List Str} {k : Nat} {h : Sl → Ot} (A : FA K mg x st) (S : FnScope N ps (defScope st))
    (hb : ∀ (kV doc pm : Value) (an : Option Addr) (cdv ct : Value) (us : List Value), us.length = ps.length → bindArgs (PySem.W.fnOf x x (defArgs st) (defBody st) (defScope st) .none kV doc pm an cdv ct) ⟨us, []⟩ = pure (ps.zip us))
    (D : ∀ (f : Addr) (cdv : Value) (A : Around) (outer : List Env) (s : Shared) (H : Hp) (E : XK), Room k (A.deeper (envOfC x (defScope st) s.heap.objs.size f cdv)) →
      ∃ t, DSs (cxOf (L2.CX P w) P w K mg base N x (defScope st) f cdv A outer s H E) (fun cls d _ H' => E cls d H') cl (defBody st) t h) : FB P w K mg base cl (k + 1) x ps (fnM ps.length N.length h) := by
  obtain ⟨f, fd, F, hm⟩ := A
  refine ⟨f, fd, fnD F S (D f), hm, F.kp, F.bindsN hb, ?_⟩
  obtain ⟨oc, od, _, _, _, _, _, _, _, osl, _, lk, _⟩ := F.ex
  exact ⟨oc, od, osl, lk⟩
end
section
variable {X : Cx} {W : L2.WX} {cl : Nat → Addr}
theorem d_callF {F : List PyData → Rs PyData} {k : Nat} {x : Str} {p pos : Pos} {e : Expr} {es : List Expr} {t : TA} {g : Sl → Rs (List PyData)}
    {ps : List Str} (G : FB X.prog X.w X.K X.mg X.base cl k x ps F) (hr : Room k X.A) (hg : Gl X x) (tk : Takes X W) (ha : DA X W cl (e :: es) t g)
    (hdb : (x == ("__debug__" : Str)) = false := by decide) (he : starEach (e :: es) X.env = (false, eval e X.env) :: starEach es X.env := by rfl) (hpl : (backTo pos (starEach es X.env)).any (·.1) = false := by rfl) :
    DX pF X W cl (.Call (.Name x p) (e :: es) [] pos) (tCallS (FnSp cl F) (WE W) t) (gCall F g) := by
  obtain ⟨f, fd, G, hm, hk, hb, _⟩ := G
  exact d_call G hr hg hm hk hb tk ha hdb he hpl
/-- not x as a value, x a list or a tuple -/
theorem d_notT {a : Expr} {pos : Pos} {ta : TE} {fa : Sl → Rs PyData} (h : DX pR X W cl a ta fa) : DX pF X W cl (.UnaryOp .Not a pos) (tNotT X.K ta) (gB (gNot (gTru fa))) :=
  ⟨pe_notT h.pe, fun B O0 O σ H ρ Q I ok => by
    refine h.ev B O0 O σ H ρ _ I ?_
    unfold gB gNot gTru at ok
    revert ok
    cases fa ρ with
    | bad => exact fun z => z
    | err c p => exact fun z => z
    | ok x =>
      intro ok v H1 s1 p1
      cases x with
      | bool b =>
        rw [rd_bl p1]
        exact ⟨b, rfl, ok _ H1 s1 ⟨.bl _, fun _ z => nomatch z⟩⟩
      | list ds =>
        obtain ⟨p, vs, rfl, hp, ha⟩ := rd_lst p1
        refine ⟨!vs.isEmpty, .inl ⟨vs, sqL_rd hp, rfl⟩, ?_⟩
        rw [← isEmpty_dq ha]
        exact ok _ H1 s1 ⟨.bl _, fun _ z => nomatch z⟩
      | tuple ds =>
        obtain ⟨p, vs, rfl, hp, ha⟩ := rd_tup p1
        refine ⟨!vs.isEmpty, .inr (.inl ⟨vs, sqT_tq (tq_mono hid_le hp), rfl⟩), ?_⟩
        rw [← isEmpty_dq ha]
        exact ok _ H1 s1 ⟨.bl _, fun _ z => nomatch z⟩
      | _ => exact False.elim ok⟩
/-- a class of errors of the text -/
structure EF (K : Frg) (mg : Str → Option Value) (cl : Nat → Addr) (c : Nat) (x : Str) : Prop where
  gl : mg x = some (.ref (cl c))
  exc : PySem.W.excIn K (cl c) He.veBase "ValueError.__new__" = true
  kp : PySem.W.keepIn K (.ref (cl c)) = true
  sub : PySem.W.subIn K (.ref (cl c)) (.type "BaseException") = some true
  ty : PySem.W.typeIn K (.ref (cl c)) = some (.type "type")
theorem ds_raiseN {c : Nat} {x m : Str} {j : Nat} {p p2 pos rpos : Pos} (F : EF X.K X.mg cl c x) (hc : X.calm = true) (tk : Takes X W) (hg : Gl X x) (hdb : (x == ("__debug__" : Str)) = false := by decide) :
    DS X W cl (.Raise (some (.Call (.Name x p) [.Constant (.str m) j p2] [] pos)) none rpos) (fun _ σ H => W (.ref (cl c)) none σ H) (sRaise c) :=
  ds_raise hc tk (pmk_own PySem.F.excBase_ValueError F.exc F.gl F.kp (raises_own F.sub F.ty) hg hdb)
theorem names_of {c : Nat} {x : Str} (F : EF X.K X.mg cl c x) (hg : Gl X x) (hdb : (x == ("__debug__" : Str)) = false := by decide) : Names X x (.ref (cl c)) := ⟨hg, hdb, .inl F.gl⟩
end
theorem hu65 {k : Nat} {A : Around} (h : Room k A) : A.units + 65 < cLine := by have := h.un; omega
theorem hu64 {k : Nat} {A : Around} (h : Room k A) : A.units + 64 < cLine := by have := h.un; omega
section
variable {X : Cx} {W : L2.WX} {cl : Nat → Addr} {K : Frg}
theorem dt_truK {a : Expr} {t : TE} {f : Sl → Rs PyData} (hK : X.K = K) (h : DX pR X W cl a t f) (he : ∀ whole, isTrue a X.env whole = (do let v ← whole; standAt a.pos; holding [v] (truthy v)) := by intro _; rfl) : DT X W cl a (tTruK K t) (gTru f) := hK ▸ dt_tru h he
theorem d_notTK {a : Expr} {pos : Pos} {ta : TE} {fa : Sl → Rs PyData} (hK : X.K = K) (h : DX pR X W cl a ta fa) : DX pF X W cl (.UnaryOp .Not a pos) (tNotT K ta) (gB (gNot (gTru fa))) := hK ▸ d_notT h
end
/-! ### the law's end -/
def CXU (P : Program) : CXT := fun outer H s E e s' => ∃ w, L2.CX P w outer H s E e s'
theorem cxu_no {P : Program} {H : Hp} {s : Shared} {e : Value} {s' : Shared} (z : CXU P [] H s (fun _ _ _ => False) e s') : False := by
  obtain ⟨w, a, B, H', cls, d, _, _, _, _, _, _, _, h⟩ := z
  exact h
theorem cxu_of {P : Program} {w : World} {K : Frg} {mg : Str → Option Value} {base : Heap} {k : Nat} {f : Addr} {fd : FuncData} {ps : List Str} {sp : Sp} (F : FnOk P w K mg base (L2.CX P w) k f fd ps sp) : FnOk P w K mg base (CXU P) k f fd ps sp :=
  ⟨F.len, fun A outer s H args us vs Q E hr he hb hv hs => codeAny_mono (F.run A outer s H args us vs Q E hr he hb hv hs) fun r s' z => by
    cases r with
    | ok c => cases c <;> exact z
    | error e => exact ⟨w, z⟩⟩
theorem fb_fn {P : Program} {w : World} {K : Frg} {mg : Str → Option Value} {base : Heap} {cl : Nat → Addr} {k : Nat} {x : Str} {ps : List Str} {F : List PyData → Rs PyData} {st : Stmt} {f : Addr} {fd : FuncData} (G : FB P w K mg base cl k x ps F) (hm : mg x = some (.ref f)) (FD : FunD K x x (defArgs st) (defBody st) (defScope st) [] [] f fd) : FnOk P w K mg base (L2.CX P w) k f fd ps (FnSp cl F) := by
  obtain ⟨f', fd', G, hm', _, _, oc, od, osl, lk⟩ := G
  have e := hm.symm.trans hm'
  cases e
  obtain ⟨oc2, od2, _, _, _, _, _, _, _, osl2, _, lk2, _⟩ := FD.ex
  rw [lk] at lk2
  cases lk2
  exact G
/-! ### what the head is asked beyond the facts -/
def errNames : List Str := ["ShareError", "BadText", "BadPieces", "BadList", "Unlike", "CantServe", "BadNumber", "BadLots", "BadStep", "TooGreat", "Nothing"]
def clOf (K : Frg) (c : Nat) : Addr := He.ga K (errNames.getD c "ShareError")
def noLstB (K : Frg) : Bool := K.all fun p => match p.2.cls with
  | .type c => !decide (c = "list")
  | _ => true
def excCB (K : Frg) (D : Addr) : Bool :=
  He.eqO (PySem.W.findIn K (.ref D) "__getattribute__") (some (some (.builtin "BaseException.__getattribute__"))) &&
  (He.eqO (PySem.W.findIn K (.ref D) "__getattr__") (some none) &&
  (decide (PySem.W.subIn K (.ref D) (.type "BaseException") = some true) &&
  (PySem.W.hasDictIn K D &&
  (He.eqO (PySem.W.findIn K (.ref D) "__class__") (some (some (.builtin "object.__class__"))) &&
  (He.eqO (PySem.W.specialIn K (.builtin "object.__class__") "__get__") (some (some (.builtin "getset_descriptor.__get__"))) &&
  (decide (PySem.W.takesIn K (.builtin "object.__class__") = some true) &&
  decide (PySem.W.mroIn K D (.type "object") = some true)))))))
theorem excC_of {K : Frg} {D : Addr} (h : excCB K D = true) : ExcC K D := by
  unfold excCB at h
  obtain ⟨h1, h⟩ := He.ba h
  obtain ⟨h2, h⟩ := He.ba h
  obtain ⟨h3, h⟩ := He.ba h
  obtain ⟨h4, h⟩ := He.ba h
  obtain ⟨h5, h⟩ := He.ba h
  obtain ⟨h6, h⟩ := He.ba h
  obtain ⟨h7, h8⟩ := He.ba h
  exact ⟨He.eqO_ok h1, He.eqO_ok h2, of_decide_eq_true h3, h4, He.eqO_ok h5, He.eqO_ok h6, of_decide_eq_true h7, of_decide_eq_true h8⟩
def pairB (K : Frg) (c k : Nat) : Bool := decide (PySem.W.kitOne K (.ref (clOf K c)) (.ref (clOf K k)) = some (subX c k)) && decide (PySem.W.exmOne K (.ref (clOf K c)) (.ref (clOf K k)) = some (subX c k))
def exB (cs : List Nat) (K : Frg) : Bool := noLstB K && ((cs.all fun c => excCB K (clOf K c)) && cs.all fun c => cs.all fun k => pairB K c k)
def knOf (cs : List Nat) (c : Nat) : Bool := cs.contains c
theorem ex_noLst {cs : List Nat} {K : Frg} (h : exB cs K = true) {H : Hp} {a : Addr} {xs : List V} (s : SqL K H a xs) : Rd H a (.lst xs) := by
  rcases s with s | ⟨o, its, n, e, hc, _⟩
  · exact s
  · have h1 := (He.ba h).1
    have := List.all_eq_true.mp h1 (a, o) (He.lookup_mem e)
    dsimp only at this
    rw [hc] at this
    simp at this
theorem ex_xf {cs : List Nat} {K : Frg} (h : exB cs K = true) : XF K (clOf K) (knOf cs) := by
  obtain ⟨_, h⟩ := He.ba h
  obtain ⟨h1, h2⟩ := He.ba h
  have mem : ∀ {c : Nat}, knOf cs c = true → c ∈ cs := fun {c} z => by
    unfold knOf at z
    simpa using z
  refine ⟨fun c hc => excC_of (List.all_eq_true.mp h1 c (mem hc)), fun c k hc hk => ?_, fun c k hc hk => ?_⟩
  · exact of_decide_eq_true (He.ba (List.all_eq_true.mp (List.all_eq_true.mp h2 c (mem hc)) k (mem hk))).1
  · exact of_decide_eq_true (He.ba (List.all_eq_true.mp (List.all_eq_true.mp h2 c (mem hc)) k (mem hk))).2
theorem ef_of {K : Frg} {h : Heap} {mg : Str → Option Value} (X : K.In h) (G : h.Ns mainGlobals mg) {c : Nat} {x : Str} (e : errNames.getD c "ShareError" = x) (cg : (He.Fa.glo x).ok K = true) (ce : (He.Fa.exc x).ok K = true) : EF K mg (clOf K) c x := by
  obtain ⟨a, b, c', d⟩ := He.exc_ok ce
  subst e
  exact ⟨He.glo_ok X G cg, a, b, c', d⟩
theorem in_of {K : Frg} {h : Heap} {mg : Str → Option Value} (X : K.In h) (G : h.Ns mainGlobals mg) {c : Nat} {x : Str} (e : errNames.getD c "ShareError" = x) (cg : (He.Fa.glo x).ok K = true) : mg x = some (.ref (clOf K c)) := by
  subst e
  exact He.glo_ok X G cg
/-! ### a value that is no list is as new -/
def noL : PyData → Rs PyData
  | .list _ => .bad
  | x => .ok x
def gNl (f : Sl → Rs PyData) : Sl → Rs PyData := fun ρ => (f ρ).bind noL
section
variable {X : Cx} {W : L2.WX} {cl : Nat → Addr}
theorem DX.nl {e : Expr} {t : TE} {f : Sl → Rs PyData} (h : DX pD X W cl e t f) : DX pF X W cl e t (gNl f) := ⟨h.pe, fun B O0 O σ H ρ Q I ok => by
  refine h.ev B O0 O σ H ρ Q I ?_
  unfold gNl at ok
  revert ok
  cases f ρ with
  | bad => exact fun z => z
  | err c p => exact fun z => z
  | ok x =>
    cases x with
    | list ds => exact fun z => False.elim z
    | _ => exact fun ok v H1 s1 p1 => ok v H1 s1 ⟨p1, fun _ z => nomatch z⟩⟩
theorem ds_itemN {i : Nat} {x : Str} {e k : Expr} {te tk : TE} {f fk : Sl → Rs PyData} {p spos pos : Pos} (he : DX pD X W cl e te f) (hk : DX pR X W cl k tk fk) (hN : X.N[i]? = some x := by rfl) (hv : Vis X.env.scope x := by first | exact Or.inl rfl | exact Or.inr (Or.inl rfl) | exact Or.inr (Or.inr rfl)) (hd : (x == ("__debug__" : Str)) = false := by decide)
    (hcd : (x == ("__classdict__" : Str)) = false := by decide) (ha : ∀ v, assign (.Subscript (.Name x p) k spos) X.env v = (do
      let ov ← holding [v] (eval (.Name x p) X.env)
      let iv ← holding [v, ov] (eval k X.env)
      standAt spos
      holding [v, ov, iv] (setItem ov iv v)
      release [v, ov, iv] []) := by intro _; rfl)
    (hs : swapsWithSole [.Subscript (.Name x p) k spos] e pos.line X.env = pure false := by rfl) (hw : swappedStores [.Subscript (.Name x p) k spos] e X.env = pure none := by rfl)
    (h1 : (assignEach [.Subscript (.Name x p) k spos] X.env).map (·.2) = [assign (.Subscript (.Name x p) k spos) X.env] := by rfl) : DS X W cl (.Assign [.Subscript (.Name x p) k spos] e pos) (tAsg te (gSub (tVar i) tk rSetL)) (sItem i fk f) :=
  ds_item he hk hN hv hd hcd (pg_sub (pe_var hN hv hd hcd) hk.pe set_list ha) hs hw h1
theorem ds_setLcAll {i : Nat} {y : Str} {py : Pos} {elt tg iter : Expr} {scope : Scope} {own : List (Str × Nat)} {pos spos : Pos} {R : RR} {is : List Nat} {wi : TI} {g : TG} {te : TE} {f : Sl → Rs (List PyData)} {set : PyData → Sl → Option Sl} {fe : Sl → Rs PyData} (hc : X.calm = true) (hN : X.N.Nodup) (hy : X.N[i]? = some y) (hyl : X.env.scope.names.lookup y = some .local)
    (hsw : swapsWith (.ListComp elt [⟨tg, iter, [], 0⟩] scope pos) (some (.Name y py)) spos.line X.env = pure true) (hi : DI (pItC R) X W cl tg iter wi f) (ok : BlkOk X.N X.env.scope scope own)
    (hg : ∀ (s : Shared) (H : Hp) (C : Addr) (cl' : List (Str × Addr)) (fp : List Addr), PG (X.blk s H scope (compEnvC scope cl' C X.env) fp) tg g) (hs : EvT R is g set) (hsub : ∀ i ∈ is, i ∈ own.map (·.2))
    (he : ∀ (s : Shared) (H : Hp) (C : Addr) (cl' : List (Str × Addr)) (fp : List Addr), DX pD (X.blk s H scope (compEnvC scope cl' C X.env) fp) W0 cl elt te fe) (hf : ∀ x, foldedSetIterable iter X.env x = pure x := by intro _; rfl) :
    DS X W cl (.Assign [.Name y py] (.ListComp elt [⟨tg, iter, [], 0⟩] scope pos) spos) (tAsg (tLc wi g tYes te (own.map (·.2))) (gName i)) (sSet i (gLc (own.map (·.2)) f set gYes fe)) :=
  ds_setLc hc hN hy hyl hsw hi ok hg hs hsub (fun _ _ _ _ _ => pts_nil) ev_yes he hf
theorem ds_setLcIf {i : Nat} {y : Str} {py : Pos} {elt tg iter c : Expr} {scope : Scope} {own : List (Str × Nat)} {pos spos : Pos} {R : RR} {is : List Nat} {wi : TI} {g : TG} {tt : TT} {te : TE} {f : Sl → Rs (List PyData)} {set : PyData → Sl → Option Sl} {test : Sl → Rs Bool} {fe : Sl → Rs PyData} (hc : X.calm = true) (hN : X.N.Nodup) (hy : X.N[i]? = some y) (hyl : X.env.scope.names.lookup y = some .local)
    (hsw : swapsWith (.ListComp elt [⟨tg, iter, [c], 0⟩] scope pos) (some (.Name y py)) spos.line X.env = pure true) (hi : DI (pItC R) X W cl tg iter wi f) (ok : BlkOk X.N X.env.scope scope own)
    (hg : ∀ (s : Shared) (H : Hp) (C : Addr) (cl' : List (Str × Addr)) (fp : List Addr), PG (X.blk s H scope (compEnvC scope cl' C X.env) fp) tg g) (hs : EvT R is g set) (hsub : ∀ i ∈ is, i ∈ own.map (·.2))
    (ht : ∀ (s : Shared) (H : Hp) (C : Addr) (cl' : List (Str × Addr)) (fp : List Addr), DT (X.blk s H scope (compEnvC scope cl' C X.env) fp) W0 cl c tt test)
    (he : ∀ (s : Shared) (H : Hp) (C : Addr) (cl' : List (Str × Addr)) (fp : List Addr), DX pD (X.blk s H scope (compEnvC scope cl' C X.env) fp) W0 cl elt te fe) (hf : ∀ x, foldedSetIterable iter X.env x = pure x := by intro _; rfl) :
    DS X W cl (.Assign [.Name y py] (.ListComp elt [⟨tg, iter, [c], 0⟩] scope pos) spos) (tAsg (tLc wi g tt te (own.map (·.2))) (gName i)) (sSet i (gLc (own.map (·.2)) f set test fe)) :=
  ds_setLc hc hN hy hyl hsw hi ok hg hs hsub (fun s H C c' fp => pts_one (ht s H C c' fp).pt) (ht X.s_0 X.H_0 0 [] []).ev he hf
end
end SB

namespace SB
open PySem
section
variable {α β : Type} {ρ ρ' : Sl} {i j : Nat} {x y : PyData}
theorem b_ok {a : α} {f : α → Rs β} : (Rs.ok a).bind f = f a := rfl
theorem b_err {c : Nat} {p : Option PyData} {f : α → Rs β} : (Rs.err c p).bind f = .err c p := rfl
theorem b_bad {f : α → Rs β} : (Rs.bad : Rs α).bind f = .bad := rfl
theorem o_ok {a : α} {k : α → Ot} : oBind (.ok a) ρ k = k a := rfl
theorem o_err {c : Nat} {p : Option PyData} {k : α → Ot} : oBind (.err c p) ρ k = .er c p ρ := rfl
theorem n_ok {a : α} : noErr (.ok a) = .ok a := rfl
theorem q_nx {b : Sl → Ot} {a : Sl → Ot} (h : a ρ = .nx ρ') : sSeq a b ρ = b ρ' := by unfold sSeq; rw [h]
theorem q_rt {b : Sl → Ot} {a : Sl → Ot} {d : PyData} (h : a ρ = .rt d) : sSeq a b ρ = .rt d := by unfold sSeq; rw [h]
theorem q_er {b : Sl → Ot} {a : Sl → Ot} {c : Nat} {p : Option PyData} (h : a ρ = .er c p ρ') : sSeq a b ρ = .er c p ρ' := by unfold sSeq; rw [h]
/-- a sequence, by its first part's end -/
def seqK (b : Sl → Ot) : Ot → Ot
  | .nx ρ' => b ρ'
  | o => o
theorem seqK_nx {b : Sl → Ot} : seqK b (.nx ρ) = b ρ := rfl
theorem seqK_rt {b : Sl → Ot} {d : PyData} : seqK b (.rt d) = .rt d := rfl
theorem seqK_er {b : Sl → Ot} {c : Nat} {p : Option PyData} : seqK b (.er c p ρ) = .er c p ρ := rfl
theorem sSeq_K {a b : Sl → Ot} : sSeq a b ρ = seqK b (a ρ) := by
  unfold sSeq seqK
  cases a ρ <;> rfl
theorem v_d (h : ρ[i]? = some (some (.d x))) : gVar i ρ = .ok x := by unfold gVar; rw [h]
theorem v_Rd (h : ρ[i]? = some (some (.d x))) : gVarR i ρ = .ok x := by unfold gVarR; rw [h]
theorem v_Ro {xs : List PyData} (h : ρ[i]? = some (some (.own xs))) : gVarR i ρ = .ok (.list xs) := by unfold gVarR; rw [h]
theorem v_Fo {xs : List PyData} (h : ρ[i]? = some (some (.own xs))) : gVarF i ρ = .ok (.list xs) := by unfold gVarF; rw [h]
theorem v_Fi {k : Int} (h : ρ[i]? = some (some (.d (.int k)))) : gVarF i ρ = .ok (.int k) := by unfold gVarF; rw [h]
theorem v_Fb {k : Bool} (h : ρ[i]? = some (some (.d (.bool k)))) : gVarF i ρ = .ok (.bool k) := by unfold gVarF; rw [h]
theorem v_Fs {k : Str} (h : ρ[i]? = some (some (.d (.str k)))) : gVarF i ρ = .ok (.str k) := by unfold gVarF; rw [h]
theorem v_Ft {k : List PyData} (h : ρ[i]? = some (some (.d (.tuple k)))) : gVarF i ρ = .ok (.tuple k) := by unfold gVarF; rw [h]
theorem v_Fn (h : ρ[i]? = some (some (.d .none))) : gVarF i ρ = .ok .none := by unfold gVarF; rw [h]
theorem f_o {xs : List PyData} (h : ρ[i]? = some (some (.own xs))) : frz i ρ = ρ.set i (some (.d (.list xs))) := by unfold frz; rw [h]
theorem f_d (h : ρ[i]? = some (some (.d x))) : frz i ρ = ρ := by unfold frz; rw [h]
theorem a_i {k : Int} : asI (.int k) = .ok k := rfl
theorem a_b {k : Bool} : asB (.bool k) = .ok k := rfl
theorem a_l {k : List PyData} : asL (.list k) = .ok k := rfl
theorem a_sl {k : List PyData} : asSeq (.list k) = .ok k := rfl
theorem a_st {k : List PyData} : asSeq (.tuple k) = .ok k := rfl
theorem l_i {k : Int} : noL (.int k) = .ok (.int k) := rfl
theorem l_b {k : Bool} : noL (.bool k) = .ok (.bool k) := rfl
theorem l_s {k : Str} : noL (.str k) = .ok (.str k) := rfl
theorem l_t {k : List PyData} : noL (.tuple k) = .ok (.tuple k) := rfl
theorem l_n : noL .none = .ok .none := rfl
theorem t_b {k : Bool} : truth (.bool k) = .ok k := rfl
theorem t_l {k : List PyData} : truth (.list k) = .ok (!k.isEmpty) := rfl
theorem t_t {k : List PyData} : truth (.tuple k) = .ok (!k.isEmpty) := rfl
theorem p_add {a b : Int} : pAdd (.int a) (.int b) = .ok (.int (a + b)) := rfl
theorem p_addT {a b : List PyData} (h : a.length + b.length ≤ 100000) : pAdd (.tuple a) (.tuple b) = .ok (.tuple (a ++ b)) := if_pos h
theorem p_addL {a b : List PyData} (h : a.length + b.length ≤ 100000) : pAdd (.list a) (.list b) = .ok (.list (a ++ b)) := if_pos h
theorem p_sub {a b : Int} : pSub (.int a) (.int b) = .ok (.int (a - b)) := rfl
theorem p_mul {a b : Int} (h : mulOk a b) : pMul (.int a) (.int b) = .ok (.int (a * b)) := if_pos h
theorem p_mod {a b : Int} (h : 0 < b) : pMod (.int a) (.int b) = .ok (.int (a % b)) := if_pos h
theorem p_div {a b : Int} (h : L2.CDiv a b) : pDiv (.int a) (.int b) = .ok (.int (a / b)) := if_pos h
theorem p_pow {a b : Int} (h : L2.CPow a b) : pPow (.int a) (.int b) = .ok (.int (a ^ b.toNat)) := if_pos h
theorem p_lt {a b : Int} : pLt (.int a) (.int b) = .ok (.bool (decide (a < b))) := rfl
theorem p_le {a b : Int} : pLe (.int a) (.int b) = .ok (.bool (decide (a ≤ b))) := rfl
theorem p_gt {a b : Int} : pGt (.int a) (.int b) = .ok (.bool (decide (b < a))) := rfl
theorem p_ge {a b : Int} : pGe (.int a) (.int b) = .ok (.bool (decide (b ≤ a))) := rfl
theorem p_min {a b : Int} : pMin (.int a) (.int b) = .ok (.int (if b < a then b else a)) := rfl
theorem p_max {a b : Int} : pMax (.int a) (.int b) = .ok (.int (if b > a then b else a)) := rfl
theorem p_lenL {k : List PyData} : pLen (.list k) = .ok (.int k.length) := rfl
theorem p_lenT {k : List PyData} : pLen (.tuple k) = .ok (.int k.length) := rfl
theorem p_tupL {k : List PyData} : pTuple (.list k) = .ok (.tuple k) := rfl
theorem p_tupT {k : List PyData} : pTuple (.tuple k) = .ok (.tuple k) := rfl
theorem p_lstL {k : List PyData} : pList (.list k) = .ok (.list k) := rfl
theorem p_lstT {k : List PyData} : pList (.tuple k) = .ok (.list k) := rfl
theorem p_ixL {k : List PyData} {a : Int} (h : L2.atI k a = some x) : pIx (.list k) (.int a) = .ok x := by show ixD k a = _; unfold ixD; rw [h]
theorem p_ixT {k : List PyData} {a : Int} (h : L2.atI k a = some x) : pIx (.tuple k) (.int a) = .ok x := by show ixD k a = _; unfold ixD; rw [h]
theorem p_slL {k : List PyData} {a b : Option Int} : pSl (.list k) a b = .ok (.list (cutD k a b)) := rfl
theorem p_slT {k : List PyData} {a b : Option Int} : pSl (.tuple k) a b = .ok (.tuple (cutD k a b)) := rfl
theorem p_eq (h : SeqAt.shaped x = true) (k : SeqAt.shaped y = true) : pEq x y = .ok (.bool (PyData.eqv x y)) := if_pos ⟨h, k⟩
theorem p_ne (h : SeqAt.shaped x = true) (k : SeqAt.shaped y = true) : pNe x y = .ok (.bool (!PyData.eqv x y)) := if_pos ⟨h, k⟩
theorem p_isN : pIs x .none = .ok (.bool (isNoneD x)) := rfl
theorem p_isNotN : pIsNot x .none = .ok (.bool (!isNoneD x)) := rfl
theorem r_1 {k : Int} (h : -1000000000 ≤ k ∧ k ≤ 1000000000) : rg1 (.int k) = .ok (rgD 0 k.toNat) := if_pos h
theorem r_2 {a b : Int} (h : (-1000000000 ≤ a ∧ a ≤ 1000000000) ∧ (-1000000000 ≤ b ∧ b ≤ 1000000000)) : rg2 (.int a) (.int b) = .ok (rgD a (b - a).toNat) := if_pos h
theorem c_k {q : Int → Int → Bool} {a b : Int} : gChainK q a (.int b) = .ok (.bool (q a b)) := rfl
theorem c_j {p q : Int → Int → Bool} {r : Rs PyData} {a b : Int} : gChainJ p q r (.int a) (.int b) = if p a b = true then r.bind (gChainK q b) else .ok (.bool false) := rfl
theorem i_non {T : String} : isiD T .none = .ok false := rfl
theorem i_bl {T : String} {b : Bool} : isiD T (.bool b) = .ok (T == "bool" || T == "int") := rfl
theorem i_int {T : String} {b : Int} : isiD T (.int b) = .ok (T == "int") := rfl
theorem i_str {T : String} {b : Str} : isiD T (.str b) = .ok (T == "str") := rfl
theorem i_lst {T : String} {b : List PyData} : isiD T (.list b) = .ok (T == "list") := rfl
theorem i_tup {T : String} {b : List PyData} : isiD T (.tuple b) = .ok (T == "tuple") := rfl
def mkT (ds : List PyData) : Rs PyData := if ds.length ≤ sz then .ok (.tuple ds) else .bad
def mkL (ds : List PyData) : Rs PyData := if ds.length ≤ sz then .ok (.list ds) else .bad
theorem gTup_b {g : Sl → Rs (List PyData)} : gTup g ρ = (g ρ).bind mkT := rfl
theorem gLst_b {g : Sl → Rs (List PyData)} : gLst g ρ = (g ρ).bind mkL := rfl
theorem mkT_ok {ds : List PyData} (hl : ds.length ≤ 100000) : mkT ds = .ok (.tuple ds) := if_pos hl
theorem mkL_ok {ds : List PyData} (hl : ds.length ≤ 100000) : mkL ds = .ok (.list ds) := if_pos hl
theorem sap {xs : List PyData} {f : Sl → Rs PyData} (h : ρ[i]? = some (some (.own xs))) (hl : xs.length < 100000) : sApp i f ρ = oBind (f ρ) ρ fun d => .nx (ρ.set i (some (.own (xs ++ [d])))) := by
  unfold sApp
  rw [h]
  simp only [show xs.length < sz from hl, if_true]
def itK (i : Nat) (xs : List PyData) (d : PyData) (ρ : Sl) (k : Int) : Ot := match L2.ixN xs.length k with
  | some j => .nx (ρ.set i (some (.own (xs.set j d))))
  | none => .bad
theorem sit {xs : List PyData} {fk f : Sl → Rs PyData} (h : ρ[i]? = some (some (.own xs))) : sItem i fk f ρ = oBind (f ρ) ρ fun d => oBind ((fk ρ).bind asI) ρ fun k => itK i xs d ρ k := by
  unfold sItem
  simp only [h]
  rfl
theorem itK_ok {xs : List PyData} {d : PyData} {k : Int} {j : Nat} (hj : L2.ixN xs.length k = some j) : itK i xs d ρ k = .nx (ρ.set i (some (.own (xs.set j d)))) := by
  unfold itK
  rw [hj]
def exK (i : Nat) (xs : List PyData) (ρ : Sl) (ds : List PyData) : Ot := if xs.length + ds.length ≤ sz then .nx (ρ.set i (some (.own (xs ++ ds)))) else .bad
theorem sex {xs : List PyData} {f : Sl → Rs PyData} (h : ρ[i]? = some (some (.own xs))) : sExt i f ρ = oBind ((f ρ).bind asSeq) ρ (exK i xs ρ) := by
  unfold sExt
  simp only [h]
  rfl
theorem exK_ok {xs ds : List PyData} (hl : xs.length + ds.length ≤ 100000) : exK i xs ρ ds = .nx (ρ.set i (some (.own (xs ++ ds)))) := if_pos hl
theorem asInts_ints : ∀ xs : List Int, asInts (xs.map PyData.int) = some xs
  | [] => rfl
  | x :: xs => by
    show (asInts (xs.map PyData.int)).map (x :: ·) = _
    rw [asInts_ints xs]; rfl
def reK (i : Nat) (xs : List Int) (ρ : Sl) (k : Int) : Ot := if k ∈ xs then .nx (ρ.set i (some (.own ((xs.erase k).map PyData.int)))) else .bad
theorem sre {xs : List Int} {f : Sl → Rs PyData} (h : ρ[i]? = some (some (.own (xs.map PyData.int)))) : sRem i f ρ = oBind ((f ρ).bind asI) ρ (reK i xs ρ) := by
  unfold sRem
  simp only [h, asInts_ints]
  rfl
theorem reK_ok {xs : List Int} {k : Int} (hk : k ∈ xs) : reK i xs ρ k = .nx (ρ.set i (some (.own ((xs.erase k).map PyData.int)))) := if_pos hk
theorem p_srtL {xs : List Int} : pSorted (.list (xs.map PyData.int)) = .ok (.list ((sortI xs).map PyData.int)) := by
  unfold pSorted
  simp only [asInts_ints]
theorem p_srtT {xs : List Int} : pSorted (.tuple (xs.map PyData.int)) = .ok (.list ((sortI xs).map PyData.int)) := by
  unfold pSorted
  simp only [asInts_ints]
theorem p_sumL {xs : List Int} : pSum (.list (xs.map PyData.int)) = .ok (.int xs.sum) := by
  unfold pSum
  simp only [asInts_ints]
theorem p_sumT {xs : List Int} : pSum (.tuple (xs.map PyData.int)) = .ok (.int xs.sum) := by
  unfold pSum
  simp only [asInts_ints]
theorem rs_rt : (Ot.rt x).rs = .ok x := rfl
theorem rs_nx : (Ot.nx ρ).rs = .ok .none := rfl
theorem rs_er {c : Nat} {p : Option PyData} : (Ot.er c p ρ).rs = .err c p := rfl
theorem if_bt {a b : Ot} : (if true = true then a else b) = a := if_pos rfl
end
/-! ### loops -/
theorem forLoop_inv {set : PyData → Sl → Option Sl} {body : Sl → Ot} (P : Nat → Sl → Prop) : ∀ (ds : List PyData) (k : Nat) (ρ : Sl), P k ρ →
    (∀ i d ρ, ds[i]? = some d → P (k + i) ρ → ∃ ρ1 ρ2, set d ρ = some ρ1 ∧ body ρ1 = .nx ρ2 ∧ P (k + i + 1) ρ2) → ∃ ρ', forLoop set body ds ρ = .nx ρ' ∧ P (k + ds.length) ρ'
  | [], k, ρ, h, _ => ⟨ρ, rfl, h⟩
  | d :: ds, k, ρ, h, st => by
    obtain ⟨ρ1, ρ2, e1, e2, h2⟩ := st 0 d ρ rfl h
    obtain ⟨ρ', e3, h3⟩ := forLoop_inv P ds (k + 1) ρ2 h2 fun i d' ρ' hd hp => by
      have := st (i + 1) d' ρ' (by simpa using hd) (by rw [show k + (i + 1) = k + 1 + i by omega]; exact hp)
      rw [show k + (i + 1) + 1 = k + 1 + i + 1 by omega] at this
      exact this
    refine ⟨ρ', ?_, by rw [List.length_cons, show k + (ds.length + 1) = k + 1 + ds.length by omega]; exact h3⟩
    unfold forLoop
    simp only [e1, e2]
    exact e3
theorem forLoop_cons {set : PyData → Sl → Option Sl} {body : Sl → Ot} {d : PyData} {ds : List PyData} {ρ ρ1 : Sl} (h : set d ρ = some ρ1) : forLoop set body (d :: ds) ρ = seqK (forLoop set body ds) (body ρ1) := by
  unfold forLoop
  rw [h]
  dsimp only
  cases body ρ1 <;> rfl
theorem lc_eq {set : PyData → Sl → Option Sl} {test : Sl → Rs Bool} {elt : Sl → Rs PyData} {ρ : Sl} (p : PyData → Bool) (f : PyData → PyData) : ∀ (ds : List PyData),
    (∀ d ∈ ds, ∃ ρ1, set d ρ = some ρ1 ∧ test ρ1 = .ok (p d) ∧ (p d = true → elt ρ1 = .ok (f d))) → lcLoop set test elt ρ ds = .ok ((ds.filter p).map f)
  | [], _ => rfl
  | d :: ds, h => by
    obtain ⟨ρ1, e1, e2, e3⟩ := h d List.mem_cons_self
    have ih := lc_eq p f ds fun d' hd => h d' (List.mem_cons_of_mem _ hd)
    unfold lcLoop
    simp only [e1, e2, noErr, Rs.bind]
    cases hp : p d with
    | false => rw [List.filter_cons_of_neg (by rw [hp]; exact Bool.false_ne_true), if_neg Bool.false_ne_true]; exact ih
    | true =>
      rw [List.filter_cons_of_pos hp, if_pos rfl, e3 hp, ih]
      rfl
theorem gLc_eq {vs : List Nat} {items : Sl → Rs (List PyData)} {set : PyData → Sl → Option Sl} {test : Sl → Rs Bool} {elt : Sl → Rs PyData} {ρ : Sl} {ds : List PyData} (p : PyData → Bool) (f : PyData → PyData) (h : items ρ = .ok ds) (hl : ds.length ≤ 100000)
    (hh : ∀ d ∈ ds, ∃ ρ1, set d (wipeS ρ vs) = some ρ1 ∧ test ρ1 = .ok (p d) ∧ (p d = true → elt ρ1 = .ok (f d))) : gLc vs items set test elt ρ = .ok (.list ((ds.filter p).map f)) := by
  unfold gLc
  rw [h, b_ok, if_pos (show ds.length ≤ sz from hl), lc_eq p f ds hh]
  rfl
theorem rgD_get2 {lo : Int} {n i : Nat} {d : PyData} (h : (rgD lo n)[i]? = some d) : d = .int (lo + (i : Nat)) ∧ i < n := ⟨rgD_get h, by
  obtain ⟨h1, _⟩ := List.getElem?_eq_some_iff.mp h
  rw [rgD_len] at h1; exact h1⟩
/-! ### lists of ints -/
theorem atI_ints (ns : List Int) (k : Int) (h0 : 0 ≤ k) (h : k < ns.length) : L2.atI (ns.map PyData.int) k = some (.int (ns.getD k.toNat 0)) := by
  unfold L2.atI L2.ixN
  rw [List.length_map, if_pos h0, if_pos h]
  have hk : k.toNat < ns.length := by omega
  simp [hk]
theorem ixN_pos {n : Nat} {k : Int} (h0 : 0 ≤ k) (h : k < n) : L2.ixN n k = some k.toNat := by
  unfold L2.ixN
  rw [if_pos h0, if_pos h]
theorem eqvAll_ints : ∀ xs ys : List Int, PyData.eqvAll (xs.map PyData.int) (ys.map PyData.int) = decide (xs = ys)
  | [], [] => by simp [PyData.eqvAll]
  | [], y :: ys => by simp [PyData.eqvAll]
  | x :: xs, [] => by simp [PyData.eqvAll]
  | x :: xs, y :: ys => by
    simp only [List.map_cons, PyData.eqvAll, PyData.eqv, eqvAll_ints xs ys, List.cons.injEq]
    by_cases h : x = y <;> simp [h]
theorem eqv_T (xs ys : List Int) : PyData.eqv (.tuple (xs.map PyData.int)) (.tuple (ys.map PyData.int)) = decide (xs = ys) := by
  rw [PyData.eqv]; exact eqvAll_ints xs ys
theorem eqv_I (a b : Int) : PyData.eqv (.int a) (.int b) = decide (a = b) := by
  rw [PyData.eqv]; by_cases h : a = b <;> simp [h]
theorem lay_ints : ∀ xs : List Int, PyData.canLayAll0 (xs.map PyData.int) = true ∧ PyData.depthAll (xs.map PyData.int) = 0
  | [] => by simp [PyData.canLayAll0, PyData.depthAll]
  | x :: xs => by
    obtain ⟨a, b⟩ := lay_ints xs
    simp [PyData.canLayAll0, PyData.canLay0, PyData.depthAll, PyData.depth, a, b]
theorem shp_i (a : Int) : SeqAt.shaped (.int a) = true := by simp [SeqAt.shaped, PyData.canLay0, PyData.depth]
theorem shp_b (a : Bool) : SeqAt.shaped (.bool a) = true := by simp [SeqAt.shaped, PyData.canLay0, PyData.depth]
theorem shp_n : SeqAt.shaped .none = true := by simp [SeqAt.shaped, PyData.canLay0, PyData.depth]
theorem shp_T (xs : List Int) : SeqAt.shaped (.tuple (xs.map PyData.int)) = true := by
  obtain ⟨a, b⟩ := lay_ints xs
  simp [SeqAt.shaped, PyData.canLay0, PyData.depth, a, b]
theorem shp_L (xs : List Int) : SeqAt.shaped (.list (xs.map PyData.int)) = true := by
  obtain ⟨a, b⟩ := lay_ints xs
  simp [SeqAt.shaped, PyData.canLay0, PyData.depth, a, b]
theorem flat_ints : ∀ xs : List Int, (xs.map PyData.int).all flatD = true
  | [] => rfl
  | x :: xs => by rw [List.map_cons, List.all_cons, flat_ints xs]; rfl
theorem any_ints (xs : List Int) (k : Int) : (xs.map PyData.int).any (fun z => PyData.eqv z (.int k)) = decide (k ∈ xs) := by
  induction xs with
  | nil => rfl
  | cons x xs ih =>
    rw [List.map_cons, List.any_cons, ih, eqv_I]
    by_cases h : x = k
    · simp [h]
    · have : ¬ k = x := fun e => h e.symm
      simp [h, this]
theorem p_inT {xs : List Int} {k : Int} : pIn false (.int k) (.tuple (xs.map PyData.int)) = .ok (.bool (decide (k ∈ xs))) := by
  show (if flatD (.int k) = true ∧ (xs.map PyData.int).all flatD = true then _ else _) = _
  rw [if_pos ⟨rfl, flat_ints xs⟩, any_ints]
  rfl
theorem p_ninT {xs : List Int} {k : Int} : pIn true (.int k) (.tuple (xs.map PyData.int)) = .ok (.bool (!decide (k ∈ xs))) := by
  show (if flatD (.int k) = true ∧ (xs.map PyData.int).all flatD = true then _ else _) = _
  rw [if_pos ⟨rfl, flat_ints xs⟩, any_ints]
  rfl
theorem p_inL {xs : List Int} {k : Int} : pIn false (.int k) (.list (xs.map PyData.int)) = .ok (.bool (decide (k ∈ xs))) := by
  show (if SeqAt.shaped (.int k) = true ∧ SeqAt.shaped (.list (xs.map PyData.int)) = true then _ else _) = _
  rw [if_pos ⟨shp_i k, shp_L xs⟩, any_ints]
  rfl
theorem sum_set : ∀ (l : List Int) (i : Nat) (v : Int), i < l.length → (l.set i v).sum = l.sum - l.getD i 0 + v
  | [], i, v, h => by simp at h
  | x :: l, 0, v, h => by simp; omega
  | x :: l, i + 1, v, h => by
    have := sum_set l i v (by simpa using h)
    simp at this ⊢
    omega
theorem mem_set {l : List Int} {i : Nat} {v x : Int} (h : x ∈ l.set i v) : x ∈ l ∨ x = v := by
  rcases List.mem_or_eq_of_mem_set h with h | h
  · exact .inl h
  · exact .inr h
theorem set_ints (xs : List Int) (i : Nat) (v : Int) : (xs.map PyData.int).set i (.int v) = (xs.set i v).map PyData.int := (List.map_set).symm
theorem getD_app {l m : List Int} {i : Nat} (h : i < l.length) : (l ++ m).getD i 0 = l.getD i 0 := by
  rw [List.getD_eq_getElem?_getD, List.getD_eq_getElem?_getD, List.getElem?_append_left h]
theorem getD_mem {xs : List Int} {i : Nat} (hi : i < xs.length) : xs.getD i 0 ∈ xs := by
  rw [List.getD_eq_getElem?_getD, List.getElem?_eq_getElem hi]
  exact List.getElem_mem hi
theorem perm_sum {xs ys : List Int} (h : xs.Perm ys) : xs.sum = ys.sum := by
  induction h with
  | nil => rfl
  | cons x _ ih => rw [List.sum_cons, List.sum_cons, ih]
  | swap x y l => rw [List.sum_cons, List.sum_cons, List.sum_cons, List.sum_cons]; omega
  | trans _ _ a b => exact a.trans b
def PosL (xs : List Int) : Prop := ∀ x ∈ xs, 1 ≤ x
end SB

namespace SBL
open PySem PySem.Spec PyProof.Rows L2 RZ SB
def kn : Nat → Bool := knOf [0, 2, 8]
def s__law_cell_0 : Sl → Ot := (sIf (gTest (gBin pLt (gVar 1) (gUn pLen (gVar 0)))) (sRet (gNl (gBin pIx (gVar 0) (gVar 1)))) sNext)
def s__law_cell_1 : Sl → Ot := (sRet (gC (.int 0)))
def h__law_cell : Sl → Ot := (sSeq s__law_cell_0
 s__law_cell_1)
def m__law_cell : List PyData → Rs PyData := fnM 2 2 h__law_cell
def s__law_row_0 : Sl → Ot := (sSet 2 (gCall m__law_cell (aCons (gVar 0) (aCons (gVar 1) aNil))))
def s__law_row_1 : Sl → Ot := (sSetO 3 (gLst aNil))
def b__law_row_0 : Sl → Ot := (sIf (gTest (gBin pLt (gCall m__law_cell (aCons (gVar 0) (aCons (gVar 1) aNil))) (gBin pPow (gC (.int 10)) (gC (.int 18))))) (sSeq (sSet 2 (gBin pMod (gBin pAdd (gBin pAdd (gBin pAdd (gBin pMul (gVar 2) (gC (.int 48271))) (gBin pMul (gC (.int 131)) (gVar 4))) (gC (.int 7))) (gCall m__law_cell (aCons (gVar 0) (aCons (gBin pMod (gBin pAdd (gBin pAdd (gVar 1) (gC (.int 1))) (gVar 4)) (gC (.int 20))) aNil)))) (gC (.int 2147483647))))
 (sApp 3 (gBin pMod (gBin pDiv (gVar 2) (gC (.int 11))) (gC (.int 1000))))) (sSeq (sApp 3 (gBin pMod (gVar 2) (gC (.int 1000))))
 (sSet 2 (gBin pDiv (gVar 2) (gC (.int 1000))))))
def s__law_row_2 : Sl → Ot := (sFor (gRg1 (gC (.int 60))) (tgN 4) b__law_row_0)
def s__law_row_3 : Sl → Ot := (sRet (gVarF 3))
def h__law_row : Sl → Ot := (sSeq s__law_row_0
 (sSeq s__law_row_1
 (sSeq s__law_row_2
 s__law_row_3)))
def m__law_row : List PyData → Rs PyData := fnM 2 5 h__law_row
def s__law_list_0 : Sl → Ot := (sSetO 4 (gLst (aCons (gVar 2) aNil)))
def b__law_list_0 : Sl → Ot := (sSeq (sSet 6 (gBin pMod (gBin pIx (gVar 0) (gBin pMod (gBin pAdd (gBin pAdd (gVar 1) (gC (.int 1))) (gBin pMul (gC (.int 2)) (gVar 5))) (gC (.int 60)))) (gUn pLen (gVarR 4))))
 (sIf (gTest (gBin pGt (gBin pIx (gVarR 4) (gVar 6)) (gC (.int 1)))) (sSeq (sSet 7 (gBin pAdd (gC (.int 1)) (gBin pMod (gBin pIx (gVar 0) (gBin pMod (gBin pAdd (gBin pAdd (gVar 1) (gC (.int 2))) (gBin pMul (gC (.int 2)) (gVar 5))) (gC (.int 60)))) (gBin pSub (gBin pIx (gVarR 4) (gVar 6)) (gC (.int 1))))))
 (sSeq (sSetO 4 (gBin pAdd (gVarR 4) (gLst (aCons (gVar 7) aNil))))
 (sItem 4 (gVar 6) (gBin pSub (gBin pIx (gVarR 4) (gVar 6)) (gVar 7))))) sNext))
def s__law_list_1 : Sl → Ot := (sFor (gRg1 (gBin pMod (gBin pIx (gVar 0) (gBin pMod (gVar 1) (gC (.int 60)))) (gVar 3))) (tgN 5) b__law_list_0)
def s__law_list_2 : Sl → Ot := (sRet (gUn pTuple (gUn pSorted (gVarR 4))))
def h__law_list : Sl → Ot := (sSeq s__law_list_0
 (sSeq s__law_list_1
 s__law_list_2))
def m__law_list : List PyData → Rs PyData := fnM 4 8 h__law_list
def s__law_whole_0 : Sl → Ot := (sRet (gB (gAnd (gIsi "int" (gVar 0)) (gNot (gIsi "bool" (gVar 0))))))
def h__law_whole : Sl → Ot := s__law_whole_0
def m__law_whole : List PyData → Rs PyData := fnM 1 1 h__law_whole
def s__law_in_0 : Sl → Ot := (sRet (gB (gAnd (gTest (gCall m__law_whole (aCons (gVar 0) aNil))) (gTest (gChain (fun i j => decide (i ≤ j)) (fun i j => decide (i ≤ j)) (gVar 1) (gVar 0) (gVar 2))))))
def h__law_in : Sl → Ot := s__law_in_0
def m__law_in : List PyData → Rs PyData := fnM 3 3 h__law_in
def s_is_within_0 : Sl → Ot := (sRet (gB (gAnd (gIsi "int" (gVar 0)) (gAnd (gNot (gIsi "bool" (gVar 0))) (gTest (gChain (fun i j => decide (i ≤ j)) (fun i j => decide (i ≤ j)) (gVar 1) (gVar 0) (gVar 2)))))))
def h_is_within : Sl → Ot := s_is_within_0
def m_is_within : List PyData → Rs PyData := fnM 3 3 h_is_within
def s_is_rising_0 : Sl → Ot := (sIf (gOr (gNot (gTru (gB (gIsi "tuple" (gVar 0))))) (gNot (gTest (gChain (fun i j => decide (i ≤ j)) (fun i j => decide (i ≤ j)) (gC (.int 1)) (gUn pLen (gVar 0)) (gVar 1))))) (sRet (gC (.bool false))) sNext)
def s_is_rising_1 : Sl → Ot := (sIf (gTru (gLc [3] (gSeq (gVar 0)) (tgN 3) (gNot (gTru (gCall m_is_within (aCons (gVar 3) (aCons (gC (.int 1)) (aCons (gVar 2) aNil)))))) (gVar 3))) (sRet (gC (.bool false))) sNext)
def s_is_rising_2 : Sl → Ot := (sRet (gB (gNot (gTru (gLc [3, 4] (gZip (gVar 0) (gSl (gVar 0) (oSo (gC (.int 1))) oNo)) (tg2 3 4) (gTest (gBin pGt (gVar 3) (gVar 4))) (gC (.int 1)))))))
def h_is_rising : Sl → Ot := (sSeq s_is_rising_0
 (sSeq s_is_rising_1
 s_is_rising_2))
def m_is_rising : List PyData → Rs PyData := fnM 3 5 h_is_rising
def s_are_pieces_0 : Sl → Ot := (sRet (gCall m_is_rising (aCons (gVar 0) (aCons (gC (.int 13)) (aCons (gC (.int 99)) aNil)))))
def h_are_pieces : Sl → Ot := s_are_pieces_0
def m_are_pieces : List PyData → Rs PyData := fnM 1 1 h_are_pieces
def s_look_pieces_0 : Sl → Ot := (sIf (gNot (gTru (gCall m_are_pieces (aCons (gVar 0) aNil)))) (sRaise 2) sNext)
def h_look_pieces : Sl → Ot := s_look_pieces_0
def m_look_pieces : List PyData → Rs PyData := fnM 1 1 h_look_pieces
def s_with_out_0 : Sl → Ot := (sSetO 3 (gUn pList (gVar 0)))
def b_with_out_0 : Sl → Ot := (sRem 3 (gVar 4))
def s_with_out_1 : Sl → Ot := (sFor (gSeq (gVar 1)) (tgN 4) b_with_out_0)
def s_with_out_2 : Sl → Ot := (sRet (gUn pTuple (gUn pSorted (gBin pAdd (gVarR 3) (gVar 2)))))
def h_with_out : Sl → Ot := (sSeq s_with_out_0
 (sSeq s_with_out_1
 s_with_out_2))
def m_with_out : List PyData → Rs PyData := fnM 3 5 h_with_out
def s_split_0 : Sl → Ot := (sDrop (gCall m_look_pieces (aCons (gVar 0) aNil)))
def s_split_1 : Sl → Ot := (sIf (gOr (gNot (gTru (gCall m_is_within (aCons (gVar 1) (aCons (gC (.int 1)) (aCons (gC (.int 99)) aNil)))))) (gOr (gTest (gBin (pIn true) (gVar 1) (gVar 0))) (gNot (gTru (gCall m_is_within (aCons (gVar 2) (aCons (gC (.int 1)) (aCons (gBin pSub (gVar 1) (gC (.int 1))) aNil)))))))) (sRaise 8) sNext)
def s_split_2 : Sl → Ot := (sIf (gTest (gBin pEq (gUn pLen (gVar 0)) (gC (.int 13)))) (sRaise 8) sNext)
def s_split_3 : Sl → Ot := (sRet (gCall m_with_out (aCons (gVar 0) (aCons (gLst (aCons (gVar 1) aNil)) (aCons (gLst (aCons (gVar 2) (aCons (gBin pSub (gVar 1) (gVar 2)) aNil))) aNil)))))
def h_split : Sl → Ot := (sSeq s_split_0
 (sSeq s_split_1
 (sSeq s_split_2
 s_split_3)))
def m_split : List PyData → Rs PyData := fnM 3 3 h_split
def s_join_0 : Sl → Ot := (sDrop (gCall m_look_pieces (aCons (gVar 0) aNil)))
def s_join_1 : Sl → Ot := (sIf (gOr (gNot (gTru (gCall m_is_within (aCons (gVar 1) (aCons (gC (.int 1)) (aCons (gC (.int 99)) aNil)))))) (gOr (gNot (gTru (gCall m_is_within (aCons (gVar 2) (aCons (gC (.int 1)) (aCons (gC (.int 99)) aNil)))))) (gTest (gBin pGt (gBin pAdd (gVar 1) (gVar 2)) (gC (.int 99)))))) (sRaise 8) sNext)
def s_join_2 : Sl → Ot := (sIf (gOr (gTest (gBin (pIn true) (gVar 1) (gVar 0))) (gOr (gTest (gBin (pIn true) (gVar 2) (gVar 0))) (gAnd (gTest (gBin pEq (gVar 1) (gVar 2))) (gTest (gBin pLt (gCnt (gVar 0) (gVar 1)) (gC (.int 2))))))) (sRaise 8) sNext)
def s_join_3 : Sl → Ot := (sRet (gCall m_with_out (aCons (gVar 0) (aCons (gLst (aCons (gVar 1) (aCons (gVar 2) aNil))) (aCons (gLst (aCons (gBin pAdd (gVar 1) (gVar 2)) aNil)) aNil)))))
def h_join : Sl → Ot := (sSeq s_join_0
 (sSeq s_join_1
 (sSeq s_join_2
 s_join_3)))
def m_join : List PyData → Rs PyData := fnM 3 3 h_join
def s__law_step_told_0 : Sl → Ot := (sTryN kn 5 (sRet (gIf (gTest (gBin pEq (gVar 0) (gC (.int 0)))) (gCall m_split (aCons (gVar 1) (aCons (gVar 2) (aCons (gVar 3) aNil)))) (gCall m_join (aCons (gVar 1) (aCons (gVar 2) (aCons (gVar 3) aNil)))))) [(8, some 4, sdR2 0 2 (.str "step") (.str "other")), (2, some 4, sdR2 0 8 (.str "pieces") (.str "other"))])
def h__law_step_told : Sl → Ot := s__law_step_told_0
def m__law_step_told : List PyData → Rs PyData := fnM 4 5 h__law_step_told
def s_law_0 : Sl → Ot := (sSet 1 (gCall m__law_row (aCons (gVar 0) (aCons (gC (.int 4)) aNil))))
def s_law_1 : Sl → Ot := (sSet 2 (gCall m__law_list (aCons (gVar 1) (aCons (gC (.int 10)) (aCons (gBin pAdd (gC (.int 1)) (gBin pMod (gBin pIx (gVar 1) (gC (.int 0))) (gC (.int 120)))) (aCons (gC (.int 13)) aNil))))))
def s_law_2 : Sl → Ot := (sSet 2 (gUn pTuple (gLc [9] (gSeq (gVar 2)) (tgN 9) gYes (gBin pMin (gVar 9) (gC (.int 99))))))
def s_law_3 : Sl → Ot := (sSet 3 (gIf (gTest (gBin pGt (gBin pMod (gBin pIx (gVar 1) (gC (.int 2))) (gC (.int 4))) (gC (.int 0)))) (gBin pIx (gVar 2) (gBin pMod (gBin pIx (gVar 1) (gC (.int 1))) (gUn pLen (gVar 2)))) (gBin pIx (gLst (aCons (gBin pMod (gBin pIx (gVar 1) (gC (.int 3))) (gC (.int 110))) (aCons (gC .none) (aCons (gC (.int 0)) (aCons (gC (.bool true)) aNil))))) (gBin pMod (gBin pIx (gVar 1) (gC (.int 4))) (gC (.int 4))))))
def s_law_4 : Sl → Ot := (sSet 4 (gIf (gTest (gBin pGt (gBin pMod (gBin pIx (gVar 1) (gC (.int 6))) (gC (.int 3))) (gC (.int 0)))) (gBin pMod (gBin pIx (gVar 1) (gC (.int 5))) (gC (.int 100))) (gC (.int 1))))
def s_law_5 : Sl → Ot := (sSet 5 (gC (.str "step")))
def s_law_6 : Sl → Ot := (sIf (gAnd (gTru (gCall m__law_in (aCons (gVar 3) (aCons (gC (.int 1)) (aCons (gC (.int 99)) aNil))))) (gAnd (gTest (gBin (pIn false) (gVar 3) (gVar 2))) (gAnd (gTest (gChain (fun i j => decide (i ≤ j)) (fun i j => decide (i < j)) (gC (.int 1)) (gVar 4) (gVar 3))) (gTest (gBin pLt (gUn pLen (gVar 2)) (gC (.int 13))))))) (sSeq (sSetO 6 (gUn pList (gVar 2)))
 (sSeq (sRem 6 (gVar 3))
 (sSet 5 (gUn pTuple (gUn pSorted (gBin pAdd (gVarR 6) (gLst (aCons (gVar 4) (aCons (gBin pSub (gVar 3) (gVar 4)) aNil))))))))) sNext)
def s_law_7 : Sl → Ot := (sIf (gTest (gBin pNe (gCall m__law_step_told (aCons (gC (.int 0)) (aCons (gVar 2) (aCons (gVar 3) (aCons (gVar 4) aNil))))) (gVar 5))) (sRet (gC (.bool false))) sNext)
def s_law_8 : Sl → Ot := (sIf (gAnd (gTest (gBin pNe (gVar 5) (gC (.str "step")))) (gTest (gBin pNe (gCall m_join (aCons (gVar 5) (aCons (gVar 4) (aCons (gBin pSub (gVar 3) (gVar 4)) aNil)))) (gVar 2)))) (sRet (gC (.bool false))) sNext)
def s_law_9 : Sl → Ot := (sSet 7 (gIf (gTest (gBin pGt (gBin pMod (gBin pIx (gVar 1) (gC (.int 8))) (gC (.int 4))) (gC (.int 0)))) (gBin pIx (gVar 2) (gBin pMod (gBin pIx (gVar 1) (gC (.int 7))) (gUn pLen (gVar 2)))) (gBin pIx (gLst (aCons (gBin pMod (gBin pIx (gVar 1) (gC (.int 9))) (gC (.int 110))) (aCons (gC .none) (aCons (gC (.int 0)) aNil)))) (gBin pMod (gBin pIx (gVar 1) (gC (.int 4))) (gC (.int 3))))))
def s_law_10 : Sl → Ot := (sSet 5 (gC (.str "step")))
def s_law_11 : Sl → Ot := (sIf (gAnd (gTru (gCall m__law_in (aCons (gVar 3) (aCons (gC (.int 1)) (aCons (gC (.int 99)) aNil))))) (gAnd (gTru (gCall m__law_in (aCons (gVar 7) (aCons (gC (.int 1)) (aCons (gC (.int 99)) aNil))))) (gTest (gBin pLe (gBin pAdd (gVar 3) (gVar 7)) (gC (.int 99)))))) (sSeq (sSetO 6 (gUn pList (gVar 2)))
 (sIf (gTest (gBin (pIn false) (gVar 3) (gVarR 6))) (sSeq (sRem 6 (gVar 3))
 (sIf (gTest (gBin (pIn false) (gVar 7) (gVarR 6))) (sSeq (sRem 6 (gVar 7))
 (sSet 5 (gUn pTuple (gUn pSorted (gBin pAdd (gVarR 6) (gLst (aCons (gBin pAdd (gVar 3) (gVar 7)) aNil))))))) sNext)) sNext)) sNext)
def s_law_12 : Sl → Ot := (sIf (gTest (gBin pNe (gCall m__law_step_told (aCons (gC (.int 1)) (aCons (gVar 2) (aCons (gVar 3) (aCons (gVar 7) aNil))))) (gVar 5))) (sRet (gC (.bool false))) sNext)
def s_law_13 : Sl → Ot := (sIf (gAnd (gTest (gBin pNe (gVar 5) (gC (.str "step")))) (gTest (gBin pNe (gCall m_split (aCons (gVar 5) (aCons (gBin pAdd (gVar 3) (gVar 7)) (aCons (gVar 3) aNil)))) (gVar 2)))) (sRet (gC (.bool false))) sNext)
def s_law_14 : Sl → Ot := (sSet 8 (gBin pIx (gLst (aCons (gC .none) (aCons (gTup aNil) (aCons (gUn pList (gVar 2)) (aCons (gBin pAdd (gTup (aCons (gC (.int 0)) aNil)) (gVar 2)) (aCons (gBin pMul (gTup (aCons (gC (.int 1)) aNil)) (gC (.int 14))) (aCons (gTup (aCons (gC (.int 3)) (aCons (gC (.int 2)) aNil))) aNil))))))) (gBin pMod (gBin pIx (gVar 1) (gC (.int 50))) (gC (.int 6)))))
def s_law_15 : Sl → Ot := (sRet (gBin pEq (gCall m__law_step_told (aCons (gBin pMod (gBin pIx (gVar 1) (gC (.int 51))) (gC (.int 2))) (aCons (gVar 8) (aCons (gC .none) (aCons (gC .none) aNil))))) (gC (.str "pieces"))))
def h_law : Sl → Ot := (sSeq s_law_0
 (sSeq s_law_1
 (sSeq s_law_2
 (sSeq s_law_3
 (sSeq s_law_4
 (sSeq s_law_5
 (sSeq s_law_6
 (sSeq s_law_7
 (sSeq s_law_8
 (sSeq s_law_9
 (sSeq s_law_10
 (sSeq s_law_11
 (sSeq s_law_12
 (sSeq s_law_13
 (sSeq s_law_14
 s_law_15)))))))))))))))
def m_law : List PyData → Rs PyData := fnM 1 10 h_law
end SBL

namespace SBL
open PySem PySem.Spec PyProof.Rows L2 RZ SB
def top (i : Nat) : Stmt := PySem.Challenge.pw_servesboth_k09_splits_and_joins.main.body.getD i (.Pass ⟨0, 0, 0, 0⟩)
structure Tx (K : Frg) (mg : Str → Option Value) : Prop where
  xf : XF K (clOf K) kn
  b_bool : mg "bool" = none
  b_int : mg "int" = none
  b_isinstance : mg "isinstance" = none
  b_len : mg "len" = none
  b_list : mg "list" = none
  b_min : mg "min" = none
  b_range : mg "range" = none
  b_sorted : mg "sorted" = none
  b_tuple : mg "tuple" = none
  b_zip : mg "zip" = none
  c_MOST_SHARE : ∃ t, mg "MOST_SHARE" = some (.int 99 t)
  c_MOST_PIECES : ∃ t, mg "MOST_PIECES" = some (.int 13 t)
  g_ShareError : mg "ShareError" = some (.ref (clOf K 0))
  x_BadPieces : EF K mg (clOf K) 2 "BadPieces"
  g_BadPieces : mg "BadPieces" = some (.ref (clOf K 2))
  x_BadStep : EF K mg (clOf K) 8 "BadStep"
  g_BadStep : mg "BadStep" = some (.ref (clOf K 8))
  d__law_cell : FA K mg "_law_cell" (top 17)
  d__law_row : FA K mg "_law_row" (top 19)
  d__law_list : FA K mg "_law_list" (top 21)
  d__law_whole : FA K mg "_law_whole" (top 18)
  d__law_in : FA K mg "_law_in" (top 20)
  d_is_within : FA K mg "is_within" (top 6)
  d_is_rising : FA K mg "is_rising" (top 7)
  d_are_pieces : FA K mg "are_pieces" (top 10)
  d_look_pieces : FA K mg "look_pieces" (top 11)
  d_with_out : FA K mg "with_out" (top 15)
  d_split : FA K mg "split" (top 13)
  d_join : FA K mg "join" (top 14)
  d__law_step_told : FA K mg "_law_step_told" (top 22)
  d_law : FA K mg "law" (top 23)
section
variable {P : Program} {w : World} {K : Frg} {mg : Str → Option Value} {base : Heap}
theorem sc__law_cell : FnScope ["script", "k"] ["script", "k"] (defScope (top 17)) := ⟨rfl, rfl, rfl, by decide +kernel, rfl, by decide +kernel, by decide +kernel⟩
theorem ok__law_cell (T : Tx K mg) : FB P w K mg base (clOf K) 1 "_law_cell" ["script", "k"] m__law_cell :=
 fb_of T.d__law_cell sc__law_cell (fun _ _ _ _ _ _ us hl => match us, hl with | [_, _], _ => rfl) fun f cdv A outer s H E hr => ⟨_, dss_cons (ds_if (dt_cmp op_lt od_lt (DX.dr (dv 1)) (DX.fr (d_b1 mF cr_len c1_len (by exact rfl) T.b_len (by decide +kernel) (DX.dr (dv 0)))) (nomark _)) (dss_one (ds_ret (DX.nl (d_ix (DX.dr (dv 0)) (DX.dr (dv 1)))))) (dss_nil))
 (dss_one (ds_ret (d_int)))⟩
theorem sc__law_row : FnScope ["script", "at", "cell", "found", "time"] ["script", "at"] (defScope (top 19)) := ⟨rfl, rfl, rfl, by decide +kernel, rfl, by decide +kernel, by decide +kernel⟩
theorem ok__law_row (T : Tx K mg) : FB P w K mg base (clOf K) 2 "_law_row" ["script", "at"] m__law_row :=
 fb_of T.d__law_row sc__law_row (fun _ _ _ _ _ _ us hl => match us, hl with | [_, _], _ => rfl) fun f cdv A outer s H E hr => ⟨_, dss_cons (ds_set (i := 2) sc__law_row.nd rfl (Or.inl rfl) (DX.fd (d_callF (ok__law_cell T) (hr.mono (by decide)) (by exact rfl) (takes_of rfl rfl rfl rfl) (da_cons (dv 0) (da_cons (dv 1) (da_nil))))))
 (dss_cons (ds_setO (i := 3) sc__law_row.nd rfl (Or.inl rfl) (d_lst (da_nil)))
 (dss_cons (ds_for (passes_of rfl) rfl (di_rg1 (by exact rfl) T.b_range (DX.fr (d_int))) (pg_name (i := 4) sc__law_row.nd rfl (Or.inl rfl)) (et_name 4) (dss_one (ds_if (dt_cmp op_lt od_lt (DX.fr (d_callF (ok__law_cell T) (hr.mono (by decide)) (by exact rfl) (takes_of rfl rfl rfl rfl) (da_cons (dv 0) (da_cons (dv 1) (da_nil))))) (DX.fr (d_op mF op_pow od_pow (DX.fr (d_int)) (DX.fr (d_int)))) (nomark _)) (dss_cons (ds_set (i := 2) sc__law_row.nd rfl (Or.inl rfl) (DX.fd (d_op mF op_mod od_mod (DX.fr (d_op mF op_addA od_add (DX.fr (d_op mF op_addA od_add (DX.fr (d_op mF op_addA od_add (DX.fr (d_op mF op_mulA od_mul (DX.dr (dv 2)) (DX.fr (d_int)))) (DX.fr (d_op mF op_mulA od_mul (DX.fr (d_int)) (DX.dr (dv 4)))))) (DX.fr (d_int)))) (DX.fr (d_callF (ok__law_cell T) (hr.mono (by decide)) (by exact rfl) (takes_of rfl rfl rfl rfl) (da_cons (dv 0) (da_cons (DX.fd (d_op mF op_mod od_mod (DX.fr (d_op mF op_addA od_add (DX.fr (d_op mF op_addA od_add (DX.dr (dv 1)) (DX.fr (d_int)))) (DX.dr (dv 4)))) (DX.fr (d_int)))) (da_nil))))))) (DX.fr (d_int)))))
 (dss_one (ds_app (i := 3) (DX.fd (d_op mF op_mod od_mod (DX.fr (d_op mF op_fdiv od_div (DX.dr (dv 2)) (DX.fr (d_int)))) (DX.fr (d_int))))))) (dss_cons (ds_app (i := 3) (DX.fd (d_op mF op_mod od_mod (DX.dr (dv 2)) (DX.fr (d_int)))))
 (dss_one (ds_set (i := 2) sc__law_row.nd rfl (Or.inl rfl) (DX.fd (d_op mF op_fdiv od_div (DX.dr (dv 2)) (DX.fr (d_int))))))))))
 (dss_one (ds_retV 3))))⟩
theorem sc__law_list : FnScope ["row", "at", "total", "most_shares", "found", "time", "spot", "part"] ["row", "at", "total", "most_shares"] (defScope (top 21)) := ⟨rfl, rfl, rfl, by decide +kernel, rfl, by decide +kernel, by decide +kernel⟩
theorem ok__law_list (T : Tx K mg) : FB P w K mg base (clOf K) 1 "_law_list" ["row", "at", "total", "most_shares"] m__law_list :=
 fb_of T.d__law_list sc__law_list (fun _ _ _ _ _ _ us hl => match us, hl with | [_, _, _, _], _ => rfl) fun f cdv A outer s H E hr => ⟨_, dss_cons (ds_setO (i := 4) sc__law_list.nd rfl (Or.inl rfl) (d_lst (da_cons (dv 2) (da_nil))))
 (dss_cons (ds_for (passes_of rfl) rfl (di_rg1 (by exact rfl) T.b_range (DX.fr (d_op mF op_mod od_mod (DX.dr (d_ix (DX.dr (dv 0)) (DX.fr (d_op mF op_mod od_mod (DX.dr (dv 1)) (DX.fr (d_int)))))) (DX.dr (dv 3))))) (pg_name (i := 5) sc__law_list.nd rfl (Or.inl rfl)) (et_name 5) (dss_cons (ds_set (i := 6) sc__law_list.nd rfl (Or.inl rfl) (DX.fd (d_op mF op_mod od_mod (DX.dr (d_ix (DX.dr (dv 0)) (DX.fr (d_op mF op_mod od_mod (DX.fr (d_op mF op_addA od_add (DX.fr (d_op mF op_addA od_add (DX.dr (dv 1)) (DX.fr (d_int)))) (DX.fr (d_op mF op_mulA od_mul (DX.fr (d_int)) (DX.dr (dv 5)))))) (DX.fr (d_int)))))) (DX.fr (d_b1 mF cr_len c1_len (by exact rfl) T.b_len (by decide +kernel) (dvR 4))))))
 (dss_one (ds_if (dt_cmp op_gt od_gt (DX.dr (d_ix (dvR 4) (DX.dr (dv 6)))) (DX.fr (d_int)) (nomark _)) (dss_cons (ds_set (i := 7) sc__law_list.nd rfl (Or.inl rfl) (DX.fd (d_op mF op_addA od_add (DX.fr (d_int)) (DX.fr (d_op mF op_mod od_mod (DX.dr (d_ix (DX.dr (dv 0)) (DX.fr (d_op mF op_mod od_mod (DX.fr (d_op mF op_addA od_add (DX.fr (d_op mF op_addA od_add (DX.dr (dv 1)) (DX.fr (d_int)))) (DX.fr (d_op mF op_mulA od_mul (DX.fr (d_int)) (DX.dr (dv 5)))))) (DX.fr (d_int)))))) (DX.fr (d_op mF op_sub od_sub (DX.dr (d_ix (dvR 4) (DX.dr (dv 6)))) (DX.fr (d_int)))))))))
 (dss_cons (ds_setO (i := 4) sc__law_list.nd rfl (Or.inl rfl) (d_op mF op_addA od_add (dvR 4) (DX.fr (d_lst (da_cons (dv 7) (da_nil))))))
 (dss_one (ds_itemN (i := 4) (DX.fd (d_op mF op_sub od_sub (DX.dr (d_ix (dvR 4) (DX.dr (dv 6)))) (DX.dr (dv 7)))) (DX.dr (dv 6)))))) (dss_nil)))))
 (dss_one (ds_ret (d_t1 mF cr_tuple c1_tuple (by exact rfl) T.b_tuple (by decide +kernel) (DX.fr (d_b1 mF cr_sortA c1_sorted (by exact rfl) T.b_sorted (by decide +kernel) (dvR 4)))))))⟩
theorem sc__law_whole : FnScope ["found"] ["found"] (defScope (top 18)) := ⟨rfl, rfl, rfl, by decide +kernel, rfl, by decide +kernel, by decide +kernel⟩
theorem ok__law_whole (T : Tx K mg) : FB P w K mg base (clOf K) 1 "_law_whole" ["found"] m__law_whole :=
 fb_of T.d__law_whole sc__law_whole (fun _ _ _ _ _ _ us hl => match us, hl with | [_], _ => rfl) fun f cdv A outer s H E hr => ⟨_, dss_one (ds_ret (d_and (P := pF) (d_isi (T := "int") (by decide) (by exact rfl) T.b_isinstance (by exact rfl) T.b_int rfl (DX.dr (dv 0))) (d_one (d_notV (d_isi (T := "bool") (by decide) (by exact rfl) T.b_isinstance (by exact rfl) T.b_bool rfl (DX.dr (dv 0)))))))⟩
theorem sc__law_in : FnScope ["thing", "low", "high"] ["thing", "low", "high"] (defScope (top 20)) := ⟨rfl, rfl, rfl, by decide +kernel, rfl, by decide +kernel, by decide +kernel⟩
theorem ok__law_in (T : Tx K mg) : FB P w K mg base (clOf K) 2 "_law_in" ["thing", "low", "high"] m__law_in :=
 fb_of T.d__law_in sc__law_in (fun _ _ _ _ _ _ us hl => match us, hl with | [_, _, _], _ => rfl) fun f cdv A outer s H E hr => ⟨_, dss_one (ds_ret (d_and (P := pF) (d_asB (d_callF (ok__law_whole T) (hr.mono (by decide)) (by exact rfl) (takes_of rfl rfl rfl rfl) (da_cons (dv 0) (da_nil)))) (d_one (d_asB (d_chain (p := (fun i j => decide (i ≤ j))) (q := (fun i j => decide (i ≤ j))) op_le op_le (DX.dr (dv 1)) (DX.dr (dv 0)) (DX.dr (dv 2)))))))⟩
theorem sc_is_within : FnScope ["thing", "low", "high"] ["thing", "low", "high"] (defScope (top 6)) := ⟨rfl, rfl, rfl, by decide +kernel, rfl, by decide +kernel, by decide +kernel⟩
theorem ok_is_within (T : Tx K mg) : FB P w K mg base (clOf K) 1 "is_within" ["thing", "low", "high"] m_is_within :=
 fb_of T.d_is_within sc_is_within (fun _ _ _ _ _ _ us hl => match us, hl with | [_, _, _], _ => rfl) fun f cdv A outer s H E hr => ⟨_, dss_one (ds_ret (d_and (P := pF) (d_isi (T := "int") (by decide) (by exact rfl) T.b_isinstance (by exact rfl) T.b_int rfl (DX.dr (dv 0))) (d_and (P := pF) (d_notV (d_isi (T := "bool") (by decide) (by exact rfl) T.b_isinstance (by exact rfl) T.b_bool rfl (DX.dr (dv 0)))) (d_one (d_asB (d_chain (p := (fun i j => decide (i ≤ j))) (q := (fun i j => decide (i ≤ j))) op_le op_le (DX.dr (dv 1)) (DX.dr (dv 0)) (DX.dr (dv 2))))))))⟩
theorem sc_is_rising : FnScope ["thing", "many", "most", "one", "other"] ["thing", "many", "most"] (defScope (top 7)) := ⟨rfl, rfl, rfl, by decide +kernel, rfl, by decide +kernel, by decide +kernel⟩
theorem ok_is_rising (T : Tx K mg) : FB P w K mg base (clOf K) 2 "is_rising" ["thing", "many", "most"] m_is_rising :=
 fb_of T.d_is_rising sc_is_rising (fun _ _ _ _ _ _ us hl => match us, hl with | [_, _, _], _ => rfl) fun f cdv A outer s H E hr => ⟨_, dss_cons (ds_if (DW.t (dw_or (dt_not (dt_truK (K := K) rfl (DX.fr (d_isi (T := "tuple") (by decide) (by exact rfl) T.b_isinstance (by exact rfl) T.b_tuple rfl (DX.dr (dv 0)))))) (dw_or1 (dt_not (dt_chain (p := (fun i j => decide (i ≤ j))) (q := (fun i j => decide (i ≤ j))) op_le op_le (DX.fr (d_int)) (DX.fr (d_b1 mF cr_len c1_len (by exact rfl) T.b_len (by decide +kernel) (DX.dr (dv 0)))) (DX.dr (dv 1))))))) (dss_one (ds_ret (d_bl))) (dss_nil))
 (dss_cons (ds_if (dt_truK (K := K) rfl (DX.fr (d_lcIf (own := [("one", 3)]) rfl sc_is_rising.nd (di_seqC (DX.dr (dv 0))) (blkOk_by (by show blkC ["thing", "many", "most", "one", "other"] (defScope (top 7)) _ _ = true; decide +kernel)) (fun _ _ _ _ _ => pg_name (i := 3) sc_is_rising.nd rfl (Or.inl rfl)) (et_name 3) (by decide) (fun _ _ _ _ _ => dt_not (dt_truK (K := K) rfl (DX.fr (d_callF (ok_is_within T) (hr.mono (by decide)) (by exact rfl) takes0 (da_cons (dv 3) (da_cons (DX.fd (d_int)) (da_cons (dv 2) (da_nil)))))))) (fun _ _ _ _ _ => dv 3)))) (dss_one (ds_ret (d_bl))) (dss_nil))
 (dss_one (ds_ret (d_notTK (K := K) rfl (DX.fr (d_lcIf (own := [("one", 3), ("other", 4)]) rfl sc_is_rising.nd (DI.c (di_zip (by exact rfl) T.b_zip (dv 0) (DX.fd (d_sl (DX.dr (dv 0)) (do_so (DX.fr (d_int))) (do_no))))) (blkOk_by (by show blkC ["thing", "many", "most", "one", "other"] (defScope (top 7)) _ _ = true; decide +kernel)) (fun _ _ _ _ _ => pg_tup (n := 2) rfl (pgs_cons (pg_name (i := 3) sc_is_rising.nd rfl (Or.inl rfl)) (pgs_cons (pg_name (i := 4) sc_is_rising.nd rfl (Or.inl rfl)) (pgs_nil)))) (et_2 3 4) (by decide) (fun _ _ _ _ _ => dt_cmp op_gt od_gt (DX.dr (dv 3)) (DX.dr (dv 4)) (nomark _)) (fun _ _ _ _ _ => DX.fd (d_int))))))))⟩
theorem sc_are_pieces : FnScope ["thing"] ["thing"] (defScope (top 10)) := ⟨rfl, rfl, rfl, by decide +kernel, rfl, by decide +kernel, by decide +kernel⟩
theorem ok_are_pieces (T : Tx K mg) : FB P w K mg base (clOf K) 3 "are_pieces" ["thing"] m_are_pieces :=
 fb_of T.d_are_pieces sc_are_pieces (fun _ _ _ _ _ _ us hl => match us, hl with | [_], _ => rfl) fun f cdv A outer s H E hr => ⟨_, dss_one (ds_ret (d_callF (ok_is_rising T) (hr.mono (by decide)) (by exact rfl) (takes_of rfl rfl rfl rfl) (da_cons (dv 0) (da_cons (DX.fd ((let ⟨_, h⟩ := T.c_MOST_PIECES; d_globI (by exact rfl) h))) (da_cons (DX.fd ((let ⟨_, h⟩ := T.c_MOST_SHARE; d_globI (by exact rfl) h))) (da_nil))))))⟩
theorem sc_look_pieces : FnScope ["pieces"] ["pieces"] (defScope (top 11)) := ⟨rfl, rfl, rfl, by decide +kernel, rfl, by decide +kernel, by decide +kernel⟩
theorem ok_look_pieces (T : Tx K mg) : FB P w K mg base (clOf K) 4 "look_pieces" ["pieces"] m_look_pieces :=
 fb_of T.d_look_pieces sc_look_pieces (fun _ _ _ _ _ _ us hl => match us, hl with | [_], _ => rfl) fun f cdv A outer s H E hr => ⟨_, dss_one (ds_if (dt_not (dt_truK (K := K) rfl (DX.fr (d_callF (ok_are_pieces T) (hr.mono (by decide)) (by exact rfl) (takes_of rfl rfl rfl rfl) (da_cons (dv 0) (da_nil)))))) (dss_one (ds_raiseN T.x_BadPieces rfl (takes_of rfl rfl rfl rfl) (by exact rfl))) (dss_nil))⟩
theorem sc_with_out : FnScope ["pieces", "gone", "new", "found", "piece"] ["pieces", "gone", "new"] (defScope (top 15)) := ⟨rfl, rfl, rfl, by decide +kernel, rfl, by decide +kernel, by decide +kernel⟩
theorem ok_with_out (T : Tx K mg) : FB P w K mg base (clOf K) 1 "with_out" ["pieces", "gone", "new"] m_with_out :=
 fb_of T.d_with_out sc_with_out (fun _ _ _ _ _ _ us hl => match us, hl with | [_, _, _], _ => rfl) fun f cdv A outer s H E hr => ⟨_, dss_cons (ds_setO (i := 3) sc_with_out.nd rfl (Or.inl rfl) (d_t1 mF cr_list c1_list (by exact rfl) T.b_list (by decide +kernel) (DX.dr (dv 0))))
 (dss_cons (ds_for (passes_of rfl) rfl (di_seq (dv 1)) (pg_name (i := 4) sc_with_out.nd rfl (Or.inl rfl)) (et_name 4) (dss_one (ds_rem (i := 3) (DX.dr (dv 4)))))
 (dss_one (ds_ret (d_t1 mF cr_tuple c1_tuple (by exact rfl) T.b_tuple (by decide +kernel) (DX.fr (d_b1 mF cr_sortA c1_sorted (by exact rfl) T.b_sorted (by decide +kernel) (DX.fr (d_op mF op_addA od_add (dvR 3) (DX.dr (dv 2))))))))))⟩
theorem sc_split : FnScope ["pieces", "share", "part"] ["pieces", "share", "part"] (defScope (top 13)) := ⟨rfl, rfl, rfl, by decide +kernel, rfl, by decide +kernel, by decide +kernel⟩
theorem ok_split (T : Tx K mg) : FB P w K mg base (clOf K) 5 "split" ["pieces", "share", "part"] m_split :=
 fb_of T.d_split sc_split (fun _ _ _ _ _ _ us hl => match us, hl with | [_, _, _], _ => rfl) fun f cdv A outer s H E hr => ⟨_, dss_cons (ds_expr (d_callF (ok_look_pieces T) (hr.mono (by decide)) (by exact rfl) (takes_of rfl rfl rfl rfl) (da_cons (dv 0) (da_nil))))
 (dss_cons (ds_if (DW.t (dw_or (dt_not (dt_truK (K := K) rfl (DX.fr (d_callF (ok_is_within T) (hr.mono (by decide)) (by exact rfl) (takes_of rfl rfl rfl rfl) (da_cons (dv 1) (da_cons (DX.fd (d_int)) (da_cons (DX.fd ((let ⟨_, h⟩ := T.c_MOST_SHARE; d_globI (by exact rfl) h))) (da_nil)))))))) (dw_or (dt_cmp (op_notInA (hu65 hr)) (od_in true) (DX.dr (dv 1)) (DX.dr (dv 0)) (by with_unfolding_all rfl)) (dw_or1 (dt_not (dt_truK (K := K) rfl (DX.fr (d_callF (ok_is_within T) (hr.mono (by decide)) (by exact rfl) (takes_of rfl rfl rfl rfl) (da_cons (dv 2) (da_cons (DX.fd (d_int)) (da_cons (DX.fd (d_op mF op_sub od_sub (DX.dr (dv 1)) (DX.fr (d_int)))) (da_nil)))))))))))) (dss_one (ds_raiseN T.x_BadStep rfl (takes_of rfl rfl rfl rfl) (by exact rfl))) (dss_nil))
 (dss_cons (ds_if (dt_cmp (op_eqD (hu64 hr)) od_eq (DX.fr (d_b1 mF cr_len c1_len (by exact rfl) T.b_len (by decide +kernel) (DX.dr (dv 0)))) (DX.fr ((let ⟨_, h⟩ := T.c_MOST_PIECES; d_globI (by exact rfl) h))) (nomark _)) (dss_one (ds_raiseN T.x_BadStep rfl (takes_of rfl rfl rfl rfl) (by exact rfl))) (dss_nil))
 (dss_one (ds_ret (d_callF (ok_with_out T) (hr.mono (by decide)) (by exact rfl) (takes_of rfl rfl rfl rfl) (da_cons (dv 0) (da_cons (DX.fd (d_lst (da_cons (dv 1) (da_nil)))) (da_cons (DX.fd (d_lst (da_cons (dv 2) (da_cons (DX.fd (d_op mF op_sub od_sub (DX.dr (dv 1)) (DX.dr (dv 2)))) (da_nil))))) (da_nil)))))))))⟩
theorem sc_join : FnScope ["pieces", "one", "other"] ["pieces", "one", "other"] (defScope (top 14)) := ⟨rfl, rfl, rfl, by decide +kernel, rfl, by decide +kernel, by decide +kernel⟩
theorem ok_join (T : Tx K mg) : FB P w K mg base (clOf K) 5 "join" ["pieces", "one", "other"] m_join :=
 fb_of T.d_join sc_join (fun _ _ _ _ _ _ us hl => match us, hl with | [_, _, _], _ => rfl) fun f cdv A outer s H E hr => ⟨_, dss_cons (ds_expr (d_callF (ok_look_pieces T) (hr.mono (by decide)) (by exact rfl) (takes_of rfl rfl rfl rfl) (da_cons (dv 0) (da_nil))))
 (dss_cons (ds_if (DW.t (dw_or (dt_not (dt_truK (K := K) rfl (DX.fr (d_callF (ok_is_within T) (hr.mono (by decide)) (by exact rfl) (takes_of rfl rfl rfl rfl) (da_cons (dv 1) (da_cons (DX.fd (d_int)) (da_cons (DX.fd ((let ⟨_, h⟩ := T.c_MOST_SHARE; d_globI (by exact rfl) h))) (da_nil)))))))) (dw_or (dt_not (dt_truK (K := K) rfl (DX.fr (d_callF (ok_is_within T) (hr.mono (by decide)) (by exact rfl) (takes_of rfl rfl rfl rfl) (da_cons (dv 2) (da_cons (DX.fd (d_int)) (da_cons (DX.fd ((let ⟨_, h⟩ := T.c_MOST_SHARE; d_globI (by exact rfl) h))) (da_nil)))))))) (dw_or1 (dt_cmp op_gt od_gt (DX.fr (d_op mF op_addA od_add (DX.dr (dv 1)) (DX.dr (dv 2)))) (DX.fr ((let ⟨_, h⟩ := T.c_MOST_SHARE; d_globI (by exact rfl) h))) (nomark _)))))) (dss_one (ds_raiseN T.x_BadStep rfl (takes_of rfl rfl rfl rfl) (by exact rfl))) (dss_nil))
 (dss_cons (ds_if (DW.t (dw_or (dt_cmp (op_notInA (hu65 hr)) (od_in true) (DX.dr (dv 1)) (DX.dr (dv 0)) (by with_unfolding_all rfl)) (dw_or (dt_cmp (op_notInA (hu65 hr)) (od_in true) (DX.dr (dv 2)) (DX.dr (dv 0)) (by with_unfolding_all rfl)) (dw_or1 (DW.t (dw_and (dt_cmp (op_eqD (hu64 hr)) od_eq (DX.dr (dv 1)) (DX.dr (dv 2)) (nomark _)) (dw_and1 (dt_cmp op_lt od_lt (DX.fr (d_tcount (dv 0) (DX.dr (dv 1)))) (DX.fr (d_int)) (nomark _))))))))) (dss_one (ds_raiseN T.x_BadStep rfl (takes_of rfl rfl rfl rfl) (by exact rfl))) (dss_nil))
 (dss_one (ds_ret (d_callF (ok_with_out T) (hr.mono (by decide)) (by exact rfl) (takes_of rfl rfl rfl rfl) (da_cons (dv 0) (da_cons (DX.fd (d_lst (da_cons (dv 1) (da_cons (dv 2) (da_nil))))) (da_cons (DX.fd (d_lst (da_cons (DX.fd (d_op mF op_addA od_add (DX.dr (dv 1)) (DX.dr (dv 2)))) (da_nil)))) (da_nil)))))))))⟩
theorem sc__law_step_told : FnScope ["mode", "some", "one", "other", "e"] ["mode", "some", "one", "other"] (defScope (top 22)) := ⟨rfl, rfl, rfl, by decide +kernel, rfl, by decide +kernel, by decide +kernel⟩
theorem ok__law_step_told (T : Tx K mg) : FB P w K mg base (clOf K) 6 "_law_step_told" ["mode", "some", "one", "other"] m__law_step_told :=
 fb_of T.d__law_step_told sc__law_step_told (fun _ _ _ _ _ _ us hl => match us, hl with | [_, _, _, _], _ => rfl) fun f cdv A outer s H E hr => ⟨_, dss_one (ds_try T.xf rfl rfl (takes_of rfl rfl rfl rfl) (fun W' pn xe tk hp => dss_one (ds_ret (d_if mF (dt_cmp (op_eqD (hu64 hr)) od_eq (DX.dr (dv 0)) (DX.fr (d_int)) (nomark _)) (d_callF (ok_split T) (hr.mono (by decide)) (by exact rfl) tk (da_cons (dv 1) (da_cons (dv 2) (da_cons (dv 3) (da_nil))))) (d_callF (ok_join T) (hr.mono (by decide)) (by exact rfl) tk (da_cons (dv 1) (da_cons (dv 2) (da_cons (dv 3) (da_nil)))))))) (.as (names_of T.x_BadStep (by exact rfl)) sc__law_step_told.nd rfl rfl (fun _ _ _ _ _ hz hf => ps_suite2 hz hf (by exact rfl) T.b_isinstance (by exact rfl) T.g_ShareError (by exact rfl) T.g_BadPieces) (.as (names_of T.x_BadPieces (by exact rfl)) sc__law_step_told.nd rfl rfl (fun _ _ _ _ _ hz hf => ps_suite2 hz hf (by exact rfl) T.b_isinstance (by exact rfl) T.g_ShareError (by exact rfl) T.g_BadStep) (.nil))) (.cons (hev_2 T.xf rfl rfl rfl (fun _ => .str "step") (fun _ => .str "other") (fun _ z => nomatch z) (fun _ z => nomatch z)) (fun _ z => by cases z; exact (by decide : 4 < 5)) (.cons (hev_2 T.xf rfl rfl rfl (fun _ => .str "pieces") (fun _ => .str "other") (fun _ z => nomatch z) (fun _ z => nomatch z)) (fun _ z => by cases z; exact (by decide : 4 < 5)) (.nil))))⟩
theorem sc_law : FnScope ["script", "row", "some", "share", "part", "due", "rest", "other", "odd", "one"] ["script"] (defScope (top 23)) := ⟨rfl, rfl, rfl, by decide +kernel, rfl, by decide +kernel, by decide +kernel⟩
theorem ok_law (T : Tx K mg) : FB P w K mg base (clOf K) 7 "law" ["script"] m_law :=
 fb_of T.d_law sc_law (fun _ _ _ _ _ _ us hl => match us, hl with | [_], _ => rfl) fun f cdv A outer s H E hr => ⟨_, dss_cons (ds_set (i := 1) sc_law.nd rfl (Or.inl rfl) (DX.fd (d_callF (ok__law_row T) (hr.mono (by decide)) (by exact rfl) (takes_of rfl rfl rfl rfl) (da_cons (dv 0) (da_cons (DX.fd (d_int)) (da_nil))))))
 (dss_cons (ds_set (i := 2) sc_law.nd rfl (Or.inl rfl) (DX.fd (d_callF (ok__law_list T) (hr.mono (by decide)) (by exact rfl) (takes_of rfl rfl rfl rfl) (da_cons (dv 1) (da_cons (DX.fd (d_int)) (da_cons (DX.fd (d_op mF op_addA od_add (DX.fr (d_int)) (DX.fr (d_op mF op_mod od_mod (DX.dr (d_ix (DX.dr (dv 1)) (DX.fr (d_int)))) (DX.fr (d_int)))))) (da_cons (DX.fd (d_int)) (da_nil))))))))
 (dss_cons (ds_set (i := 2) sc_law.nd rfl (Or.inl rfl) (DX.fd (d_t1 mF cr_tuple c1_tuple (by exact rfl) T.b_tuple (by decide +kernel) (DX.fr (d_lcAll (own := [("one", 9)]) rfl sc_law.nd (di_seqC (DX.dr (dv 2))) (blkOk_by (by show blkC ["script", "row", "some", "share", "part", "due", "rest", "other", "odd", "one"] (defScope (top 23)) _ _ = true; decide +kernel)) (fun _ _ _ _ _ => pg_name (i := 9) sc_law.nd rfl (Or.inl rfl)) (et_name 9) (by decide) (fun _ _ _ _ _ => DX.fd (d_b2 mF (cr_min2 rfl) c2_min (by exact rfl) T.b_min (by decide +kernel) (DX.dr (dv 9)) (DX.fr (d_int)))))))))
 (dss_cons (ds_set (i := 3) sc_law.nd rfl (Or.inl rfl) (d_if mD (dt_cmp op_gt od_gt (DX.fr (d_op mF op_mod od_mod (DX.dr (d_ix (DX.dr (dv 1)) (DX.fr (d_int)))) (DX.fr (d_int)))) (DX.fr (d_int)) (nomark _)) (d_ix (DX.dr (dv 2)) (DX.fr (d_op mF op_mod od_mod (DX.dr (d_ix (DX.dr (dv 1)) (DX.fr (d_int)))) (DX.fr (d_b1 mF cr_len c1_len (by exact rfl) T.b_len (by decide +kernel) (DX.dr (dv 2))))))) (d_ix (DX.fr (d_lst (da_cons (DX.fd (d_op mF op_mod od_mod (DX.dr (d_ix (DX.dr (dv 1)) (DX.fr (d_int)))) (DX.fr (d_int)))) (da_cons (DX.fd (d_non)) (da_cons (DX.fd (d_int)) (da_cons (DX.fd (d_bl)) (da_nil))))))) (DX.fr (d_op mF op_mod od_mod (DX.dr (d_ix (DX.dr (dv 1)) (DX.fr (d_int)))) (DX.fr (d_int)))))))
 (dss_cons (ds_set (i := 4) sc_law.nd rfl (Or.inl rfl) (d_if mD (dt_cmp op_gt od_gt (DX.fr (d_op mF op_mod od_mod (DX.dr (d_ix (DX.dr (dv 1)) (DX.fr (d_int)))) (DX.fr (d_int)))) (DX.fr (d_int)) (nomark _)) (DX.fd (d_op mF op_mod od_mod (DX.dr (d_ix (DX.dr (dv 1)) (DX.fr (d_int)))) (DX.fr (d_int)))) (DX.fd (d_int))))
 (dss_cons (ds_set (i := 5) sc_law.nd rfl (Or.inl rfl) (DX.fd (d_str)))
 (dss_cons (ds_if (DW.t (dw_and (dt_truK (K := K) rfl (DX.fr (d_callF (ok__law_in T) (hr.mono (by decide)) (by exact rfl) (takes_of rfl rfl rfl rfl) (da_cons (dv 3) (da_cons (DX.fd (d_int)) (da_cons (DX.fd (d_int)) (da_nil))))))) (dw_and (dt_cmp (op_inA (hu65 hr)) (od_in false) (DX.dr (dv 3)) (DX.dr (dv 2)) (by with_unfolding_all rfl)) (dw_and (dt_chain (p := (fun i j => decide (i ≤ j))) (q := (fun i j => decide (i < j))) op_le op_lt (DX.fr (d_int)) (DX.dr (dv 4)) (DX.dr (dv 3))) (dw_and1 (dt_cmp op_lt od_lt (DX.fr (d_b1 mF cr_len c1_len (by exact rfl) T.b_len (by decide +kernel) (DX.dr (dv 2)))) (DX.fr (d_int)) (nomark _))))))) (dss_cons (ds_setO (i := 6) sc_law.nd rfl (Or.inl rfl) (d_t1 mF cr_list c1_list (by exact rfl) T.b_list (by decide +kernel) (DX.dr (dv 2))))
 (dss_cons (ds_rem (i := 6) (DX.dr (dv 3)))
 (dss_one (ds_set (i := 5) sc_law.nd rfl (Or.inl rfl) (DX.fd (d_t1 mF cr_tuple c1_tuple (by exact rfl) T.b_tuple (by decide +kernel) (DX.fr (d_b1 mF cr_sortA c1_sorted (by exact rfl) T.b_sorted (by decide +kernel) (DX.fr (d_op mF op_addA od_add (dvR 6) (DX.fr (d_lst (da_cons (dv 4) (da_cons (DX.fd (d_op mF op_sub od_sub (DX.dr (dv 3)) (DX.dr (dv 4)))) (da_nil))))))))))))))) (dss_nil))
 (dss_cons (ds_if (dt_cmp (op_neD (hu64 hr)) od_ne (DX.fr (d_callF (ok__law_step_told T) (hr.mono (by decide)) (by exact rfl) (takes_of rfl rfl rfl rfl) (da_cons (DX.fd (d_int)) (da_cons (dv 2) (da_cons (dv 3) (da_cons (dv 4) (da_nil))))))) (DX.dr (dv 5)) (nomark _)) (dss_one (ds_ret (d_bl))) (dss_nil))
 (dss_cons (ds_if (DW.t (dw_and (dt_cmp (op_neD (hu64 hr)) od_ne (DX.dr (dv 5)) (DX.fr (d_str)) (nomark _)) (dw_and1 (dt_cmp (op_neD (hu64 hr)) od_ne (DX.fr (d_callF (ok_join T) (hr.mono (by decide)) (by exact rfl) (takes_of rfl rfl rfl rfl) (da_cons (dv 5) (da_cons (dv 4) (da_cons (DX.fd (d_op mF op_sub od_sub (DX.dr (dv 3)) (DX.dr (dv 4)))) (da_nil)))))) (DX.dr (dv 2)) (nomark _))))) (dss_one (ds_ret (d_bl))) (dss_nil))
 (dss_cons (ds_set (i := 7) sc_law.nd rfl (Or.inl rfl) (d_if mD (dt_cmp op_gt od_gt (DX.fr (d_op mF op_mod od_mod (DX.dr (d_ix (DX.dr (dv 1)) (DX.fr (d_int)))) (DX.fr (d_int)))) (DX.fr (d_int)) (nomark _)) (d_ix (DX.dr (dv 2)) (DX.fr (d_op mF op_mod od_mod (DX.dr (d_ix (DX.dr (dv 1)) (DX.fr (d_int)))) (DX.fr (d_b1 mF cr_len c1_len (by exact rfl) T.b_len (by decide +kernel) (DX.dr (dv 2))))))) (d_ix (DX.fr (d_lst (da_cons (DX.fd (d_op mF op_mod od_mod (DX.dr (d_ix (DX.dr (dv 1)) (DX.fr (d_int)))) (DX.fr (d_int)))) (da_cons (DX.fd (d_non)) (da_cons (DX.fd (d_int)) (da_nil)))))) (DX.fr (d_op mF op_mod od_mod (DX.dr (d_ix (DX.dr (dv 1)) (DX.fr (d_int)))) (DX.fr (d_int)))))))
 (dss_cons (ds_set (i := 5) sc_law.nd rfl (Or.inl rfl) (DX.fd (d_str)))
 (dss_cons (ds_if (DW.t (dw_and (dt_truK (K := K) rfl (DX.fr (d_callF (ok__law_in T) (hr.mono (by decide)) (by exact rfl) (takes_of rfl rfl rfl rfl) (da_cons (dv 3) (da_cons (DX.fd (d_int)) (da_cons (DX.fd (d_int)) (da_nil))))))) (dw_and (dt_truK (K := K) rfl (DX.fr (d_callF (ok__law_in T) (hr.mono (by decide)) (by exact rfl) (takes_of rfl rfl rfl rfl) (da_cons (dv 7) (da_cons (DX.fd (d_int)) (da_cons (DX.fd (d_int)) (da_nil))))))) (dw_and1 (dt_cmp op_le od_le (DX.fr (d_op mF op_addA od_add (DX.dr (dv 3)) (DX.dr (dv 7)))) (DX.fr (d_int)) (nomark _)))))) (dss_cons (ds_setO (i := 6) sc_law.nd rfl (Or.inl rfl) (d_t1 mF cr_list c1_list (by exact rfl) T.b_list (by decide +kernel) (DX.dr (dv 2))))
 (dss_one (ds_if (dt_cmp (op_inA (hu65 hr)) (od_in false) (DX.dr (dv 3)) (dvR 6) (by with_unfolding_all rfl)) (dss_cons (ds_rem (i := 6) (DX.dr (dv 3)))
 (dss_one (ds_if (dt_cmp (op_inA (hu65 hr)) (od_in false) (DX.dr (dv 7)) (dvR 6) (by with_unfolding_all rfl)) (dss_cons (ds_rem (i := 6) (DX.dr (dv 7)))
 (dss_one (ds_set (i := 5) sc_law.nd rfl (Or.inl rfl) (DX.fd (d_t1 mF cr_tuple c1_tuple (by exact rfl) T.b_tuple (by decide +kernel) (DX.fr (d_b1 mF cr_sortA c1_sorted (by exact rfl) T.b_sorted (by decide +kernel) (DX.fr (d_op mF op_addA od_add (dvR 6) (DX.fr (d_lst (da_cons (DX.fd (d_op mF op_addA od_add (DX.dr (dv 3)) (DX.dr (dv 7)))) (da_nil))))))))))))) (dss_nil)))) (dss_nil)))) (dss_nil))
 (dss_cons (ds_if (dt_cmp (op_neD (hu64 hr)) od_ne (DX.fr (d_callF (ok__law_step_told T) (hr.mono (by decide)) (by exact rfl) (takes_of rfl rfl rfl rfl) (da_cons (DX.fd (d_int)) (da_cons (dv 2) (da_cons (dv 3) (da_cons (dv 7) (da_nil))))))) (DX.dr (dv 5)) (nomark _)) (dss_one (ds_ret (d_bl))) (dss_nil))
 (dss_cons (ds_if (DW.t (dw_and (dt_cmp (op_neD (hu64 hr)) od_ne (DX.dr (dv 5)) (DX.fr (d_str)) (nomark _)) (dw_and1 (dt_cmp (op_neD (hu64 hr)) od_ne (DX.fr (d_callF (ok_split T) (hr.mono (by decide)) (by exact rfl) (takes_of rfl rfl rfl rfl) (da_cons (dv 5) (da_cons (DX.fd (d_op mF op_addA od_add (DX.dr (dv 3)) (DX.dr (dv 7)))) (da_cons (dv 3) (da_nil)))))) (DX.dr (dv 2)) (nomark _))))) (dss_one (ds_ret (d_bl))) (dss_nil))
 (dss_cons (ds_set (i := 8) sc_law.nd rfl (Or.inl rfl) (d_ix (DX.fr (d_lst (da_cons (DX.fd (d_non)) (da_cons (DX.fd (d_tup (da_nil))) (da_cons (DX.fd (d_t1 mF cr_list c1_list (by exact rfl) T.b_list (by decide +kernel) (DX.dr (dv 2)))) (da_cons (DX.fd (d_op mF op_addA od_add (DX.fr (d_tup (da_cons (DX.fd (d_int)) (da_nil)))) (DX.dr (dv 2)))) (da_cons (DX.fd (d_op mF op_mulA od_mul (DX.fr (d_tup (da_cons (DX.fd (d_int)) (da_nil)))) (DX.fr (d_int)))) (da_cons (DX.fd (d_tup (da_cons (DX.fd (d_int)) (da_cons (DX.fd (d_int)) (da_nil))))) (da_nil))))))))) (DX.fr (d_op mF op_mod od_mod (DX.dr (d_ix (DX.dr (dv 1)) (DX.fr (d_int)))) (DX.fr (d_int))))))
 (dss_one (ds_ret (d_cmp (op_eqD (hu64 hr)) od_eq (DX.fr (d_callF (ok__law_step_told T) (hr.mono (by decide)) (by exact rfl) (takes_of rfl rfl rfl rfl) (da_cons (DX.fd (d_op mF op_mod od_mod (DX.dr (d_ix (DX.dr (dv 1)) (DX.fr (d_int)))) (DX.fr (d_int)))) (da_cons (dv 8) (da_cons (DX.fd (d_non)) (da_cons (DX.fd (d_non)) (da_nil))))))) (DX.fr (d_str)) (nomark _))))))))))))))))))⟩
end
end SBL

namespace SBL
open PySem SB
/-! ### the row -/
def cellF (ns : List Int) (k : Int) : Int := if k < ns.length then ns.getD k.toNat 0 else 0
theorem cell_ok (ns : List Int) (k : Int) (h0 : 0 ≤ k) : m__law_cell [.list (ns.map PyData.int), .int k] = .ok (.int (cellF ns k)) := by
  show (h__law_cell [some (.d (.list (ns.map PyData.int))), some (.d (.int k))]).rs = _
  by_cases h : k < ns.length
  · simp [h__law_cell, s__law_cell_0, s__law_cell_1, b_ok, b_err, b_bad, o_ok, o_err, n_ok, sSeq_K, seqK_nx, seqK_rt, seqK_er, v_d, v_Rd, v_Ro, v_Fo, v_Fi, v_Fb, v_Fs, v_Ft, v_Fn, f_o, f_d, a_i, a_b, a_l, a_sl, a_st, l_i, l_b, l_s, l_t, l_n, t_b, t_l, t_t, p_add, p_addT, p_addL, p_sub, p_mul, p_mod, p_div, p_pow, p_lt, p_le, p_gt, p_ge, p_min, p_max, p_lenL, p_lenT, p_tupL, p_tupT, p_lstL, p_lstT, p_ixL, p_ixT, p_slL, p_slT, p_eq, p_ne, p_isN, p_isNotN, r_1, r_2, c_k, c_j, i_non, i_bl, i_int, i_str, i_lst, i_tup, gTup_b, gLst_b, mkT_ok, mkL_ok, sap, sit, itK_ok, sex, exK_ok, sre, reK_ok, p_srtL, p_srtT, p_sumL, p_sumT, rs_rt, rs_nx, rs_er, p_inT, p_ninT, p_inL, shp_i, shp_b, shp_n, shp_T, shp_L, eqv_T, eqv_I, sIf, sRet, sSet, sSetO, sDrop, sNext, sRaise, sFrz, gTest, gBin, gUn, gC, gNl, gB, gAnd, gOr, gNot, gIf, gTru, aNil, aCons, gCall, gChain, gIsi, gSeq, gRg1, gRg2, sFor, tgN, gYes, sAsg, tg2, tg3, sPar, gSl, oSo, oNo, h, atI_ints ns k h0 h, cellF]
  · simp [h__law_cell, s__law_cell_0, s__law_cell_1, b_ok, b_err, b_bad, o_ok, o_err, n_ok, sSeq_K, seqK_nx, seqK_rt, seqK_er, v_d, v_Rd, v_Ro, v_Fo, v_Fi, v_Fb, v_Fs, v_Ft, v_Fn, f_o, f_d, a_i, a_b, a_l, a_sl, a_st, l_i, l_b, l_s, l_t, l_n, t_b, t_l, t_t, p_add, p_addT, p_addL, p_sub, p_mul, p_mod, p_div, p_pow, p_lt, p_le, p_gt, p_ge, p_min, p_max, p_lenL, p_lenT, p_tupL, p_tupT, p_lstL, p_lstT, p_ixL, p_ixT, p_slL, p_slT, p_eq, p_ne, p_isN, p_isNotN, r_1, r_2, c_k, c_j, i_non, i_bl, i_int, i_str, i_lst, i_tup, gTup_b, gLst_b, mkT_ok, mkL_ok, sap, sit, itK_ok, sex, exK_ok, sre, reK_ok, p_srtL, p_srtT, p_sumL, p_sumT, rs_rt, rs_nx, rs_er, p_inT, p_ninT, p_inL, shp_i, shp_b, shp_n, shp_T, shp_L, eqv_T, eqv_I, sIf, sRet, sSet, sSetO, sDrop, sNext, sRaise, sFrz, gTest, gBin, gUn, gC, gNl, gB, gAnd, gOr, gNot, gIf, gTru, aNil, aCons, gCall, gChain, gIsi, gSeq, gRg1, gRg2, sFor, tgN, gYes, sAsg, tg2, tg3, sPar, gSl, oSo, oNo, h, cellF]
def RowOk (r : List Int) : Prop := r.length = 60 ∧ ∀ x ∈ r, 0 ≤ x ∧ x < 1000
theorem row_ok (ns : List Int) (at_ : Int) (h0 : 0 ≤ at_) : ∃ r : List Int, m__law_row [.list (ns.map PyData.int), .int at_] = .ok (.list (r.map PyData.int)) ∧ RowOk r := by
  have hb : ∀ (i : Nat) (c : Int) (xs : List Int), (∀ x ∈ xs, 0 ≤ x ∧ x < 1000) → xs.length = i → i < 60 → ∃ (c' x : Int), (0 ≤ x ∧ x < 1000) ∧
      b__law_row_0 [some (.d (.list (ns.map PyData.int))), some (.d (.int at_)), some (.d (.int c)), some (.own (xs.map PyData.int)), some (.d (.int i))] = .nx [some (.d (.list (ns.map PyData.int))), some (.d (.int at_)), some (.d (.int c')), some (.own ((xs ++ [x]).map PyData.int)), some (.d (.int i))] := by
    intro i c xs hx hl hi
    have hm : mulOk c 48271 := .inr (by decide)
    have hm2 : mulOk 131 (i : Int) := .inl (by decide)
    have hk : 0 ≤ (at_ + 1 + i) % 20 := by omega
    have hp : L2.CPow 10 18 := by decide
    have hd : L2.CDiv ((c * 48271 + 131 * i + 7 + cellF ns ((at_ + 1 + i) % 20)) % 2147483647) 11 := by unfold L2.CDiv; omega
    have hd2 : L2.CDiv c 1000 := by unfold L2.CDiv; omega
    by_cases hc : cellF ns at_ < 10 ^ 18
    · refine ⟨(c * 48271 + 131 * i + 7 + cellF ns ((at_ + 1 + i) % 20)) % 2147483647, ((c * 48271 + 131 * i + 7 + cellF ns ((at_ + 1 + i) % 20)) % 2147483647) / 11 % 1000, by omega, ?_⟩
      have hc' : cellF ns at_ < 1000000000000000000 := hc
      simp [b__law_row_0, b_ok, b_err, b_bad, o_ok, o_err, n_ok, sSeq_K, seqK_nx, seqK_rt, seqK_er, v_d, v_Rd, v_Ro, v_Fo, v_Fi, v_Fb, v_Fs, v_Ft, v_Fn, f_o, f_d, a_i, a_b, a_l, a_sl, a_st, l_i, l_b, l_s, l_t, l_n, t_b, t_l, t_t, p_add, p_addT, p_addL, p_sub, p_mul, p_mod, p_div, p_pow, p_lt, p_le, p_gt, p_ge, p_min, p_max, p_lenL, p_lenT, p_tupL, p_tupT, p_lstL, p_lstT, p_ixL, p_ixT, p_slL, p_slT, p_eq, p_ne, p_isN, p_isNotN, r_1, r_2, c_k, c_j, i_non, i_bl, i_int, i_str, i_lst, i_tup, gTup_b, gLst_b, mkT_ok, mkL_ok, sap, sit, itK_ok, sex, exK_ok, sre, reK_ok, p_srtL, p_srtT, p_sumL, p_sumT, rs_rt, rs_nx, rs_er, p_inT, p_ninT, p_inL, shp_i, shp_b, shp_n, shp_T, shp_L, eqv_T, eqv_I, sIf, sRet, sSet, sSetO, sDrop, sNext, sRaise, sFrz, gTest, gBin, gUn, gC, gNl, gB, gAnd, gOr, gNot, gIf, gTru, aNil, aCons, gCall, gChain, gIsi, gSeq, gRg1, gRg2, sFor, tgN, gYes, sAsg, tg2, tg3, sPar, gSl, oSo, oNo, cell_ok ns at_ h0, hp, hc', hm, hm2, cell_ok ns _ hk, hd, show xs.length < 100000 by omega]
    · refine ⟨c / 1000, c % 1000, by omega, ?_⟩
      have hc' : ¬ cellF ns at_ < 1000000000000000000 := hc
      simp [b__law_row_0, b_ok, b_err, b_bad, o_ok, o_err, n_ok, sSeq_K, seqK_nx, seqK_rt, seqK_er, v_d, v_Rd, v_Ro, v_Fo, v_Fi, v_Fb, v_Fs, v_Ft, v_Fn, f_o, f_d, a_i, a_b, a_l, a_sl, a_st, l_i, l_b, l_s, l_t, l_n, t_b, t_l, t_t, p_add, p_addT, p_addL, p_sub, p_mul, p_mod, p_div, p_pow, p_lt, p_le, p_gt, p_ge, p_min, p_max, p_lenL, p_lenT, p_tupL, p_tupT, p_lstL, p_lstT, p_ixL, p_ixT, p_slL, p_slT, p_eq, p_ne, p_isN, p_isNotN, r_1, r_2, c_k, c_j, i_non, i_bl, i_int, i_str, i_lst, i_tup, gTup_b, gLst_b, mkT_ok, mkL_ok, sap, sit, itK_ok, sex, exK_ok, sre, reK_ok, p_srtL, p_srtT, p_sumL, p_sumT, rs_rt, rs_nx, rs_er, p_inT, p_ninT, p_inL, shp_i, shp_b, shp_n, shp_T, shp_L, eqv_T, eqv_I, sIf, sRet, sSet, sSetO, sDrop, sNext, sRaise, sFrz, gTest, gBin, gUn, gC, gNl, gB, gAnd, gOr, gNot, gIf, gTru, aNil, aCons, gCall, gChain, gIsi, gSeq, gRg1, gRg2, sFor, tgN, gYes, sAsg, tg2, tg3, sPar, gSl, oSo, oNo, cell_ok ns at_ h0, hp, hc', hd2, show xs.length < 100000 by omega]
  obtain ⟨ρ', e, c, xs, t, rfl, hl, hx⟩ := forLoop_inv (set := tgN 4) (body := b__law_row_0) (fun i ρ => ∃ (c : Int) (xs : List Int) (t : Option Cl), ρ = [some (.d (.list (ns.map PyData.int))), some (.d (.int at_)), some (.d (.int c)), some (.own (xs.map PyData.int)), t] ∧ xs.length = i ∧ ∀ x ∈ xs, 0 ≤ x ∧ x < 1000)
    (rgD 0 60) 0 [some (.d (.list (ns.map PyData.int))), some (.d (.int at_)), some (.d (.int (cellF ns at_))), some (.own []), none] ⟨_, [], none, rfl, rfl, fun x h => nomatch h⟩ fun i d ρ hd hp => by
      obtain ⟨c, xs, t, rfl, hl, hx⟩ := hp
      obtain ⟨rfl, hi⟩ := rgD_get2 hd
      obtain ⟨c', x, hx', e⟩ := hb i c xs hx (by omega) hi
      have hi0 : (0 : Int) + (i : Nat) = (i : Int) := by omega
      rw [hi0]
      refine ⟨_, _, rfl, e, c', xs ++ [x], _, rfl, by rw [List.length_append, hl]; rfl, fun y hy => ?_⟩
      rcases List.mem_append.mp hy with hy | hy
      · exact hx y hy
      · rw [List.mem_singleton.mp hy]; exact hx'
  refine ⟨xs, ?_, by rw [hl, rgD_len], hx⟩
  show (h__law_row [some (.d (.list (ns.map PyData.int))), some (.d (.int at_)), none, none, none]).rs = _
  have e1 : s__law_row_0 [some (.d (.list (ns.map PyData.int))), some (.d (.int at_)), none, none, none] = .nx [some (.d (.list (ns.map PyData.int))), some (.d (.int at_)), some (.d (.int (cellF ns at_))), none, none] := by
    simp [s__law_row_0, b_ok, b_err, b_bad, o_ok, o_err, n_ok, sSeq_K, seqK_nx, seqK_rt, seqK_er, v_d, v_Rd, v_Ro, v_Fo, v_Fi, v_Fb, v_Fs, v_Ft, v_Fn, f_o, f_d, a_i, a_b, a_l, a_sl, a_st, l_i, l_b, l_s, l_t, l_n, t_b, t_l, t_t, p_add, p_addT, p_addL, p_sub, p_mul, p_mod, p_div, p_pow, p_lt, p_le, p_gt, p_ge, p_min, p_max, p_lenL, p_lenT, p_tupL, p_tupT, p_lstL, p_lstT, p_ixL, p_ixT, p_slL, p_slT, p_eq, p_ne, p_isN, p_isNotN, r_1, r_2, c_k, c_j, i_non, i_bl, i_int, i_str, i_lst, i_tup, gTup_b, gLst_b, mkT_ok, mkL_ok, sap, sit, itK_ok, sex, exK_ok, sre, reK_ok, p_srtL, p_srtT, p_sumL, p_sumT, rs_rt, rs_nx, rs_er, p_inT, p_ninT, p_inL, shp_i, shp_b, shp_n, shp_T, shp_L, eqv_T, eqv_I, sIf, sRet, sSet, sSetO, sDrop, sNext, sRaise, sFrz, gTest, gBin, gUn, gC, gNl, gB, gAnd, gOr, gNot, gIf, gTru, aNil, aCons, gCall, gChain, gIsi, gSeq, gRg1, gRg2, sFor, tgN, gYes, sAsg, tg2, tg3, sPar, gSl, oSo, oNo, cell_ok ns at_ h0]
  unfold h__law_row
  rw [q_nx e1, q_nx (a := s__law_row_1) (ρ' := [some (.d (.list (ns.map PyData.int))), some (.d (.int at_)), some (.d (.int (cellF ns at_))), some (.own []), none]) rfl, q_nx (a := s__law_row_2) (ρ' := [some (.d (.list (ns.map PyData.int))), some (.d (.int at_)), some (.d (.int c)), some (.own (xs.map PyData.int)), t]) e]
  rfl
end SBL

namespace SBL
open PySem SB
/-! ### the list -/
theorem rowAt {r : List Int} (h : RowOk r) (k : Int) : 0 ≤ r.getD k.toNat 0 ∧ r.getD k.toNat 0 < 1000 := by
  rw [List.getD_eq_getElem?_getD]
  cases e : r[k.toNat]? with
  | none => exact ⟨by decide, by decide⟩
  | some x => exact h.2 x (List.mem_of_getElem? e)
theorem rowIx {r : List Int} (h : RowOk r) {k : Int} (h0 : 0 ≤ k) (h1 : k < 60) : L2.atI (r.map PyData.int) k = some (.int (r.getD k.toNat 0)) := atI_ints r k h0 (by rw [h.1]; exact h1)
theorem posAt {xs : List Int} (h : PosL xs) {i : Nat} (hi : i < xs.length) : 1 ≤ xs.getD i 0 := by
  rw [List.getD_eq_getElem?_getD, List.getElem?_eq_getElem hi]
  exact h _ (List.getElem_mem hi)
structure LOk (xs : List Int) (total : Int) (most : Nat) : Prop where
  srt : xs.Pairwise (· ≤ ·)
  pos : PosL xs
  sum : xs.sum = total
  one : 1 ≤ xs.length
  len : xs.length ≤ most
theorem list_ok {r : List Int} (hr : RowOk r) {at_ total most : Int} (h0 : 0 ≤ at_) (ht : 1 ≤ total) (hm : 1 ≤ most) (hm2 : most ≤ 1000) :
    ∃ xs : List Int, m__law_list [.list (r.map PyData.int), .int at_, .int total, .int most] = .ok (.tuple (xs.map PyData.int)) ∧ LOk xs total most.toNat := by
  have hb : ∀ (i : Nat) (xs : List Int) (a b : Option Cl), PosL xs → xs.sum = total → 1 ≤ xs.length → xs.length ≤ 1 + i → i < 1000 → ∃ (ys : List Int) (a' b' : Option Cl), PosL ys ∧ ys.sum = total ∧ 1 ≤ ys.length ∧ ys.length ≤ 1 + (i + 1) ∧
      b__law_list_0 [some (.d (.list (r.map PyData.int))), some (.d (.int at_)), some (.d (.int total)), some (.d (.int most)), some (.own (xs.map PyData.int)), some (.d (.int i)), a, b] = .nx [some (.d (.list (r.map PyData.int))), some (.d (.int at_)), some (.d (.int total)), some (.d (.int most)), some (.own (ys.map PyData.int)), some (.d (.int i)), a', b'] := by
    intro i xs a b hp hs h1 hl hi
    have m1 : mulOk 2 (i : Int) := .inl (by decide)
    have k1 : 0 ≤ (at_ + 1 + 2 * i) % 60 := by omega
    have k2 : (at_ + 1 + 2 * i) % 60 < 60 := by omega
    have k3 : 0 ≤ (at_ + 2 + 2 * i) % 60 := by omega
    have k4 : (at_ + 2 + 2 * i) % 60 < 60 := by omega
    have e1 := rowIx hr k1 k2
    have e2 := rowIx hr k3 k4
    generalize hu : r.getD ((at_ + 1 + 2 * i) % 60).toNat 0 = u at e1
    generalize hv : r.getD ((at_ + 2 + 2 * i) % 60).toNat 0 = v at e2
    have bu := rowAt hr ((at_ + 1 + 2 * i) % 60)
    have bv := rowAt hr ((at_ + 2 + 2 * i) % 60)
    rw [hu] at bu
    rw [hv] at bv
    have hpos : (0 : Int) < xs.length := by omega
    have hposN : 0 < xs.length := by omega
    have s0 : 0 ≤ u % xs.length := Int.emod_nonneg _ (by omega)
    have s1 : u % xs.length < xs.length := Int.emod_lt_of_pos _ hpos
    generalize hsp : u % (xs.length : Int) = sp at s0 s1
    have e3 := atI_ints xs sp s0 s1
    have pA := posAt hp (i := sp.toNat) (by omega)
    generalize hw : xs.getD sp.toNat 0 = w at e3 pA
    by_cases hw1 : 1 < w
    · have d0 : (0 : Int) < w - 1 := by omega
      have g0 : 0 ≤ v % (w - 1) := Int.emod_nonneg _ (by omega)
      have g1 : v % (w - 1) < w - 1 := Int.emod_lt_of_pos _ d0
      have ix : L2.ixN (xs.length + 1) sp = some sp.toNat := by
        unfold L2.ixN
        rw [if_pos s0, if_pos (by omega)]
      have at2 : L2.atI ((xs ++ [1 + v % (w - 1)]).map PyData.int) sp = some (.int w) := by
        rw [atI_ints _ sp s0 (by simp; omega), getD_app (by omega), hw]
      simp only [List.map_append, List.map_cons, List.map_nil] at at2
      refine ⟨(xs ++ [1 + v % (w - 1)]).set sp.toNat (w - (1 + v % (w - 1))), some (.d (.int sp)), some (.d (.int (1 + v % (w - 1)))), fun x hx => ?_, ?_, by simp, by simp; omega, ?_⟩
      · rcases mem_set hx with hx | hx
        · rcases List.mem_append.mp hx with hx | hx
          · exact hp x hx
          · rw [List.mem_singleton.mp hx]; omega
        · omega
      · rw [sum_set _ _ _ (by simp; omega), getD_app (by omega), hw, List.sum_append, hs]
        simp
        omega
      · rw [← set_ints]
        simp [b__law_list_0, b_ok, b_err, b_bad, o_ok, o_err, n_ok, sSeq_K, seqK_nx, seqK_rt, seqK_er, v_d, v_Rd, v_Ro, v_Fo, v_Fi, v_Fb, v_Fs, v_Ft, v_Fn, f_o, f_d, a_i, a_b, a_l, a_sl, a_st, l_i, l_b, l_s, l_t, l_n, t_b, t_l, t_t, p_add, p_addT, p_addL, p_sub, p_mul, p_mod, p_div, p_pow, p_lt, p_le, p_gt, p_ge, p_min, p_max, p_lenL, p_lenT, p_tupL, p_tupT, p_lstL, p_lstT, p_ixL, p_ixT, p_slL, p_slT, p_eq, p_ne, p_isN, p_isNotN, r_1, r_2, c_k, c_j, i_non, i_bl, i_int, i_str, i_lst, i_tup, gTup_b, gLst_b, mkT_ok, mkL_ok, sap, sit, itK_ok, sex, exK_ok, sre, reK_ok, p_srtL, p_srtT, p_sumL, p_sumT, rs_rt, rs_nx, rs_er, p_inT, p_ninT, p_inL, shp_i, shp_b, shp_n, shp_T, shp_L, eqv_T, eqv_I, sIf, sRet, sSet, sSetO, sDrop, sNext, sRaise, sFrz, gTest, gBin, gUn, gC, gNl, gB, gAnd, gOr, gNot, gIf, gTru, aNil, aCons, gCall, gChain, gIsi, gSeq, gRg1, gRg2, sFor, tgN, gYes, sAsg, tg2, tg3, sPar, gSl, oSo, oNo, m1, e1, hpos, hposN, hsp, e3, hw1, e2, d0, show xs.length + 1 ≤ 100000 by omega, at2, ix]
    · exact ⟨xs, some (.d (.int sp)), b, hp, hs, h1, by omega, by simp [b__law_list_0, b_ok, b_err, b_bad, o_ok, o_err, n_ok, sSeq_K, seqK_nx, seqK_rt, seqK_er, v_d, v_Rd, v_Ro, v_Fo, v_Fi, v_Fb, v_Fs, v_Ft, v_Fn, f_o, f_d, a_i, a_b, a_l, a_sl, a_st, l_i, l_b, l_s, l_t, l_n, t_b, t_l, t_t, p_add, p_addT, p_addL, p_sub, p_mul, p_mod, p_div, p_pow, p_lt, p_le, p_gt, p_ge, p_min, p_max, p_lenL, p_lenT, p_tupL, p_tupT, p_lstL, p_lstT, p_ixL, p_ixT, p_slL, p_slT, p_eq, p_ne, p_isN, p_isNotN, r_1, r_2, c_k, c_j, i_non, i_bl, i_int, i_str, i_lst, i_tup, gTup_b, gLst_b, mkT_ok, mkL_ok, sap, sit, itK_ok, sex, exK_ok, sre, reK_ok, p_srtL, p_srtT, p_sumL, p_sumT, rs_rt, rs_nx, rs_er, p_inT, p_ninT, p_inL, shp_i, shp_b, shp_n, shp_T, shp_L, eqv_T, eqv_I, sIf, sRet, sSet, sSetO, sDrop, sNext, sRaise, sFrz, gTest, gBin, gUn, gC, gNl, gB, gAnd, gOr, gNot, gIf, gTru, aNil, aCons, gCall, gChain, gIsi, gSeq, gRg1, gRg2, sFor, tgN, gYes, sAsg, tg2, tg3, sPar, gSl, oSo, oNo, m1, e1, hpos, hposN, hsp, e3, hw1]⟩
  have j0 : 0 ≤ at_ % 60 := by omega
  have j1 : at_ % 60 < 60 := by omega
  have ej := rowIx hr j0 j1
  have bj := rowAt hr (at_ % 60)
  generalize hz : r.getD (at_ % 60).toNat 0 = z at ej bj
  have z0 : 0 ≤ z % most := Int.emod_nonneg _ (by omega)
  have z1 : z % most < most := Int.emod_lt_of_pos _ (by omega)
  obtain ⟨ρ', e, xs, t, a, b, rfl, hp, hs, h1, hl⟩ := forLoop_inv (set := tgN 5) (body := b__law_list_0) (fun i ρ => ∃ (xs : List Int) (t a b : Option Cl), ρ = [some (.d (.list (r.map PyData.int))), some (.d (.int at_)), some (.d (.int total)), some (.d (.int most)), some (.own (xs.map PyData.int)), t, a, b] ∧ PosL xs ∧ xs.sum = total ∧ 1 ≤ xs.length ∧ xs.length ≤ 1 + i)
    (rgD 0 (z % most).toNat) 0 [some (.d (.list (r.map PyData.int))), some (.d (.int at_)), some (.d (.int total)), some (.d (.int most)), some (.own [.int total]), none, none, none] ⟨[total], none, none, none, rfl, fun x hx => by rw [List.mem_singleton.mp hx]; exact ht, by simp, by simp, by simp⟩ fun i d ρ hd hp => by
      obtain ⟨xs, t, a, b, rfl, hp, hs, h1, hl⟩ := hp
      obtain ⟨rfl, hi⟩ := rgD_get2 hd
      obtain ⟨ys, a', b', q1, q2, q3, q4, e⟩ := hb i xs a b hp hs h1 (by omega) (by omega)
      have hi0 : (0 : Int) + (i : Nat) = (i : Int) := by omega
      rw [hi0]
      exact ⟨_, _, rfl, e, ys, _, a', b', rfl, q1, q2, q3, by omega⟩
  rw [rgD_len] at hl
  refine ⟨sortI xs, ?_, sortI_sorted xs, fun x hx => hp x ((sortI_perm xs).mem_iff.mp hx), by rw [perm_sum (sortI_perm xs)]; exact hs, by rw [sortI_len]; exact h1, by rw [sortI_len]; omega⟩
  show (h__law_list [some (.d (.list (r.map PyData.int))), some (.d (.int at_)), some (.d (.int total)), some (.d (.int most)), none, none, none, none]).rs = _
  unfold h__law_list
  rw [q_nx (a := s__law_list_0) (ρ' := [some (.d (.list (r.map PyData.int))), some (.d (.int at_)), some (.d (.int total)), some (.d (.int most)), some (.own [.int total]), none, none, none]) rfl]
  have e2 : s__law_list_1 [some (.d (.list (r.map PyData.int))), some (.d (.int at_)), some (.d (.int total)), some (.d (.int most)), some (.own [.int total]), none, none, none] = .nx [some (.d (.list (r.map PyData.int))), some (.d (.int at_)), some (.d (.int total)), some (.d (.int most)), some (.own (xs.map PyData.int)), t, a, b] := by
    unfold s__law_list_1 sFor
    have : gRg1 (gBin pMod (gBin pIx (gVar 0) (gBin pMod (gVar 1) (gC (.int 60)))) (gVar 3)) [some (.d (.list (r.map PyData.int))), some (.d (.int at_)), some (.d (.int total)), some (.d (.int most)), some (.own [.int total]), none, none, none] = .ok (rgD 0 (z % most).toNat) := by
      have y1 : -1000000000 ≤ z % most := by omega
      have y2 : z % most ≤ 1000000000 := by omega
      simp [b_ok, b_err, b_bad, o_ok, o_err, n_ok, sSeq_K, seqK_nx, seqK_rt, seqK_er, v_d, v_Rd, v_Ro, v_Fo, v_Fi, v_Fb, v_Fs, v_Ft, v_Fn, f_o, f_d, a_i, a_b, a_l, a_sl, a_st, l_i, l_b, l_s, l_t, l_n, t_b, t_l, t_t, p_add, p_addT, p_addL, p_sub, p_mul, p_mod, p_div, p_pow, p_lt, p_le, p_gt, p_ge, p_min, p_max, p_lenL, p_lenT, p_tupL, p_tupT, p_lstL, p_lstT, p_ixL, p_ixT, p_slL, p_slT, p_eq, p_ne, p_isN, p_isNotN, r_1, r_2, c_k, c_j, i_non, i_bl, i_int, i_str, i_lst, i_tup, gTup_b, gLst_b, mkT_ok, mkL_ok, sap, sit, itK_ok, sex, exK_ok, sre, reK_ok, p_srtL, p_srtT, p_sumL, p_sumT, rs_rt, rs_nx, rs_er, p_inT, p_ninT, p_inL, shp_i, shp_b, shp_n, shp_T, shp_L, eqv_T, eqv_I, sIf, sRet, sSet, sSetO, sDrop, sNext, sRaise, sFrz, gTest, gBin, gUn, gC, gNl, gB, gAnd, gOr, gNot, gIf, gTru, aNil, aCons, gCall, gChain, gIsi, gSeq, gRg1, gRg2, sFor, tgN, gYes, sAsg, tg2, tg3, sPar, gSl, oSo, oNo, ej, show (0 : Int) < most by omega, y1, y2]
    rw [this]
    exact e
  rw [q_nx e2]
  simp [s__law_list_2, b_ok, b_err, b_bad, o_ok, o_err, n_ok, sSeq_K, seqK_nx, seqK_rt, seqK_er, v_d, v_Rd, v_Ro, v_Fo, v_Fi, v_Fb, v_Fs, v_Ft, v_Fn, f_o, f_d, a_i, a_b, a_l, a_sl, a_st, l_i, l_b, l_s, l_t, l_n, t_b, t_l, t_t, p_add, p_addT, p_addL, p_sub, p_mul, p_mod, p_div, p_pow, p_lt, p_le, p_gt, p_ge, p_min, p_max, p_lenL, p_lenT, p_tupL, p_tupT, p_lstL, p_lstT, p_ixL, p_ixT, p_slL, p_slT, p_eq, p_ne, p_isN, p_isNotN, r_1, r_2, c_k, c_j, i_non, i_bl, i_int, i_str, i_lst, i_tup, gTup_b, gLst_b, mkT_ok, mkL_ok, sap, sit, itK_ok, sex, exK_ok, sre, reK_ok, p_srtL, p_srtT, p_sumL, p_sumT, rs_rt, rs_nx, rs_er, p_inT, p_ninT, p_inL, shp_i, shp_b, shp_n, shp_T, shp_L, eqv_T, eqv_I, sIf, sRet, sSet, sSetO, sDrop, sNext, sRaise, sFrz, gTest, gBin, gUn, gC, gNl, gB, gAnd, gOr, gNot, gIf, gTru, aNil, aCons, gCall, gChain, gIsi, gSeq, gRg1, gRg2, sFor, tgN, gYes, sAsg, tg2, tg3, sPar, gSl, oSo, oNo, pSorted, asInts_ints]
end SBL

namespace SBL
open PySem SB
/-! ### what rises -/
def nd : PyData → Bool
  | .dict _ => false
  | _ => true
def isW : PyData → Int → Int → Bool
  | .int i, lo, hi => decide (lo ≤ i) && decide (i ≤ hi)
  | _, _, _ => false
theorem within_ok {x : PyData} (hx : nd x = true) (lo hi : Int) : m_is_within [x, .int lo, .int hi] = .ok (.bool (isW x lo hi)) := by
  show (h_is_within [some (.d x), some (.d (.int lo)), some (.d (.int hi))]).rs = _
  cases x with
  | int i => by_cases h : lo ≤ i <;> simp [h_is_within, s_is_within_0, b_ok, b_err, b_bad, o_ok, o_err, n_ok, sSeq_K, seqK_nx, seqK_rt, seqK_er, v_d, v_Rd, v_Ro, v_Fo, v_Fi, v_Fb, v_Fs, v_Ft, v_Fn, f_o, f_d, a_i, a_b, a_l, a_sl, a_st, l_i, l_b, l_s, l_t, l_n, t_b, t_l, t_t, p_add, p_addT, p_addL, p_sub, p_mul, p_mod, p_div, p_pow, p_lt, p_le, p_gt, p_ge, p_min, p_max, p_lenL, p_lenT, p_tupL, p_tupT, p_lstL, p_lstT, p_ixL, p_ixT, p_slL, p_slT, p_eq, p_ne, p_isN, p_isNotN, r_1, r_2, c_k, c_j, i_non, i_bl, i_int, i_str, i_lst, i_tup, gTup_b, gLst_b, mkT_ok, mkL_ok, sap, sit, itK_ok, sex, exK_ok, sre, reK_ok, p_srtL, p_srtT, p_sumL, p_sumT, rs_rt, rs_nx, rs_er, p_inT, p_ninT, p_inL, shp_i, shp_b, shp_n, shp_T, shp_L, eqv_T, eqv_I, sIf, sRet, sSet, sSetO, sDrop, sNext, sRaise, sFrz, gTest, gBin, gUn, gC, gNl, gB, gAnd, gOr, gNot, gIf, gTru, aNil, aCons, gCall, gChain, gIsi, gSeq, gRg1, gRg2, sFor, tgN, gYes, sAsg, tg2, tg3, sPar, gSl, oSo, oNo, isW, h]
  | dict kv => cases hx
  | _ => simp [h_is_within, s_is_within_0, b_ok, b_err, b_bad, o_ok, o_err, n_ok, sSeq_K, seqK_nx, seqK_rt, seqK_er, v_d, v_Rd, v_Ro, v_Fo, v_Fi, v_Fb, v_Fs, v_Ft, v_Fn, f_o, f_d, a_i, a_b, a_l, a_sl, a_st, l_i, l_b, l_s, l_t, l_n, t_b, t_l, t_t, p_add, p_addT, p_addL, p_sub, p_mul, p_mod, p_div, p_pow, p_lt, p_le, p_gt, p_ge, p_min, p_max, p_lenL, p_lenT, p_tupL, p_tupT, p_lstL, p_lstT, p_ixL, p_ixT, p_slL, p_slT, p_eq, p_ne, p_isN, p_isNotN, r_1, r_2, c_k, c_j, i_non, i_bl, i_int, i_str, i_lst, i_tup, gTup_b, gLst_b, mkT_ok, mkL_ok, sap, sit, itK_ok, sex, exK_ok, sre, reK_ok, p_srtL, p_srtT, p_sumL, p_sumT, rs_rt, rs_nx, rs_er, p_inT, p_ninT, p_inL, shp_i, shp_b, shp_n, shp_T, shp_L, eqv_T, eqv_I, sIf, sRet, sSet, sSetO, sDrop, sNext, sRaise, sFrz, gTest, gBin, gUn, gC, gNl, gB, gAnd, gOr, gNot, gIf, gTru, aNil, aCons, gCall, gChain, gIsi, gSeq, gRg1, gRg2, sFor, tgN, gYes, sAsg, tg2, tg3, sPar, gSl, oSo, oNo, isW]
def srt : List Int → Bool
  | a :: b :: r => decide (a ≤ b) && srt (b :: r)
  | _ => true
theorem srt_iff : ∀ xs : List Int, srt xs = true ↔ xs.Pairwise (· ≤ ·)
  | [] => by simp [srt]
  | [a] => by simp [srt]
  | a :: b :: r => by
    rw [srt, Bool.and_eq_true, srt_iff (b :: r), decide_eq_true_eq, List.pairwise_cons (l := b :: r)]
    constructor
    · rintro ⟨h1, h2⟩
      refine ⟨fun x hx => ?_, h2⟩
      rcases List.mem_cons.mp hx with rfl | hx
      · exact h1
      · exact Int.le_trans h1 ((List.pairwise_cons.mp h2).1 x hx)
    · rintro ⟨h1, h2⟩
      exact ⟨h1 b List.mem_cons_self, h2⟩
def gtP : PyData → Bool
  | .tuple [.int a, .int b] => decide (b < a)
  | _ => false
theorem zip_srt : ∀ xs : List Int, ((zipD (xs.map PyData.int) (xs.map PyData.int).tail).filter gtP).isEmpty = srt xs
  | [] => rfl
  | [a] => rfl
  | a :: b :: r => by
    have ih := zip_srt (b :: r)
    have e : zipD ((a :: b :: r).map PyData.int) ((a :: b :: r).map PyData.int).tail = .tuple [.int a, .int b] :: zipD ((b :: r).map PyData.int) ((b :: r).map PyData.int).tail := rfl
    rw [e, srt]
    by_cases h : b < a
    · rw [List.filter_cons_of_pos (by simp [gtP, h])]
      have : ¬ a ≤ b := by omega
      simp [this]
    · rw [List.filter_cons_of_neg (by simp [gtP, h]), ih]
      have : a ≤ b := by omega
      simp [this]
theorem zipD_mem {xs ys : List Int} {d : PyData} (h : d ∈ zipD (xs.map PyData.int) (ys.map PyData.int)) : ∃ a b, d = .tuple [.int a, .int b] := by
  obtain ⟨i, hi, e⟩ := List.mem_iff_getElem.mp h
  obtain ⟨x, y, hx, hy, rfl⟩ := zipD_get (i := i) (d := d) (by rw [List.getElem?_eq_getElem hi, e])
  rw [List.getElem?_map] at hx hy
  cases e1 : xs[i]? with
  | none => rw [e1] at hx; cases hx
  | some a =>
    cases e2 : ys[i]? with
    | none => rw [e2] at hy; cases hy
    | some b =>
      rw [e1] at hx; rw [e2] at hy
      cases hx; cases hy
      exact ⟨a, b, rfl⟩
theorem cut_tail {α : Type} (ds : List α) : cutD ds (some 1) none = ds.tail := by
  unfold cutD
  have e : HT.sIx ds.length 0 (some 1) = min 1 ds.length := HT.sIx_nat ds.length 0 1
  rw [e, HT.sIx_none]
  cases ds with
  | nil => rfl
  | cons a r =>
    rw [List.length_cons, Nat.min_eq_left (by omega)]
    simp
def isR (ds : List PyData) (many most : Int) : Bool := decide (1 ≤ ds.length ∧ (ds.length : Int) ≤ many) && (ds.all (isW · 1 most) && (match asInts ds with
  | some xs => srt xs
  | none => false))
theorem all_isW : ∀ {ds : List PyData} {most : Int}, ds.all (isW · 1 most) = true → ∃ xs : List Int, ds = xs.map PyData.int ∧ ∀ x ∈ xs, 1 ≤ x ∧ x ≤ most
  | [], _, _ => ⟨[], rfl, fun x h => nomatch h⟩
  | d :: ds, most, h => by
    rw [List.all_cons, Bool.and_eq_true] at h
    obtain ⟨xs, rfl, hx⟩ := all_isW h.2
    cases d with
    | int i =>
      have hi := h.1
      simp [isW] at hi
      refine ⟨i :: xs, rfl, fun x hx' => ?_⟩
      rcases List.mem_cons.mp hx' with rfl | hx'
      · exact hi
      · exact hx x hx'
    | _ => exact absurd h.1 (by simp [isW])
theorem isW_ints {xs : List Int} {most : Int} : (xs.map PyData.int).all (isW · 1 most) = true ↔ ∀ x ∈ xs, 1 ≤ x ∧ x ≤ most := by
  rw [List.all_map, List.all_eq_true]
  simp [isW]
theorem rising_tup {ds : List PyData} (hn : ds.all nd = true) (hl : ds.length ≤ 100000) (many most : Int) : m_is_rising [.tuple ds, .int many, .int most] = .ok (.bool (isR ds many most)) := by
  show (h_is_rising [some (.d (.tuple ds)), some (.d (.int many)), some (.d (.int most)), none, none]).rs = _
  unfold h_is_rising isR
  by_cases h1 : 1 ≤ ds.length
  · by_cases h2 : (ds.length : Int) ≤ many
    · have e0 : s_is_rising_0 [some (.d (.tuple ds)), some (.d (.int many)), some (.d (.int most)), none, none] = .nx [some (.d (.tuple ds)), some (.d (.int many)), some (.d (.int most)), none, none] := by
        have h1' : (1 : Int) ≤ ds.length := by omega
        simp [s_is_rising_0, b_ok, b_err, b_bad, o_ok, o_err, n_ok, sSeq_K, seqK_nx, seqK_rt, seqK_er, v_d, v_Rd, v_Ro, v_Fo, v_Fi, v_Fb, v_Fs, v_Ft, v_Fn, f_o, f_d, a_i, a_b, a_l, a_sl, a_st, l_i, l_b, l_s, l_t, l_n, t_b, t_l, t_t, p_add, p_addT, p_addL, p_sub, p_mul, p_mod, p_div, p_pow, p_lt, p_le, p_gt, p_ge, p_min, p_max, p_lenL, p_lenT, p_tupL, p_tupT, p_lstL, p_lstT, p_ixL, p_ixT, p_slL, p_slT, p_eq, p_ne, p_isN, p_isNotN, r_1, r_2, c_k, c_j, i_non, i_bl, i_int, i_str, i_lst, i_tup, gTup_b, gLst_b, mkT_ok, mkL_ok, sap, sit, itK_ok, sex, exK_ok, sre, reK_ok, p_srtL, p_srtT, p_sumL, p_sumT, rs_rt, rs_nx, rs_er, p_inT, p_ninT, p_inL, shp_i, shp_b, shp_n, shp_T, shp_L, eqv_T, eqv_I, sIf, sRet, sSet, sSetO, sDrop, sNext, sRaise, sFrz, gTest, gBin, gUn, gC, gNl, gB, gAnd, gOr, gNot, gIf, gTru, aNil, aCons, gCall, gChain, gIsi, gSeq, gRg1, gRg2, sFor, tgN, gYes, sAsg, tg2, tg3, sPar, gSl, oSo, oNo, h2, h1']
      rw [q_nx e0]
      have e1 : gLc [3] (gSeq (gVar 0)) (tgN 3) (gNot (gTru (gCall m_is_within (aCons (gVar 3) (aCons (gC (.int 1)) (aCons (gVar 2) aNil)))))) (gVar 3) [some (.d (.tuple ds)), some (.d (.int many)), some (.d (.int most)), none, none] = .ok (.list ((ds.filter fun d => !isW d 1 most).map id)) := by
        refine gLc_eq _ _ rfl hl fun d hd => ⟨_, rfl, ?_, fun _ => rfl⟩
        have hd' := within_ok (List.all_eq_true.mp hn d hd) 1 most
        simp [b_ok, b_err, b_bad, o_ok, o_err, n_ok, sSeq_K, seqK_nx, seqK_rt, seqK_er, v_d, v_Rd, v_Ro, v_Fo, v_Fi, v_Fb, v_Fs, v_Ft, v_Fn, f_o, f_d, a_i, a_b, a_l, a_sl, a_st, l_i, l_b, l_s, l_t, l_n, t_b, t_l, t_t, p_add, p_addT, p_addL, p_sub, p_mul, p_mod, p_div, p_pow, p_lt, p_le, p_gt, p_ge, p_min, p_max, p_lenL, p_lenT, p_tupL, p_tupT, p_lstL, p_lstT, p_ixL, p_ixT, p_slL, p_slT, p_eq, p_ne, p_isN, p_isNotN, r_1, r_2, c_k, c_j, i_non, i_bl, i_int, i_str, i_lst, i_tup, gTup_b, gLst_b, mkT_ok, mkL_ok, sap, sit, itK_ok, sex, exK_ok, sre, reK_ok, p_srtL, p_srtT, p_sumL, p_sumT, rs_rt, rs_nx, rs_er, p_inT, p_ninT, p_inL, shp_i, shp_b, shp_n, shp_T, shp_L, eqv_T, eqv_I, sIf, sRet, sSet, sSetO, sDrop, sNext, sRaise, sFrz, gTest, gBin, gUn, gC, gNl, gB, gAnd, gOr, gNot, gIf, gTru, aNil, aCons, gCall, gChain, gIsi, gSeq, gRg1, gRg2, sFor, tgN, gYes, sAsg, tg2, tg3, sPar, gSl, oSo, oNo, wipeS, hd']
      by_cases h3 : ds.all (isW · 1 most) = true
      · obtain ⟨xs, rfl, hx⟩ := all_isW h3
        have e2 : ((xs.map PyData.int).filter fun d => !isW d 1 most) = [] := by
          rw [List.filter_eq_nil_iff]
          intro d hd
          rw [List.all_eq_true.mp h3 d hd]
          exact Bool.false_ne_true
        rw [e2] at e1
        have e3 : s_is_rising_1 [some (.d (.tuple (xs.map PyData.int))), some (.d (.int many)), some (.d (.int most)), none, none] = .nx [some (.d (.tuple (xs.map PyData.int))), some (.d (.int many)), some (.d (.int most)), none, none] := by
          simp [s_is_rising_1, b_ok, b_err, b_bad, o_ok, o_err, n_ok, sSeq_K, seqK_nx, seqK_rt, seqK_er, v_d, v_Rd, v_Ro, v_Fo, v_Fi, v_Fb, v_Fs, v_Ft, v_Fn, f_o, f_d, a_i, a_b, a_l, a_sl, a_st, l_i, l_b, l_s, l_t, l_n, t_b, t_l, t_t, p_add, p_addT, p_addL, p_sub, p_mul, p_mod, p_div, p_pow, p_lt, p_le, p_gt, p_ge, p_min, p_max, p_lenL, p_lenT, p_tupL, p_tupT, p_lstL, p_lstT, p_ixL, p_ixT, p_slL, p_slT, p_eq, p_ne, p_isN, p_isNotN, r_1, r_2, c_k, c_j, i_non, i_bl, i_int, i_str, i_lst, i_tup, gTup_b, gLst_b, mkT_ok, mkL_ok, sap, sit, itK_ok, sex, exK_ok, sre, reK_ok, p_srtL, p_srtT, p_sumL, p_sumT, rs_rt, rs_nx, rs_er, p_inT, p_ninT, p_inL, shp_i, shp_b, shp_n, shp_T, shp_L, eqv_T, eqv_I, sIf, sRet, sSet, sSetO, sDrop, sNext, sRaise, sFrz, gTest, gBin, gUn, gC, gNl, gB, gAnd, gOr, gNot, gIf, gTru, aNil, aCons, gCall, gChain, gIsi, gSeq, gRg1, gRg2, sFor, tgN, gYes, sAsg, tg2, tg3, sPar, gSl, oSo, oNo, e1]
        rw [q_nx e3]
        have e4 : gLc [3, 4] (gZip (gVar 0) (gSl (gVar 0) (oSo (gC (.int 1))) oNo)) (tg2 3 4) (gTest (gBin pGt (gVar 3) (gVar 4))) (gC (.int 1)) [some (.d (.tuple (xs.map PyData.int))), some (.d (.int many)), some (.d (.int most)), none, none] = .ok (.list (((zipD (xs.map PyData.int) (xs.map PyData.int).tail).filter gtP).map fun _ => .int 1)) := by
          refine gLc_eq _ _ ?_ ?_ fun d hd => ?_
          · show Rs.ok (zipD (xs.map PyData.int) (cutD (xs.map PyData.int) (some 1) none)) = _
            rw [cut_tail]
          · rw [zipD_len]; omega
          · rw [← List.map_tail] at hd
            obtain ⟨a, b, rfl⟩ := zipD_mem hd
            exact ⟨_, rfl, rfl, fun _ => rfl⟩
        have e5 := zip_srt xs
        rw [List.length_map] at h1 h2
        simp [s_is_rising_2, b_ok, b_err, b_bad, o_ok, o_err, n_ok, sSeq_K, seqK_nx, seqK_rt, seqK_er, v_d, v_Rd, v_Ro, v_Fo, v_Fi, v_Fb, v_Fs, v_Ft, v_Fn, f_o, f_d, a_i, a_b, a_l, a_sl, a_st, l_i, l_b, l_s, l_t, l_n, t_b, t_l, t_t, p_add, p_addT, p_addL, p_sub, p_mul, p_mod, p_div, p_pow, p_lt, p_le, p_gt, p_ge, p_min, p_max, p_lenL, p_lenT, p_tupL, p_tupT, p_lstL, p_lstT, p_ixL, p_ixT, p_slL, p_slT, p_eq, p_ne, p_isN, p_isNotN, r_1, r_2, c_k, c_j, i_non, i_bl, i_int, i_str, i_lst, i_tup, gTup_b, gLst_b, mkT_ok, mkL_ok, sap, sit, itK_ok, sex, exK_ok, sre, reK_ok, p_srtL, p_srtT, p_sumL, p_sumT, rs_rt, rs_nx, rs_er, p_inT, p_ninT, p_inL, shp_i, shp_b, shp_n, shp_T, shp_L, eqv_T, eqv_I, sIf, sRet, sSet, sSetO, sDrop, sNext, sRaise, sFrz, gTest, gBin, gUn, gC, gNl, gB, gAnd, gOr, gNot, gIf, gTru, aNil, aCons, gCall, gChain, gIsi, gSeq, gRg1, gRg2, sFor, tgN, gYes, sAsg, tg2, tg3, sPar, gSl, oSo, oNo, e4, asInts_ints, h1, h2, h3, e5, isW_ints.mp h3]
      · obtain ⟨d, hd, hw⟩ : ∃ d ∈ ds, isW d 1 most = false := by
          rw [List.all_eq_true] at h3
          simpa using h3
        have ne : ((ds.filter fun d => !isW d 1 most).map id).isEmpty = false := by
          rw [List.map_id, List.isEmpty_eq_false_iff_exists_mem]
          exact ⟨d, List.mem_filter.mpr ⟨hd, by rw [hw]; rfl⟩⟩
        have e3 : s_is_rising_1 [some (.d (.tuple ds)), some (.d (.int many)), some (.d (.int most)), none, none] = .rt (.bool false) := by
          simp only [s_is_rising_1, b_ok, b_err, b_bad, o_ok, o_err, n_ok, sSeq_K, seqK_nx, seqK_rt, seqK_er, v_d, v_Rd, v_Ro, v_Fo, v_Fi, v_Fb, v_Fs, v_Ft, v_Fn, f_o, f_d, a_i, a_b, a_l, a_sl, a_st, l_i, l_b, l_s, l_t, l_n, t_b, t_l, t_t, p_add, p_addT, p_addL, p_sub, p_mul, p_mod, p_div, p_pow, p_lt, p_le, p_gt, p_ge, p_min, p_max, p_lenL, p_lenT, p_tupL, p_tupT, p_lstL, p_lstT, p_ixL, p_ixT, p_slL, p_slT, p_eq, p_ne, p_isN, p_isNotN, r_1, r_2, c_k, c_j, i_non, i_bl, i_int, i_str, i_lst, i_tup, gTup_b, gLst_b, mkT_ok, mkL_ok, sap, sit, itK_ok, sex, exK_ok, sre, reK_ok, p_srtL, p_srtT, p_sumL, p_sumT, rs_rt, rs_nx, rs_er, p_inT, p_ninT, p_inL, shp_i, shp_b, shp_n, shp_T, shp_L, eqv_T, eqv_I, sIf, sRet, sSet, sSetO, sDrop, sNext, sRaise, sFrz, gTest, gBin, gUn, gC, gNl, gB, gAnd, gOr, gNot, gIf, gTru, aNil, aCons, gCall, gChain, gIsi, gSeq, gRg1, gRg2, sFor, tgN, gYes, sAsg, tg2, tg3, sPar, gSl, oSo, oNo, e1, ne]
          rfl
        rw [q_rt e3]
        simp only [Bool.not_eq_true] at h3
        simp [h3, b_ok, b_err, b_bad, o_ok, o_err, n_ok, sSeq_K, seqK_nx, seqK_rt, seqK_er, v_d, v_Rd, v_Ro, v_Fo, v_Fi, v_Fb, v_Fs, v_Ft, v_Fn, f_o, f_d, a_i, a_b, a_l, a_sl, a_st, l_i, l_b, l_s, l_t, l_n, t_b, t_l, t_t, p_add, p_addT, p_addL, p_sub, p_mul, p_mod, p_div, p_pow, p_lt, p_le, p_gt, p_ge, p_min, p_max, p_lenL, p_lenT, p_tupL, p_tupT, p_lstL, p_lstT, p_ixL, p_ixT, p_slL, p_slT, p_eq, p_ne, p_isN, p_isNotN, r_1, r_2, c_k, c_j, i_non, i_bl, i_int, i_str, i_lst, i_tup, gTup_b, gLst_b, mkT_ok, mkL_ok, sap, sit, itK_ok, sex, exK_ok, sre, reK_ok, p_srtL, p_srtT, p_sumL, p_sumT, rs_rt, rs_nx, rs_er, p_inT, p_ninT, p_inL, shp_i, shp_b, shp_n, shp_T, shp_L, eqv_T, eqv_I, sIf, sRet, sSet, sSetO, sDrop, sNext, sRaise, sFrz, gTest, gBin, gUn, gC, gNl, gB, gAnd, gOr, gNot, gIf, gTru, aNil, aCons, gCall, gChain, gIsi, gSeq, gRg1, gRg2, sFor, tgN, gYes, sAsg, tg2, tg3, sPar, gSl, oSo, oNo]
    · have e0 : s_is_rising_0 [some (.d (.tuple ds)), some (.d (.int many)), some (.d (.int most)), none, none] = .rt (.bool false) := by
        simp [s_is_rising_0, b_ok, b_err, b_bad, o_ok, o_err, n_ok, sSeq_K, seqK_nx, seqK_rt, seqK_er, v_d, v_Rd, v_Ro, v_Fo, v_Fi, v_Fb, v_Fs, v_Ft, v_Fn, f_o, f_d, a_i, a_b, a_l, a_sl, a_st, l_i, l_b, l_s, l_t, l_n, t_b, t_l, t_t, p_add, p_addT, p_addL, p_sub, p_mul, p_mod, p_div, p_pow, p_lt, p_le, p_gt, p_ge, p_min, p_max, p_lenL, p_lenT, p_tupL, p_tupT, p_lstL, p_lstT, p_ixL, p_ixT, p_slL, p_slT, p_eq, p_ne, p_isN, p_isNotN, r_1, r_2, c_k, c_j, i_non, i_bl, i_int, i_str, i_lst, i_tup, gTup_b, gLst_b, mkT_ok, mkL_ok, sap, sit, itK_ok, sex, exK_ok, sre, reK_ok, p_srtL, p_srtT, p_sumL, p_sumT, rs_rt, rs_nx, rs_er, p_inT, p_ninT, p_inL, shp_i, shp_b, shp_n, shp_T, shp_L, eqv_T, eqv_I, sIf, sRet, sSet, sSetO, sDrop, sNext, sRaise, sFrz, gTest, gBin, gUn, gC, gNl, gB, gAnd, gOr, gNot, gIf, gTru, aNil, aCons, gCall, gChain, gIsi, gSeq, gRg1, gRg2, sFor, tgN, gYes, sAsg, tg2, tg3, sPar, gSl, oSo, oNo, h2]
      rw [q_rt e0]
      simp [h2, b_ok, b_err, b_bad, o_ok, o_err, n_ok, sSeq_K, seqK_nx, seqK_rt, seqK_er, v_d, v_Rd, v_Ro, v_Fo, v_Fi, v_Fb, v_Fs, v_Ft, v_Fn, f_o, f_d, a_i, a_b, a_l, a_sl, a_st, l_i, l_b, l_s, l_t, l_n, t_b, t_l, t_t, p_add, p_addT, p_addL, p_sub, p_mul, p_mod, p_div, p_pow, p_lt, p_le, p_gt, p_ge, p_min, p_max, p_lenL, p_lenT, p_tupL, p_tupT, p_lstL, p_lstT, p_ixL, p_ixT, p_slL, p_slT, p_eq, p_ne, p_isN, p_isNotN, r_1, r_2, c_k, c_j, i_non, i_bl, i_int, i_str, i_lst, i_tup, gTup_b, gLst_b, mkT_ok, mkL_ok, sap, sit, itK_ok, sex, exK_ok, sre, reK_ok, p_srtL, p_srtT, p_sumL, p_sumT, rs_rt, rs_nx, rs_er, p_inT, p_ninT, p_inL, shp_i, shp_b, shp_n, shp_T, shp_L, eqv_T, eqv_I, sIf, sRet, sSet, sSetO, sDrop, sNext, sRaise, sFrz, gTest, gBin, gUn, gC, gNl, gB, gAnd, gOr, gNot, gIf, gTru, aNil, aCons, gCall, gChain, gIsi, gSeq, gRg1, gRg2, sFor, tgN, gYes, sAsg, tg2, tg3, sPar, gSl, oSo, oNo]
  · have e0 : s_is_rising_0 [some (.d (.tuple ds)), some (.d (.int many)), some (.d (.int most)), none, none] = .rt (.bool false) := by
      have : ds = [] := List.eq_nil_of_length_eq_zero (by omega)
      subst this
      simp [s_is_rising_0, b_ok, b_err, b_bad, o_ok, o_err, n_ok, sSeq_K, seqK_nx, seqK_rt, seqK_er, v_d, v_Rd, v_Ro, v_Fo, v_Fi, v_Fb, v_Fs, v_Ft, v_Fn, f_o, f_d, a_i, a_b, a_l, a_sl, a_st, l_i, l_b, l_s, l_t, l_n, t_b, t_l, t_t, p_add, p_addT, p_addL, p_sub, p_mul, p_mod, p_div, p_pow, p_lt, p_le, p_gt, p_ge, p_min, p_max, p_lenL, p_lenT, p_tupL, p_tupT, p_lstL, p_lstT, p_ixL, p_ixT, p_slL, p_slT, p_eq, p_ne, p_isN, p_isNotN, r_1, r_2, c_k, c_j, i_non, i_bl, i_int, i_str, i_lst, i_tup, gTup_b, gLst_b, mkT_ok, mkL_ok, sap, sit, itK_ok, sex, exK_ok, sre, reK_ok, p_srtL, p_srtT, p_sumL, p_sumT, rs_rt, rs_nx, rs_er, p_inT, p_ninT, p_inL, shp_i, shp_b, shp_n, shp_T, shp_L, eqv_T, eqv_I, sIf, sRet, sSet, sSetO, sDrop, sNext, sRaise, sFrz, gTest, gBin, gUn, gC, gNl, gB, gAnd, gOr, gNot, gIf, gTru, aNil, aCons, gCall, gChain, gIsi, gSeq, gRg1, gRg2, sFor, tgN, gYes, sAsg, tg2, tg3, sPar, gSl, oSo, oNo]
    rw [q_rt e0]
    simp [h1, b_ok, b_err, b_bad, o_ok, o_err, n_ok, sSeq_K, seqK_nx, seqK_rt, seqK_er, v_d, v_Rd, v_Ro, v_Fo, v_Fi, v_Fb, v_Fs, v_Ft, v_Fn, f_o, f_d, a_i, a_b, a_l, a_sl, a_st, l_i, l_b, l_s, l_t, l_n, t_b, t_l, t_t, p_add, p_addT, p_addL, p_sub, p_mul, p_mod, p_div, p_pow, p_lt, p_le, p_gt, p_ge, p_min, p_max, p_lenL, p_lenT, p_tupL, p_tupT, p_lstL, p_lstT, p_ixL, p_ixT, p_slL, p_slT, p_eq, p_ne, p_isN, p_isNotN, r_1, r_2, c_k, c_j, i_non, i_bl, i_int, i_str, i_lst, i_tup, gTup_b, gLst_b, mkT_ok, mkL_ok, sap, sit, itK_ok, sex, exK_ok, sre, reK_ok, p_srtL, p_srtT, p_sumL, p_sumT, rs_rt, rs_nx, rs_er, p_inT, p_ninT, p_inL, shp_i, shp_b, shp_n, shp_T, shp_L, eqv_T, eqv_I, sIf, sRet, sSet, sSetO, sDrop, sNext, sRaise, sFrz, gTest, gBin, gUn, gC, gNl, gB, gAnd, gOr, gNot, gIf, gTru, aNil, aCons, gCall, gChain, gIsi, gSeq, gRg1, gRg2, sFor, tgN, gYes, sAsg, tg2, tg3, sPar, gSl, oSo, oNo]
def notT : PyData → Bool
  | .tuple _ => false
  | .dict _ => false
  | _ => true
theorem rising_no {x : PyData} (hx : notT x = true) (many most : Int) : m_is_rising [x, .int many, .int most] = .ok (.bool false) := by
  show (h_is_rising [some (.d x), some (.d (.int many)), some (.d (.int most)), none, none]).rs = _
  unfold h_is_rising
  have e0 : s_is_rising_0 [some (.d x), some (.d (.int many)), some (.d (.int most)), none, none] = .rt (.bool false) := by
    cases x with
    | tuple ds => cases hx
    | dict kv => cases hx
    | _ => simp [s_is_rising_0, b_ok, b_err, b_bad, o_ok, o_err, n_ok, sSeq_K, seqK_nx, seqK_rt, seqK_er, v_d, v_Rd, v_Ro, v_Fo, v_Fi, v_Fb, v_Fs, v_Ft, v_Fn, f_o, f_d, a_i, a_b, a_l, a_sl, a_st, l_i, l_b, l_s, l_t, l_n, t_b, t_l, t_t, p_add, p_addT, p_addL, p_sub, p_mul, p_mod, p_div, p_pow, p_lt, p_le, p_gt, p_ge, p_min, p_max, p_lenL, p_lenT, p_tupL, p_tupT, p_lstL, p_lstT, p_ixL, p_ixT, p_slL, p_slT, p_eq, p_ne, p_isN, p_isNotN, r_1, r_2, c_k, c_j, i_non, i_bl, i_int, i_str, i_lst, i_tup, gTup_b, gLst_b, mkT_ok, mkL_ok, sap, sit, itK_ok, sex, exK_ok, sre, reK_ok, p_srtL, p_srtT, p_sumL, p_sumT, rs_rt, rs_nx, rs_er, p_inT, p_ninT, p_inL, shp_i, shp_b, shp_n, shp_T, shp_L, eqv_T, eqv_I, sIf, sRet, sSet, sSetO, sDrop, sNext, sRaise, sFrz, gTest, gBin, gUn, gC, gNl, gB, gAnd, gOr, gNot, gIf, gTru, aNil, aCons, gCall, gChain, gIsi, gSeq, gRg1, gRg2, sFor, tgN, gYes, sAsg, tg2, tg3, sPar, gSl, oSo, oNo]
  rw [q_rt e0]
  rfl
theorem isR_ints {xs : List Int} {many most : Int} : isR (xs.map PyData.int) many most = true ↔ (1 ≤ xs.length ∧ (xs.length : Int) ≤ many) ∧ (∀ x ∈ xs, 1 ≤ x ∧ x ≤ most) ∧ xs.Pairwise (· ≤ ·) := by
  unfold isR
  rw [asInts_ints]
  simp only [Bool.and_eq_true, decide_eq_true_eq, isW_ints, srt_iff, List.length_map]
theorem nd_ints (xs : List Int) : (xs.map PyData.int).all nd = true := by
  rw [List.all_map, List.all_eq_true]; intro x _; rfl
end SBL

namespace SBL
open PySem SB
/-! ### pieces -/
structure PcOk (xs : List Int) : Prop where
  one : 1 ≤ xs.length
  len : xs.length ≤ 13
  rng : ∀ x ∈ xs, 1 ≤ x ∧ x ≤ 99
  srt : xs.Pairwise (· ≤ ·)
theorem pieces_yes {xs : List Int} (h : PcOk xs) : m_are_pieces [.tuple (xs.map PyData.int)] = .ok (.bool true) := by
  show (h_are_pieces [some (.d (.tuple (xs.map PyData.int)))]).rs = _
  have e := rising_tup (nd_ints xs) (by rw [List.length_map]; have := h.len; omega) 13 99
  have e2 : isR (xs.map PyData.int) 13 99 = true := isR_ints.mpr ⟨⟨h.one, by have := h.len; omega⟩, h.rng, h.srt⟩
  rw [e2] at e
  simp [h_are_pieces, s_are_pieces_0, b_ok, b_err, b_bad, o_ok, o_err, n_ok, sSeq_K, seqK_nx, seqK_rt, seqK_er, v_d, v_Rd, v_Ro, v_Fo, v_Fi, v_Fb, v_Fs, v_Ft, v_Fn, f_o, f_d, a_i, a_b, a_l, a_sl, a_st, l_i, l_b, l_s, l_t, l_n, t_b, t_l, t_t, p_add, p_addT, p_addL, p_sub, p_mul, p_mod, p_div, p_pow, p_lt, p_le, p_gt, p_ge, p_min, p_max, p_lenL, p_lenT, p_tupL, p_tupT, p_lstL, p_lstT, p_ixL, p_ixT, p_slL, p_slT, p_eq, p_ne, p_isN, p_isNotN, r_1, r_2, c_k, c_j, i_non, i_bl, i_int, i_str, i_lst, i_tup, gTup_b, gLst_b, mkT_ok, mkL_ok, sap, sit, itK_ok, sex, exK_ok, sre, reK_ok, p_srtL, p_srtT, p_sumL, p_sumT, rs_rt, rs_nx, rs_er, p_inT, p_ninT, p_inL, shp_i, shp_b, shp_n, shp_T, shp_L, eqv_T, eqv_I, sIf, sRet, sSet, sSetO, sDrop, sNext, sRaise, sFrz, gTest, gBin, gUn, gC, gNl, gB, gAnd, gOr, gNot, gIf, gTru, aNil, aCons, gCall, gChain, gIsi, gSeq, gRg1, gRg2, sFor, tgN, gYes, sAsg, tg2, tg3, sPar, gSl, oSo, oNo, e]
theorem look_yes {xs : List Int} (h : PcOk xs) : m_look_pieces [.tuple (xs.map PyData.int)] = .ok .none := by
  show (h_look_pieces [some (.d (.tuple (xs.map PyData.int)))]).rs = _
  simp [h_look_pieces, s_look_pieces_0, b_ok, b_err, b_bad, o_ok, o_err, n_ok, sSeq_K, seqK_nx, seqK_rt, seqK_er, v_d, v_Rd, v_Ro, v_Fo, v_Fi, v_Fb, v_Fs, v_Ft, v_Fn, f_o, f_d, a_i, a_b, a_l, a_sl, a_st, l_i, l_b, l_s, l_t, l_n, t_b, t_l, t_t, p_add, p_addT, p_addL, p_sub, p_mul, p_mod, p_div, p_pow, p_lt, p_le, p_gt, p_ge, p_min, p_max, p_lenL, p_lenT, p_tupL, p_tupT, p_lstL, p_lstT, p_ixL, p_ixT, p_slL, p_slT, p_eq, p_ne, p_isN, p_isNotN, r_1, r_2, c_k, c_j, i_non, i_bl, i_int, i_str, i_lst, i_tup, gTup_b, gLst_b, mkT_ok, mkL_ok, sap, sit, itK_ok, sex, exK_ok, sre, reK_ok, p_srtL, p_srtT, p_sumL, p_sumT, rs_rt, rs_nx, rs_er, p_inT, p_ninT, p_inL, shp_i, shp_b, shp_n, shp_T, shp_L, eqv_T, eqv_I, sIf, sRet, sSet, sSetO, sDrop, sNext, sRaise, sFrz, gTest, gBin, gUn, gC, gNl, gB, gAnd, gOr, gNot, gIf, gTru, aNil, aCons, gCall, gChain, gIsi, gSeq, gRg1, gRg2, sFor, tgN, gYes, sAsg, tg2, tg3, sPar, gSl, oSo, oNo, pieces_yes h]
theorem look_no {x : PyData} (h : m_is_rising [x, .int 13, .int 99] = .ok (.bool false)) : m_look_pieces [x] = .err 2 none := by
  show (h_look_pieces [some (.d x)]).rs = _
  have e : m_are_pieces [x] = .ok (.bool false) := by
    show (h_are_pieces [some (.d x)]).rs = _
    simp [h_are_pieces, s_are_pieces_0, b_ok, b_err, b_bad, o_ok, o_err, n_ok, sSeq_K, seqK_nx, seqK_rt, seqK_er, v_d, v_Rd, v_Ro, v_Fo, v_Fi, v_Fb, v_Fs, v_Ft, v_Fn, f_o, f_d, a_i, a_b, a_l, a_sl, a_st, l_i, l_b, l_s, l_t, l_n, t_b, t_l, t_t, p_add, p_addT, p_addL, p_sub, p_mul, p_mod, p_div, p_pow, p_lt, p_le, p_gt, p_ge, p_min, p_max, p_lenL, p_lenT, p_tupL, p_tupT, p_lstL, p_lstT, p_ixL, p_ixT, p_slL, p_slT, p_eq, p_ne, p_isN, p_isNotN, r_1, r_2, c_k, c_j, i_non, i_bl, i_int, i_str, i_lst, i_tup, gTup_b, gLst_b, mkT_ok, mkL_ok, sap, sit, itK_ok, sex, exK_ok, sre, reK_ok, p_srtL, p_srtT, p_sumL, p_sumT, rs_rt, rs_nx, rs_er, p_inT, p_ninT, p_inL, shp_i, shp_b, shp_n, shp_T, shp_L, eqv_T, eqv_I, sIf, sRet, sSet, sSetO, sDrop, sNext, sRaise, sFrz, gTest, gBin, gUn, gC, gNl, gB, gAnd, gOr, gNot, gIf, gTru, aNil, aCons, gCall, gChain, gIsi, gSeq, gRg1, gRg2, sFor, tgN, gYes, sAsg, tg2, tg3, sPar, gSl, oSo, oNo, h]
  simp [h_look_pieces, s_look_pieces_0, b_ok, b_err, b_bad, o_ok, o_err, n_ok, sSeq_K, seqK_nx, seqK_rt, seqK_er, v_d, v_Rd, v_Ro, v_Fo, v_Fi, v_Fb, v_Fs, v_Ft, v_Fn, f_o, f_d, a_i, a_b, a_l, a_sl, a_st, l_i, l_b, l_s, l_t, l_n, t_b, t_l, t_t, p_add, p_addT, p_addL, p_sub, p_mul, p_mod, p_div, p_pow, p_lt, p_le, p_gt, p_ge, p_min, p_max, p_lenL, p_lenT, p_tupL, p_tupT, p_lstL, p_lstT, p_ixL, p_ixT, p_slL, p_slT, p_eq, p_ne, p_isN, p_isNotN, r_1, r_2, c_k, c_j, i_non, i_bl, i_int, i_str, i_lst, i_tup, gTup_b, gLst_b, mkT_ok, mkL_ok, sap, sit, itK_ok, sex, exK_ok, sre, reK_ok, p_srtL, p_srtT, p_sumL, p_sumT, rs_rt, rs_nx, rs_er, p_inT, p_ninT, p_inL, shp_i, shp_b, shp_n, shp_T, shp_L, eqv_T, eqv_I, sIf, sRet, sSet, sSetO, sDrop, sNext, sRaise, sFrz, gTest, gBin, gUn, gC, gNl, gB, gAnd, gOr, gNot, gIf, gTru, aNil, aCons, gCall, gChain, gIsi, gSeq, gRg1, gRg2, sFor, tgN, gYes, sAsg, tg2, tg3, sPar, gSl, oSo, oNo, e]
/-! ### with_out -/
def canE : List Int → List Int → Prop
  | _, [] => True
  | ps, g :: gs => g ∈ ps ∧ canE (ps.erase g) gs
def eraseL : List Int → List Int → List Int
  | ps, [] => ps
  | ps, g :: gs => eraseL (ps.erase g) gs
theorem out_loop (P G N : Cl) : ∀ (gs ps : List Int) (t : Option Cl), canE ps gs → ∃ t', forLoop (tgN 4) b_with_out_0 (gs.map PyData.int) [some P, some G, some N, some (.own (ps.map PyData.int)), t] = .nx [some P, some G, some N, some (.own ((eraseL ps gs).map PyData.int)), t']
  | [], ps, t, _ => ⟨t, rfl⟩
  | g :: gs, ps, t, h => by
    obtain ⟨t', ih⟩ := out_loop P G N gs (ps.erase g) (some (.d (.int g))) h.2
    refine ⟨t', ?_⟩
    rw [List.map_cons, forLoop_cons (ρ1 := [some P, some G, some N, some (.own (ps.map PyData.int)), some (.d (.int g))]) rfl]
    have e : b_with_out_0 [some P, some G, some N, some (.own (ps.map PyData.int)), some (.d (.int g))] = .nx [some P, some G, some N, some (.own ((ps.erase g).map PyData.int)), some (.d (.int g))] := by
      unfold b_with_out_0
      rw [sre (xs := ps) rfl]
      simp [b_ok, b_err, b_bad, o_ok, o_err, n_ok, sSeq_K, seqK_nx, seqK_rt, seqK_er, v_d, v_Rd, v_Ro, v_Fo, v_Fi, v_Fb, v_Fs, v_Ft, v_Fn, f_o, f_d, a_i, a_b, a_l, a_sl, a_st, l_i, l_b, l_s, l_t, l_n, t_b, t_l, t_t, p_add, p_addT, p_addL, p_sub, p_mul, p_mod, p_div, p_pow, p_lt, p_le, p_gt, p_ge, p_min, p_max, p_lenL, p_lenT, p_tupL, p_tupT, p_lstL, p_lstT, p_ixL, p_ixT, p_slL, p_slT, p_eq, p_ne, p_isN, p_isNotN, r_1, r_2, c_k, c_j, i_non, i_bl, i_int, i_str, i_lst, i_tup, gTup_b, gLst_b, mkT_ok, mkL_ok, sap, sit, itK_ok, sex, exK_ok, sre, reK_ok, p_srtL, p_srtT, p_sumL, p_sumT, rs_rt, rs_nx, rs_er, p_inT, p_ninT, p_inL, shp_i, shp_b, shp_n, shp_T, shp_L, eqv_T, eqv_I, sIf, sRet, sSet, sSetO, sDrop, sNext, sRaise, sFrz, gTest, gBin, gUn, gC, gNl, gB, gAnd, gOr, gNot, gIf, gTru, aNil, aCons, gCall, gChain, gIsi, gSeq, gRg1, gRg2, sFor, tgN, gYes, sAsg, tg2, tg3, sPar, gSl, oSo, oNo, h.1]
    rw [e]
    exact ih
theorem out_ok {ps gs ns : List Int} (h : canE ps gs) (hl : ps.length + ns.length ≤ 100000) (hlE : (eraseL ps gs).length ≤ ps.length) : m_with_out [.tuple (ps.map PyData.int), .list (gs.map PyData.int), .list (ns.map PyData.int)] = .ok (.tuple ((sortI (eraseL ps gs ++ ns)).map PyData.int)) := by
  show (h_with_out [some (.d (.tuple (ps.map PyData.int))), some (.d (.list (gs.map PyData.int))), some (.d (.list (ns.map PyData.int))), none, none]).rs = _
  obtain ⟨t', e⟩ := out_loop (.d (.tuple (ps.map PyData.int))) (.d (.list (gs.map PyData.int))) (.d (.list (ns.map PyData.int))) gs ps none h
  unfold h_with_out
  rw [q_nx (a := s_with_out_0) (ρ' := [some (.d (.tuple (ps.map PyData.int))), some (.d (.list (gs.map PyData.int))), some (.d (.list (ns.map PyData.int))), some (.own (ps.map PyData.int)), none]) rfl,
    q_nx (a := s_with_out_1) (ρ := [some (.d (.tuple (ps.map PyData.int))), some (.d (.list (gs.map PyData.int))), some (.d (.list (ns.map PyData.int))), some (.own (ps.map PyData.int)), none]) (ρ' := [some (.d (.tuple (ps.map PyData.int))), some (.d (.list (gs.map PyData.int))), some (.d (.list (ns.map PyData.int))), some (.own ((eraseL ps gs).map PyData.int)), t']) e]
  have h3 : (eraseL ps gs).length + ns.length ≤ 100000 := by omega
  have e2 := p_srtL (xs := eraseL ps gs ++ ns)
  rw [List.map_append] at e2
  simp [s_with_out_2, b_ok, b_err, b_bad, o_ok, o_err, n_ok, sSeq_K, seqK_nx, seqK_rt, seqK_er, v_d, v_Rd, v_Ro, v_Fo, v_Fi, v_Fb, v_Fs, v_Ft, v_Fn, f_o, f_d, a_i, a_b, a_l, a_sl, a_st, l_i, l_b, l_s, l_t, l_n, t_b, t_l, t_t, p_add, p_addT, p_addL, p_sub, p_mul, p_mod, p_div, p_pow, p_lt, p_le, p_gt, p_ge, p_min, p_max, p_lenL, p_lenT, p_tupL, p_tupT, p_lstL, p_lstT, p_ixL, p_ixT, p_slL, p_slT, p_eq, p_ne, p_isN, p_isNotN, r_1, r_2, c_k, c_j, i_non, i_bl, i_int, i_str, i_lst, i_tup, gTup_b, gLst_b, mkT_ok, mkL_ok, sap, sit, itK_ok, sex, exK_ok, sre, reK_ok, p_srtL, p_srtT, p_sumL, p_sumT, rs_rt, rs_nx, rs_er, p_inT, p_ninT, p_inL, shp_i, shp_b, shp_n, shp_T, shp_L, eqv_T, eqv_I, sIf, sRet, sSet, sSetO, sDrop, sNext, sRaise, sFrz, gTest, gBin, gUn, gC, gNl, gB, gAnd, gOr, gNot, gIf, gTru, aNil, aCons, gCall, gChain, gIsi, gSeq, gRg1, gRg2, sFor, tgN, gYes, sAsg, tg2, tg3, sPar, gSl, oSo, oNo, h3, e2]
theorem eraseL_len : ∀ (gs ps : List Int), (eraseL ps gs).length ≤ ps.length
  | [], ps => Nat.le_refl _
  | g :: gs, ps => Nat.le_trans (eraseL_len gs (ps.erase g)) (List.length_erase_le)
/-! ### split and join -/
def splitR (ps : List Int) : PyData → PyData → Option (List Int)
  | .int a, .int b => if (1 ≤ a ∧ a ≤ 99) ∧ a ∈ ps ∧ (1 ≤ b ∧ b ≤ a - 1) ∧ ps.length ≠ 13 then some (sortI (ps.erase a ++ [b, a - b])) else none
  | _, _ => none
def tell (o : Option (List Int)) : Rs PyData := match o with
  | some r => .ok (.tuple (r.map PyData.int))
  | none => .err 8 none
theorem split_ok {ps : List Int} (hp : PcOk ps) {x y : PyData} (hx : nd x = true) (hy : nd y = true) : m_split [.tuple (ps.map PyData.int), x, y] = tell (splitR ps x y) := by
  show (h_split [some (.d (.tuple (ps.map PyData.int))), some (.d x), some (.d y)]).rs = _
  have e0 : s_split_0 [some (.d (.tuple (ps.map PyData.int))), some (.d x), some (.d y)] = .nx [some (.d (.tuple (ps.map PyData.int))), some (.d x), some (.d y)] := by
    simp [s_split_0, b_ok, b_err, b_bad, o_ok, o_err, n_ok, sSeq_K, seqK_nx, seqK_rt, seqK_er, v_d, v_Rd, v_Ro, v_Fo, v_Fi, v_Fb, v_Fs, v_Ft, v_Fn, f_o, f_d, a_i, a_b, a_l, a_sl, a_st, l_i, l_b, l_s, l_t, l_n, t_b, t_l, t_t, p_add, p_addT, p_addL, p_sub, p_mul, p_mod, p_div, p_pow, p_lt, p_le, p_gt, p_ge, p_min, p_max, p_lenL, p_lenT, p_tupL, p_tupT, p_lstL, p_lstT, p_ixL, p_ixT, p_slL, p_slT, p_eq, p_ne, p_isN, p_isNotN, r_1, r_2, c_k, c_j, i_non, i_bl, i_int, i_str, i_lst, i_tup, gTup_b, gLst_b, mkT_ok, mkL_ok, sap, sit, itK_ok, sex, exK_ok, sre, reK_ok, p_srtL, p_srtT, p_sumL, p_sumT, rs_rt, rs_nx, rs_er, p_inT, p_ninT, p_inL, shp_i, shp_b, shp_n, shp_T, shp_L, eqv_T, eqv_I, sIf, sRet, sSet, sSetO, sDrop, sNext, sRaise, sFrz, gTest, gBin, gUn, gC, gNl, gB, gAnd, gOr, gNot, gIf, gTru, aNil, aCons, gCall, gChain, gIsi, gSeq, gRg1, gRg2, sFor, tgN, gYes, sAsg, tg2, tg3, sPar, gSl, oSo, oNo, look_yes hp]
  unfold h_split
  rw [q_nx e0]
  have w1 := within_ok hx 1 99
  cases x with
  | int a =>
    have w2 := within_ok hy 1 (a - 1)
    by_cases h1 : 1 ≤ a ∧ a ≤ 99
    · by_cases h2 : a ∈ ps
      · cases y with
        | int b =>
          by_cases h3 : 1 ≤ b ∧ b ≤ a - 1
          · have e1 : s_split_1 [some (.d (.tuple (ps.map PyData.int))), some (.d (.int a)), some (.d (.int b))] = .nx [some (.d (.tuple (ps.map PyData.int))), some (.d (.int a)), some (.d (.int b))] := by
              simp [s_split_1, b_ok, b_err, b_bad, o_ok, o_err, n_ok, sSeq_K, seqK_nx, seqK_rt, seqK_er, v_d, v_Rd, v_Ro, v_Fo, v_Fi, v_Fb, v_Fs, v_Ft, v_Fn, f_o, f_d, a_i, a_b, a_l, a_sl, a_st, l_i, l_b, l_s, l_t, l_n, t_b, t_l, t_t, p_add, p_addT, p_addL, p_sub, p_mul, p_mod, p_div, p_pow, p_lt, p_le, p_gt, p_ge, p_min, p_max, p_lenL, p_lenT, p_tupL, p_tupT, p_lstL, p_lstT, p_ixL, p_ixT, p_slL, p_slT, p_eq, p_ne, p_isN, p_isNotN, r_1, r_2, c_k, c_j, i_non, i_bl, i_int, i_str, i_lst, i_tup, gTup_b, gLst_b, mkT_ok, mkL_ok, sap, sit, itK_ok, sex, exK_ok, sre, reK_ok, p_srtL, p_srtT, p_sumL, p_sumT, rs_rt, rs_nx, rs_er, p_inT, p_ninT, p_inL, shp_i, shp_b, shp_n, shp_T, shp_L, eqv_T, eqv_I, sIf, sRet, sSet, sSetO, sDrop, sNext, sRaise, sFrz, gTest, gBin, gUn, gC, gNl, gB, gAnd, gOr, gNot, gIf, gTru, aNil, aCons, gCall, gChain, gIsi, gSeq, gRg1, gRg2, sFor, tgN, gYes, sAsg, tg2, tg3, sPar, gSl, oSo, oNo, w1, w2, h2, isW, h1, h3]
            rw [q_nx e1]
            by_cases h4 : ps.length = 13
            · simp [s_split_2, b_ok, b_err, b_bad, o_ok, o_err, n_ok, sSeq_K, seqK_nx, seqK_rt, seqK_er, v_d, v_Rd, v_Ro, v_Fo, v_Fi, v_Fb, v_Fs, v_Ft, v_Fn, f_o, f_d, a_i, a_b, a_l, a_sl, a_st, l_i, l_b, l_s, l_t, l_n, t_b, t_l, t_t, p_add, p_addT, p_addL, p_sub, p_mul, p_mod, p_div, p_pow, p_lt, p_le, p_gt, p_ge, p_min, p_max, p_lenL, p_lenT, p_tupL, p_tupT, p_lstL, p_lstT, p_ixL, p_ixT, p_slL, p_slT, p_eq, p_ne, p_isN, p_isNotN, r_1, r_2, c_k, c_j, i_non, i_bl, i_int, i_str, i_lst, i_tup, gTup_b, gLst_b, mkT_ok, mkL_ok, sap, sit, itK_ok, sex, exK_ok, sre, reK_ok, p_srtL, p_srtT, p_sumL, p_sumT, rs_rt, rs_nx, rs_er, p_inT, p_ninT, p_inL, shp_i, shp_b, shp_n, shp_T, shp_L, eqv_T, eqv_I, sIf, sRet, sSet, sSetO, sDrop, sNext, sRaise, sFrz, gTest, gBin, gUn, gC, gNl, gB, gAnd, gOr, gNot, gIf, gTru, aNil, aCons, gCall, gChain, gIsi, gSeq, gRg1, gRg2, sFor, tgN, gYes, sAsg, tg2, tg3, sPar, gSl, oSo, oNo, h4, splitR, tell]
            · have h4' : ¬ (ps.length : Int) = 13 := by omega
              have e5 := out_ok (ps := ps) (gs := [a]) (ns := [b, a - b]) ⟨h2, trivial⟩ (by have := hp.len; simp; omega) (eraseL_len _ _)
              simp [eraseL] at e5
              simp [s_split_2, s_split_3, b_ok, b_err, b_bad, o_ok, o_err, n_ok, sSeq_K, seqK_nx, seqK_rt, seqK_er, v_d, v_Rd, v_Ro, v_Fo, v_Fi, v_Fb, v_Fs, v_Ft, v_Fn, f_o, f_d, a_i, a_b, a_l, a_sl, a_st, l_i, l_b, l_s, l_t, l_n, t_b, t_l, t_t, p_add, p_addT, p_addL, p_sub, p_mul, p_mod, p_div, p_pow, p_lt, p_le, p_gt, p_ge, p_min, p_max, p_lenL, p_lenT, p_tupL, p_tupT, p_lstL, p_lstT, p_ixL, p_ixT, p_slL, p_slT, p_eq, p_ne, p_isN, p_isNotN, r_1, r_2, c_k, c_j, i_non, i_bl, i_int, i_str, i_lst, i_tup, gTup_b, gLst_b, mkT_ok, mkL_ok, sap, sit, itK_ok, sex, exK_ok, sre, reK_ok, p_srtL, p_srtT, p_sumL, p_sumT, rs_rt, rs_nx, rs_er, p_inT, p_ninT, p_inL, shp_i, shp_b, shp_n, shp_T, shp_L, eqv_T, eqv_I, sIf, sRet, sSet, sSetO, sDrop, sNext, sRaise, sFrz, gTest, gBin, gUn, gC, gNl, gB, gAnd, gOr, gNot, gIf, gTru, aNil, aCons, gCall, gChain, gIsi, gSeq, gRg1, gRg2, sFor, tgN, gYes, sAsg, tg2, tg3, sPar, gSl, oSo, oNo, h4, h4', splitR, tell, h1, h2, h3, e5]
          · have e1 : s_split_1 [some (.d (.tuple (ps.map PyData.int))), some (.d (.int a)), some (.d (.int b))] = .er 8 none [some (.d (.tuple (ps.map PyData.int))), some (.d (.int a)), some (.d (.int b))] := by
              have : (decide (1 ≤ b) && decide (b ≤ a - 1)) = false := by simpa using h3
              simp [s_split_1, b_ok, b_err, b_bad, o_ok, o_err, n_ok, sSeq_K, seqK_nx, seqK_rt, seqK_er, v_d, v_Rd, v_Ro, v_Fo, v_Fi, v_Fb, v_Fs, v_Ft, v_Fn, f_o, f_d, a_i, a_b, a_l, a_sl, a_st, l_i, l_b, l_s, l_t, l_n, t_b, t_l, t_t, p_add, p_addT, p_addL, p_sub, p_mul, p_mod, p_div, p_pow, p_lt, p_le, p_gt, p_ge, p_min, p_max, p_lenL, p_lenT, p_tupL, p_tupT, p_lstL, p_lstT, p_ixL, p_ixT, p_slL, p_slT, p_eq, p_ne, p_isN, p_isNotN, r_1, r_2, c_k, c_j, i_non, i_bl, i_int, i_str, i_lst, i_tup, gTup_b, gLst_b, mkT_ok, mkL_ok, sap, sit, itK_ok, sex, exK_ok, sre, reK_ok, p_srtL, p_srtT, p_sumL, p_sumT, rs_rt, rs_nx, rs_er, p_inT, p_ninT, p_inL, shp_i, shp_b, shp_n, shp_T, shp_L, eqv_T, eqv_I, sIf, sRet, sSet, sSetO, sDrop, sNext, sRaise, sFrz, gTest, gBin, gUn, gC, gNl, gB, gAnd, gOr, gNot, gIf, gTru, aNil, aCons, gCall, gChain, gIsi, gSeq, gRg1, gRg2, sFor, tgN, gYes, sAsg, tg2, tg3, sPar, gSl, oSo, oNo, w1, w2, h2, isW, h1, this]
            rw [q_er e1]
            simp [splitR, tell, h3, b_ok, b_err, b_bad, o_ok, o_err, n_ok, sSeq_K, seqK_nx, seqK_rt, seqK_er, v_d, v_Rd, v_Ro, v_Fo, v_Fi, v_Fb, v_Fs, v_Ft, v_Fn, f_o, f_d, a_i, a_b, a_l, a_sl, a_st, l_i, l_b, l_s, l_t, l_n, t_b, t_l, t_t, p_add, p_addT, p_addL, p_sub, p_mul, p_mod, p_div, p_pow, p_lt, p_le, p_gt, p_ge, p_min, p_max, p_lenL, p_lenT, p_tupL, p_tupT, p_lstL, p_lstT, p_ixL, p_ixT, p_slL, p_slT, p_eq, p_ne, p_isN, p_isNotN, r_1, r_2, c_k, c_j, i_non, i_bl, i_int, i_str, i_lst, i_tup, gTup_b, gLst_b, mkT_ok, mkL_ok, sap, sit, itK_ok, sex, exK_ok, sre, reK_ok, p_srtL, p_srtT, p_sumL, p_sumT, rs_rt, rs_nx, rs_er, p_inT, p_ninT, p_inL, shp_i, shp_b, shp_n, shp_T, shp_L, eqv_T, eqv_I, sIf, sRet, sSet, sSetO, sDrop, sNext, sRaise, sFrz, gTest, gBin, gUn, gC, gNl, gB, gAnd, gOr, gNot, gIf, gTru, aNil, aCons, gCall, gChain, gIsi, gSeq, gRg1, gRg2, sFor, tgN, gYes, sAsg, tg2, tg3, sPar, gSl, oSo, oNo]
        | dict kv => cases hy
        | _ => simp [s_split_1, b_ok, b_err, b_bad, o_ok, o_err, n_ok, sSeq_K, seqK_nx, seqK_rt, seqK_er, v_d, v_Rd, v_Ro, v_Fo, v_Fi, v_Fb, v_Fs, v_Ft, v_Fn, f_o, f_d, a_i, a_b, a_l, a_sl, a_st, l_i, l_b, l_s, l_t, l_n, t_b, t_l, t_t, p_add, p_addT, p_addL, p_sub, p_mul, p_mod, p_div, p_pow, p_lt, p_le, p_gt, p_ge, p_min, p_max, p_lenL, p_lenT, p_tupL, p_tupT, p_lstL, p_lstT, p_ixL, p_ixT, p_slL, p_slT, p_eq, p_ne, p_isN, p_isNotN, r_1, r_2, c_k, c_j, i_non, i_bl, i_int, i_str, i_lst, i_tup, gTup_b, gLst_b, mkT_ok, mkL_ok, sap, sit, itK_ok, sex, exK_ok, sre, reK_ok, p_srtL, p_srtT, p_sumL, p_sumT, rs_rt, rs_nx, rs_er, p_inT, p_ninT, p_inL, shp_i, shp_b, shp_n, shp_T, shp_L, eqv_T, eqv_I, sIf, sRet, sSet, sSetO, sDrop, sNext, sRaise, sFrz, gTest, gBin, gUn, gC, gNl, gB, gAnd, gOr, gNot, gIf, gTru, aNil, aCons, gCall, gChain, gIsi, gSeq, gRg1, gRg2, sFor, tgN, gYes, sAsg, tg2, tg3, sPar, gSl, oSo, oNo, w1, w2, h2, isW, h1, splitR, tell]
      · cases y <;> simp [s_split_1, b_ok, b_err, b_bad, o_ok, o_err, n_ok, sSeq_K, seqK_nx, seqK_rt, seqK_er, v_d, v_Rd, v_Ro, v_Fo, v_Fi, v_Fb, v_Fs, v_Ft, v_Fn, f_o, f_d, a_i, a_b, a_l, a_sl, a_st, l_i, l_b, l_s, l_t, l_n, t_b, t_l, t_t, p_add, p_addT, p_addL, p_sub, p_mul, p_mod, p_div, p_pow, p_lt, p_le, p_gt, p_ge, p_min, p_max, p_lenL, p_lenT, p_tupL, p_tupT, p_lstL, p_lstT, p_ixL, p_ixT, p_slL, p_slT, p_eq, p_ne, p_isN, p_isNotN, r_1, r_2, c_k, c_j, i_non, i_bl, i_int, i_str, i_lst, i_tup, gTup_b, gLst_b, mkT_ok, mkL_ok, sap, sit, itK_ok, sex, exK_ok, sre, reK_ok, p_srtL, p_srtT, p_sumL, p_sumT, rs_rt, rs_nx, rs_er, p_inT, p_ninT, p_inL, shp_i, shp_b, shp_n, shp_T, shp_L, eqv_T, eqv_I, sIf, sRet, sSet, sSetO, sDrop, sNext, sRaise, sFrz, gTest, gBin, gUn, gC, gNl, gB, gAnd, gOr, gNot, gIf, gTru, aNil, aCons, gCall, gChain, gIsi, gSeq, gRg1, gRg2, sFor, tgN, gYes, sAsg, tg2, tg3, sPar, gSl, oSo, oNo, w1, h2, isW, h1, splitR, tell]
    · have : (decide (1 ≤ a) && decide (a ≤ 99)) = false := by simpa using h1
      have e1 : s_split_1 [some (.d (.tuple (ps.map PyData.int))), some (.d (.int a)), some (.d y)] = .er 8 none [some (.d (.tuple (ps.map PyData.int))), some (.d (.int a)), some (.d y)] := by
        simp [s_split_1, b_ok, b_err, b_bad, o_ok, o_err, n_ok, sSeq_K, seqK_nx, seqK_rt, seqK_er, v_d, v_Rd, v_Ro, v_Fo, v_Fi, v_Fb, v_Fs, v_Ft, v_Fn, f_o, f_d, a_i, a_b, a_l, a_sl, a_st, l_i, l_b, l_s, l_t, l_n, t_b, t_l, t_t, p_add, p_addT, p_addL, p_sub, p_mul, p_mod, p_div, p_pow, p_lt, p_le, p_gt, p_ge, p_min, p_max, p_lenL, p_lenT, p_tupL, p_tupT, p_lstL, p_lstT, p_ixL, p_ixT, p_slL, p_slT, p_eq, p_ne, p_isN, p_isNotN, r_1, r_2, c_k, c_j, i_non, i_bl, i_int, i_str, i_lst, i_tup, gTup_b, gLst_b, mkT_ok, mkL_ok, sap, sit, itK_ok, sex, exK_ok, sre, reK_ok, p_srtL, p_srtT, p_sumL, p_sumT, rs_rt, rs_nx, rs_er, p_inT, p_ninT, p_inL, shp_i, shp_b, shp_n, shp_T, shp_L, eqv_T, eqv_I, sIf, sRet, sSet, sSetO, sDrop, sNext, sRaise, sFrz, gTest, gBin, gUn, gC, gNl, gB, gAnd, gOr, gNot, gIf, gTru, aNil, aCons, gCall, gChain, gIsi, gSeq, gRg1, gRg2, sFor, tgN, gYes, sAsg, tg2, tg3, sPar, gSl, oSo, oNo, w1, isW, this]
      rw [q_er e1]
      cases y <;> simp [splitR, tell, h1, b_ok, b_err, b_bad, o_ok, o_err, n_ok, sSeq_K, seqK_nx, seqK_rt, seqK_er, v_d, v_Rd, v_Ro, v_Fo, v_Fi, v_Fb, v_Fs, v_Ft, v_Fn, f_o, f_d, a_i, a_b, a_l, a_sl, a_st, l_i, l_b, l_s, l_t, l_n, t_b, t_l, t_t, p_add, p_addT, p_addL, p_sub, p_mul, p_mod, p_div, p_pow, p_lt, p_le, p_gt, p_ge, p_min, p_max, p_lenL, p_lenT, p_tupL, p_tupT, p_lstL, p_lstT, p_ixL, p_ixT, p_slL, p_slT, p_eq, p_ne, p_isN, p_isNotN, r_1, r_2, c_k, c_j, i_non, i_bl, i_int, i_str, i_lst, i_tup, gTup_b, gLst_b, mkT_ok, mkL_ok, sap, sit, itK_ok, sex, exK_ok, sre, reK_ok, p_srtL, p_srtT, p_sumL, p_sumT, rs_rt, rs_nx, rs_er, p_inT, p_ninT, p_inL, shp_i, shp_b, shp_n, shp_T, shp_L, eqv_T, eqv_I, sIf, sRet, sSet, sSetO, sDrop, sNext, sRaise, sFrz, gTest, gBin, gUn, gC, gNl, gB, gAnd, gOr, gNot, gIf, gTru, aNil, aCons, gCall, gChain, gIsi, gSeq, gRg1, gRg2, sFor, tgN, gYes, sAsg, tg2, tg3, sPar, gSl, oSo, oNo]
  | dict kv => cases hx
  | _ => cases y <;> simp [s_split_1, b_ok, b_err, b_bad, o_ok, o_err, n_ok, sSeq_K, seqK_nx, seqK_rt, seqK_er, v_d, v_Rd, v_Ro, v_Fo, v_Fi, v_Fb, v_Fs, v_Ft, v_Fn, f_o, f_d, a_i, a_b, a_l, a_sl, a_st, l_i, l_b, l_s, l_t, l_n, t_b, t_l, t_t, p_add, p_addT, p_addL, p_sub, p_mul, p_mod, p_div, p_pow, p_lt, p_le, p_gt, p_ge, p_min, p_max, p_lenL, p_lenT, p_tupL, p_tupT, p_lstL, p_lstT, p_ixL, p_ixT, p_slL, p_slT, p_eq, p_ne, p_isN, p_isNotN, r_1, r_2, c_k, c_j, i_non, i_bl, i_int, i_str, i_lst, i_tup, gTup_b, gLst_b, mkT_ok, mkL_ok, sap, sit, itK_ok, sex, exK_ok, sre, reK_ok, p_srtL, p_srtT, p_sumL, p_sumT, rs_rt, rs_nx, rs_er, p_inT, p_ninT, p_inL, shp_i, shp_b, shp_n, shp_T, shp_L, eqv_T, eqv_I, sIf, sRet, sSet, sSetO, sDrop, sNext, sRaise, sFrz, gTest, gBin, gUn, gC, gNl, gB, gAnd, gOr, gNot, gIf, gTru, aNil, aCons, gCall, gChain, gIsi, gSeq, gRg1, gRg2, sFor, tgN, gYes, sAsg, tg2, tg3, sPar, gSl, oSo, oNo, w1, isW, splitR, tell]
def joinR (ps : List Int) : PyData → PyData → Option (List Int)
  | .int a, .int b => if (1 ≤ a ∧ a ≤ 99) ∧ (1 ≤ b ∧ b ≤ 99) ∧ a + b ≤ 99 ∧ a ∈ ps ∧ b ∈ ps.erase a then some (sortI ((ps.erase a).erase b ++ [a + b])) else none
  | _, _ => none
theorem count_lt2 {ps : List Int} {a : Int} (h : a ∈ ps) : a ∈ ps.erase a ↔ ¬ ps.count a < 2 := by
  rw [← List.count_pos_iff, List.count_erase_self]
  have := List.count_pos_iff.mpr h
  omega
theorem cnt_ints (ps : List Int) (a : Int) : ((ps.map PyData.int).countP fun z => PyData.eqv z (.int a)) = ps.count a := by
  induction ps with
  | nil => rfl
  | cons x ps ih =>
    rw [List.map_cons, List.countP_cons, ih, List.count_cons, eqv_I]
    by_cases h : x = a <;> simp [h]
theorem p_cnt (ps : List Int) (a : Int) : pCnt (.ok (.int a)) (.tuple (ps.map PyData.int)) = .ok (.int (ps.count a : Nat)) := by
  show (if flatD (.int a) = true ∧ (ps.map PyData.int).all flatD = true then _ else _) = _
  rw [if_pos ⟨rfl, flat_ints ps⟩, cnt_ints]
theorem join_ok {ps : List Int} (hp : PcOk ps) {x y : PyData} (hx : nd x = true) (hy : nd y = true) : m_join [.tuple (ps.map PyData.int), x, y] = tell (joinR ps x y) := by
  show (h_join [some (.d (.tuple (ps.map PyData.int))), some (.d x), some (.d y)]).rs = _
  have e0 : s_join_0 [some (.d (.tuple (ps.map PyData.int))), some (.d x), some (.d y)] = .nx [some (.d (.tuple (ps.map PyData.int))), some (.d x), some (.d y)] := by
    simp [s_join_0, b_ok, b_err, b_bad, o_ok, o_err, n_ok, sSeq_K, seqK_nx, seqK_rt, seqK_er, v_d, v_Rd, v_Ro, v_Fo, v_Fi, v_Fb, v_Fs, v_Ft, v_Fn, f_o, f_d, a_i, a_b, a_l, a_sl, a_st, l_i, l_b, l_s, l_t, l_n, t_b, t_l, t_t, p_add, p_addT, p_addL, p_sub, p_mul, p_mod, p_div, p_pow, p_lt, p_le, p_gt, p_ge, p_min, p_max, p_lenL, p_lenT, p_tupL, p_tupT, p_lstL, p_lstT, p_ixL, p_ixT, p_slL, p_slT, p_eq, p_ne, p_isN, p_isNotN, r_1, r_2, c_k, c_j, i_non, i_bl, i_int, i_str, i_lst, i_tup, gTup_b, gLst_b, mkT_ok, mkL_ok, sap, sit, itK_ok, sex, exK_ok, sre, reK_ok, p_srtL, p_srtT, p_sumL, p_sumT, rs_rt, rs_nx, rs_er, p_inT, p_ninT, p_inL, shp_i, shp_b, shp_n, shp_T, shp_L, eqv_T, eqv_I, sIf, sRet, sSet, sSetO, sDrop, sNext, sRaise, sFrz, gTest, gBin, gUn, gC, gNl, gB, gAnd, gOr, gNot, gIf, gTru, aNil, aCons, gCall, gChain, gIsi, gSeq, gRg1, gRg2, sFor, tgN, gYes, sAsg, tg2, tg3, sPar, gSl, oSo, oNo, look_yes hp]
  unfold h_join
  rw [q_nx e0]
  have w1 := within_ok hx 1 99
  have w2 := within_ok hy 1 99
  cases x with
  | int a =>
    by_cases h1 : 1 ≤ a ∧ a ≤ 99
    · cases y with
      | int b =>
        by_cases h3 : 1 ≤ b ∧ b ≤ 99
        · by_cases h4 : a + b ≤ 99
          · have e1 : s_join_1 [some (.d (.tuple (ps.map PyData.int))), some (.d (.int a)), some (.d (.int b))] = .nx [some (.d (.tuple (ps.map PyData.int))), some (.d (.int a)), some (.d (.int b))] := by
              have : ¬ 99 < a + b := by omega
              simp [s_join_1, b_ok, b_err, b_bad, o_ok, o_err, n_ok, sSeq_K, seqK_nx, seqK_rt, seqK_er, v_d, v_Rd, v_Ro, v_Fo, v_Fi, v_Fb, v_Fs, v_Ft, v_Fn, f_o, f_d, a_i, a_b, a_l, a_sl, a_st, l_i, l_b, l_s, l_t, l_n, t_b, t_l, t_t, p_add, p_addT, p_addL, p_sub, p_mul, p_mod, p_div, p_pow, p_lt, p_le, p_gt, p_ge, p_min, p_max, p_lenL, p_lenT, p_tupL, p_tupT, p_lstL, p_lstT, p_ixL, p_ixT, p_slL, p_slT, p_eq, p_ne, p_isN, p_isNotN, r_1, r_2, c_k, c_j, i_non, i_bl, i_int, i_str, i_lst, i_tup, gTup_b, gLst_b, mkT_ok, mkL_ok, sap, sit, itK_ok, sex, exK_ok, sre, reK_ok, p_srtL, p_srtT, p_sumL, p_sumT, rs_rt, rs_nx, rs_er, p_inT, p_ninT, p_inL, shp_i, shp_b, shp_n, shp_T, shp_L, eqv_T, eqv_I, sIf, sRet, sSet, sSetO, sDrop, sNext, sRaise, sFrz, gTest, gBin, gUn, gC, gNl, gB, gAnd, gOr, gNot, gIf, gTru, aNil, aCons, gCall, gChain, gIsi, gSeq, gRg1, gRg2, sFor, tgN, gYes, sAsg, tg2, tg3, sPar, gSl, oSo, oNo, w1, w2, isW, h1, h3, this]
            rw [q_nx e1]
            by_cases h5 : a ∈ ps
            · by_cases h6 : b ∈ ps.erase a
              · have h7 : b ∈ ps := List.mem_of_mem_erase h6
                have e2 : s_join_2 [some (.d (.tuple (ps.map PyData.int))), some (.d (.int a)), some (.d (.int b))] = .nx [some (.d (.tuple (ps.map PyData.int))), some (.d (.int a)), some (.d (.int b))] := by
                  by_cases hab : a = b
                  · subst hab
                    have c2 : ¬ (ps.count a : Int) < 2 := by have := (count_lt2 h5).mp h6; omega
                    simp [s_join_2, b_ok, b_err, b_bad, o_ok, o_err, n_ok, sSeq_K, seqK_nx, seqK_rt, seqK_er, v_d, v_Rd, v_Ro, v_Fo, v_Fi, v_Fb, v_Fs, v_Ft, v_Fn, f_o, f_d, a_i, a_b, a_l, a_sl, a_st, l_i, l_b, l_s, l_t, l_n, t_b, t_l, t_t, p_add, p_addT, p_addL, p_sub, p_mul, p_mod, p_div, p_pow, p_lt, p_le, p_gt, p_ge, p_min, p_max, p_lenL, p_lenT, p_tupL, p_tupT, p_lstL, p_lstT, p_ixL, p_ixT, p_slL, p_slT, p_eq, p_ne, p_isN, p_isNotN, r_1, r_2, c_k, c_j, i_non, i_bl, i_int, i_str, i_lst, i_tup, gTup_b, gLst_b, mkT_ok, mkL_ok, sap, sit, itK_ok, sex, exK_ok, sre, reK_ok, p_srtL, p_srtT, p_sumL, p_sumT, rs_rt, rs_nx, rs_er, p_inT, p_ninT, p_inL, shp_i, shp_b, shp_n, shp_T, shp_L, eqv_T, eqv_I, sIf, sRet, sSet, sSetO, sDrop, sNext, sRaise, sFrz, gTest, gBin, gUn, gC, gNl, gB, gAnd, gOr, gNot, gIf, gTru, aNil, aCons, gCall, gChain, gIsi, gSeq, gRg1, gRg2, sFor, tgN, gYes, sAsg, tg2, tg3, sPar, gSl, oSo, oNo, h5, gCnt, p_cnt, c2]
                  · simp [s_join_2, b_ok, b_err, b_bad, o_ok, o_err, n_ok, sSeq_K, seqK_nx, seqK_rt, seqK_er, v_d, v_Rd, v_Ro, v_Fo, v_Fi, v_Fb, v_Fs, v_Ft, v_Fn, f_o, f_d, a_i, a_b, a_l, a_sl, a_st, l_i, l_b, l_s, l_t, l_n, t_b, t_l, t_t, p_add, p_addT, p_addL, p_sub, p_mul, p_mod, p_div, p_pow, p_lt, p_le, p_gt, p_ge, p_min, p_max, p_lenL, p_lenT, p_tupL, p_tupT, p_lstL, p_lstT, p_ixL, p_ixT, p_slL, p_slT, p_eq, p_ne, p_isN, p_isNotN, r_1, r_2, c_k, c_j, i_non, i_bl, i_int, i_str, i_lst, i_tup, gTup_b, gLst_b, mkT_ok, mkL_ok, sap, sit, itK_ok, sex, exK_ok, sre, reK_ok, p_srtL, p_srtT, p_sumL, p_sumT, rs_rt, rs_nx, rs_er, p_inT, p_ninT, p_inL, shp_i, shp_b, shp_n, shp_T, shp_L, eqv_T, eqv_I, sIf, sRet, sSet, sSetO, sDrop, sNext, sRaise, sFrz, gTest, gBin, gUn, gC, gNl, gB, gAnd, gOr, gNot, gIf, gTru, aNil, aCons, gCall, gChain, gIsi, gSeq, gRg1, gRg2, sFor, tgN, gYes, sAsg, tg2, tg3, sPar, gSl, oSo, oNo, h5, h7, hab]
                rw [q_nx e2]
                have e5 := out_ok (ps := ps) (gs := [a, b]) (ns := [a + b]) ⟨h5, h6, trivial⟩ (by have := hp.len; simp; omega) (eraseL_len _ _)
                simp [eraseL] at e5
                simp [s_join_3, b_ok, b_err, b_bad, o_ok, o_err, n_ok, sSeq_K, seqK_nx, seqK_rt, seqK_er, v_d, v_Rd, v_Ro, v_Fo, v_Fi, v_Fb, v_Fs, v_Ft, v_Fn, f_o, f_d, a_i, a_b, a_l, a_sl, a_st, l_i, l_b, l_s, l_t, l_n, t_b, t_l, t_t, p_add, p_addT, p_addL, p_sub, p_mul, p_mod, p_div, p_pow, p_lt, p_le, p_gt, p_ge, p_min, p_max, p_lenL, p_lenT, p_tupL, p_tupT, p_lstL, p_lstT, p_ixL, p_ixT, p_slL, p_slT, p_eq, p_ne, p_isN, p_isNotN, r_1, r_2, c_k, c_j, i_non, i_bl, i_int, i_str, i_lst, i_tup, gTup_b, gLst_b, mkT_ok, mkL_ok, sap, sit, itK_ok, sex, exK_ok, sre, reK_ok, p_srtL, p_srtT, p_sumL, p_sumT, rs_rt, rs_nx, rs_er, p_inT, p_ninT, p_inL, shp_i, shp_b, shp_n, shp_T, shp_L, eqv_T, eqv_I, sIf, sRet, sSet, sSetO, sDrop, sNext, sRaise, sFrz, gTest, gBin, gUn, gC, gNl, gB, gAnd, gOr, gNot, gIf, gTru, aNil, aCons, gCall, gChain, gIsi, gSeq, gRg1, gRg2, sFor, tgN, gYes, sAsg, tg2, tg3, sPar, gSl, oSo, oNo, joinR, tell, h1, h3, h4, h5, h6, e5]
              · have e2 : s_join_2 [some (.d (.tuple (ps.map PyData.int))), some (.d (.int a)), some (.d (.int b))] = .er 8 none [some (.d (.tuple (ps.map PyData.int))), some (.d (.int a)), some (.d (.int b))] := by
                  by_cases h7 : b ∈ ps
                  · have hab : a = b := Decidable.byContradiction fun z => h6 ((List.mem_erase_of_ne (fun e => z e.symm)).mpr h7)
                    subst hab
                    have c2 : (ps.count a : Int) < 2 := by
                      have : ¬ ¬ ps.count a < 2 := fun z => h6 ((count_lt2 h5).mpr z)
                      omega
                    simp [s_join_2, b_ok, b_err, b_bad, o_ok, o_err, n_ok, sSeq_K, seqK_nx, seqK_rt, seqK_er, v_d, v_Rd, v_Ro, v_Fo, v_Fi, v_Fb, v_Fs, v_Ft, v_Fn, f_o, f_d, a_i, a_b, a_l, a_sl, a_st, l_i, l_b, l_s, l_t, l_n, t_b, t_l, t_t, p_add, p_addT, p_addL, p_sub, p_mul, p_mod, p_div, p_pow, p_lt, p_le, p_gt, p_ge, p_min, p_max, p_lenL, p_lenT, p_tupL, p_tupT, p_lstL, p_lstT, p_ixL, p_ixT, p_slL, p_slT, p_eq, p_ne, p_isN, p_isNotN, r_1, r_2, c_k, c_j, i_non, i_bl, i_int, i_str, i_lst, i_tup, gTup_b, gLst_b, mkT_ok, mkL_ok, sap, sit, itK_ok, sex, exK_ok, sre, reK_ok, p_srtL, p_srtT, p_sumL, p_sumT, rs_rt, rs_nx, rs_er, p_inT, p_ninT, p_inL, shp_i, shp_b, shp_n, shp_T, shp_L, eqv_T, eqv_I, sIf, sRet, sSet, sSetO, sDrop, sNext, sRaise, sFrz, gTest, gBin, gUn, gC, gNl, gB, gAnd, gOr, gNot, gIf, gTru, aNil, aCons, gCall, gChain, gIsi, gSeq, gRg1, gRg2, sFor, tgN, gYes, sAsg, tg2, tg3, sPar, gSl, oSo, oNo, h5, gCnt, p_cnt, c2]
                  · simp [s_join_2, b_ok, b_err, b_bad, o_ok, o_err, n_ok, sSeq_K, seqK_nx, seqK_rt, seqK_er, v_d, v_Rd, v_Ro, v_Fo, v_Fi, v_Fb, v_Fs, v_Ft, v_Fn, f_o, f_d, a_i, a_b, a_l, a_sl, a_st, l_i, l_b, l_s, l_t, l_n, t_b, t_l, t_t, p_add, p_addT, p_addL, p_sub, p_mul, p_mod, p_div, p_pow, p_lt, p_le, p_gt, p_ge, p_min, p_max, p_lenL, p_lenT, p_tupL, p_tupT, p_lstL, p_lstT, p_ixL, p_ixT, p_slL, p_slT, p_eq, p_ne, p_isN, p_isNotN, r_1, r_2, c_k, c_j, i_non, i_bl, i_int, i_str, i_lst, i_tup, gTup_b, gLst_b, mkT_ok, mkL_ok, sap, sit, itK_ok, sex, exK_ok, sre, reK_ok, p_srtL, p_srtT, p_sumL, p_sumT, rs_rt, rs_nx, rs_er, p_inT, p_ninT, p_inL, shp_i, shp_b, shp_n, shp_T, shp_L, eqv_T, eqv_I, sIf, sRet, sSet, sSetO, sDrop, sNext, sRaise, sFrz, gTest, gBin, gUn, gC, gNl, gB, gAnd, gOr, gNot, gIf, gTru, aNil, aCons, gCall, gChain, gIsi, gSeq, gRg1, gRg2, sFor, tgN, gYes, sAsg, tg2, tg3, sPar, gSl, oSo, oNo, h5, h7]
                rw [q_er e2]
                simp [joinR, tell, h6, b_ok, b_err, b_bad, o_ok, o_err, n_ok, sSeq_K, seqK_nx, seqK_rt, seqK_er, v_d, v_Rd, v_Ro, v_Fo, v_Fi, v_Fb, v_Fs, v_Ft, v_Fn, f_o, f_d, a_i, a_b, a_l, a_sl, a_st, l_i, l_b, l_s, l_t, l_n, t_b, t_l, t_t, p_add, p_addT, p_addL, p_sub, p_mul, p_mod, p_div, p_pow, p_lt, p_le, p_gt, p_ge, p_min, p_max, p_lenL, p_lenT, p_tupL, p_tupT, p_lstL, p_lstT, p_ixL, p_ixT, p_slL, p_slT, p_eq, p_ne, p_isN, p_isNotN, r_1, r_2, c_k, c_j, i_non, i_bl, i_int, i_str, i_lst, i_tup, gTup_b, gLst_b, mkT_ok, mkL_ok, sap, sit, itK_ok, sex, exK_ok, sre, reK_ok, p_srtL, p_srtT, p_sumL, p_sumT, rs_rt, rs_nx, rs_er, p_inT, p_ninT, p_inL, shp_i, shp_b, shp_n, shp_T, shp_L, eqv_T, eqv_I, sIf, sRet, sSet, sSetO, sDrop, sNext, sRaise, sFrz, gTest, gBin, gUn, gC, gNl, gB, gAnd, gOr, gNot, gIf, gTru, aNil, aCons, gCall, gChain, gIsi, gSeq, gRg1, gRg2, sFor, tgN, gYes, sAsg, tg2, tg3, sPar, gSl, oSo, oNo]
            · simp [s_join_2, b_ok, b_err, b_bad, o_ok, o_err, n_ok, sSeq_K, seqK_nx, seqK_rt, seqK_er, v_d, v_Rd, v_Ro, v_Fo, v_Fi, v_Fb, v_Fs, v_Ft, v_Fn, f_o, f_d, a_i, a_b, a_l, a_sl, a_st, l_i, l_b, l_s, l_t, l_n, t_b, t_l, t_t, p_add, p_addT, p_addL, p_sub, p_mul, p_mod, p_div, p_pow, p_lt, p_le, p_gt, p_ge, p_min, p_max, p_lenL, p_lenT, p_tupL, p_tupT, p_lstL, p_lstT, p_ixL, p_ixT, p_slL, p_slT, p_eq, p_ne, p_isN, p_isNotN, r_1, r_2, c_k, c_j, i_non, i_bl, i_int, i_str, i_lst, i_tup, gTup_b, gLst_b, mkT_ok, mkL_ok, sap, sit, itK_ok, sex, exK_ok, sre, reK_ok, p_srtL, p_srtT, p_sumL, p_sumT, rs_rt, rs_nx, rs_er, p_inT, p_ninT, p_inL, shp_i, shp_b, shp_n, shp_T, shp_L, eqv_T, eqv_I, sIf, sRet, sSet, sSetO, sDrop, sNext, sRaise, sFrz, gTest, gBin, gUn, gC, gNl, gB, gAnd, gOr, gNot, gIf, gTru, aNil, aCons, gCall, gChain, gIsi, gSeq, gRg1, gRg2, sFor, tgN, gYes, sAsg, tg2, tg3, sPar, gSl, oSo, oNo, h5, joinR, tell]
          · have : 99 < a + b := by omega
            simp [s_join_1, b_ok, b_err, b_bad, o_ok, o_err, n_ok, sSeq_K, seqK_nx, seqK_rt, seqK_er, v_d, v_Rd, v_Ro, v_Fo, v_Fi, v_Fb, v_Fs, v_Ft, v_Fn, f_o, f_d, a_i, a_b, a_l, a_sl, a_st, l_i, l_b, l_s, l_t, l_n, t_b, t_l, t_t, p_add, p_addT, p_addL, p_sub, p_mul, p_mod, p_div, p_pow, p_lt, p_le, p_gt, p_ge, p_min, p_max, p_lenL, p_lenT, p_tupL, p_tupT, p_lstL, p_lstT, p_ixL, p_ixT, p_slL, p_slT, p_eq, p_ne, p_isN, p_isNotN, r_1, r_2, c_k, c_j, i_non, i_bl, i_int, i_str, i_lst, i_tup, gTup_b, gLst_b, mkT_ok, mkL_ok, sap, sit, itK_ok, sex, exK_ok, sre, reK_ok, p_srtL, p_srtT, p_sumL, p_sumT, rs_rt, rs_nx, rs_er, p_inT, p_ninT, p_inL, shp_i, shp_b, shp_n, shp_T, shp_L, eqv_T, eqv_I, sIf, sRet, sSet, sSetO, sDrop, sNext, sRaise, sFrz, gTest, gBin, gUn, gC, gNl, gB, gAnd, gOr, gNot, gIf, gTru, aNil, aCons, gCall, gChain, gIsi, gSeq, gRg1, gRg2, sFor, tgN, gYes, sAsg, tg2, tg3, sPar, gSl, oSo, oNo, w1, w2, isW, h1, h3, this, joinR, tell, h4]
        · have : (decide (1 ≤ b) && decide (b ≤ 99)) = false := by simpa using h3
          simp [s_join_1, b_ok, b_err, b_bad, o_ok, o_err, n_ok, sSeq_K, seqK_nx, seqK_rt, seqK_er, v_d, v_Rd, v_Ro, v_Fo, v_Fi, v_Fb, v_Fs, v_Ft, v_Fn, f_o, f_d, a_i, a_b, a_l, a_sl, a_st, l_i, l_b, l_s, l_t, l_n, t_b, t_l, t_t, p_add, p_addT, p_addL, p_sub, p_mul, p_mod, p_div, p_pow, p_lt, p_le, p_gt, p_ge, p_min, p_max, p_lenL, p_lenT, p_tupL, p_tupT, p_lstL, p_lstT, p_ixL, p_ixT, p_slL, p_slT, p_eq, p_ne, p_isN, p_isNotN, r_1, r_2, c_k, c_j, i_non, i_bl, i_int, i_str, i_lst, i_tup, gTup_b, gLst_b, mkT_ok, mkL_ok, sap, sit, itK_ok, sex, exK_ok, sre, reK_ok, p_srtL, p_srtT, p_sumL, p_sumT, rs_rt, rs_nx, rs_er, p_inT, p_ninT, p_inL, shp_i, shp_b, shp_n, shp_T, shp_L, eqv_T, eqv_I, sIf, sRet, sSet, sSetO, sDrop, sNext, sRaise, sFrz, gTest, gBin, gUn, gC, gNl, gB, gAnd, gOr, gNot, gIf, gTru, aNil, aCons, gCall, gChain, gIsi, gSeq, gRg1, gRg2, sFor, tgN, gYes, sAsg, tg2, tg3, sPar, gSl, oSo, oNo, w1, w2, isW, h1, this, joinR, tell, h3]
      | dict kv => cases hy
      | _ => simp [s_join_1, b_ok, b_err, b_bad, o_ok, o_err, n_ok, sSeq_K, seqK_nx, seqK_rt, seqK_er, v_d, v_Rd, v_Ro, v_Fo, v_Fi, v_Fb, v_Fs, v_Ft, v_Fn, f_o, f_d, a_i, a_b, a_l, a_sl, a_st, l_i, l_b, l_s, l_t, l_n, t_b, t_l, t_t, p_add, p_addT, p_addL, p_sub, p_mul, p_mod, p_div, p_pow, p_lt, p_le, p_gt, p_ge, p_min, p_max, p_lenL, p_lenT, p_tupL, p_tupT, p_lstL, p_lstT, p_ixL, p_ixT, p_slL, p_slT, p_eq, p_ne, p_isN, p_isNotN, r_1, r_2, c_k, c_j, i_non, i_bl, i_int, i_str, i_lst, i_tup, gTup_b, gLst_b, mkT_ok, mkL_ok, sap, sit, itK_ok, sex, exK_ok, sre, reK_ok, p_srtL, p_srtT, p_sumL, p_sumT, rs_rt, rs_nx, rs_er, p_inT, p_ninT, p_inL, shp_i, shp_b, shp_n, shp_T, shp_L, eqv_T, eqv_I, sIf, sRet, sSet, sSetO, sDrop, sNext, sRaise, sFrz, gTest, gBin, gUn, gC, gNl, gB, gAnd, gOr, gNot, gIf, gTru, aNil, aCons, gCall, gChain, gIsi, gSeq, gRg1, gRg2, sFor, tgN, gYes, sAsg, tg2, tg3, sPar, gSl, oSo, oNo, w1, w2, isW, h1, joinR, tell]
    · have : (decide (1 ≤ a) && decide (a ≤ 99)) = false := by simpa using h1
      have e1 : s_join_1 [some (.d (.tuple (ps.map PyData.int))), some (.d (.int a)), some (.d y)] = .er 8 none [some (.d (.tuple (ps.map PyData.int))), some (.d (.int a)), some (.d y)] := by
        simp [s_join_1, b_ok, b_err, b_bad, o_ok, o_err, n_ok, sSeq_K, seqK_nx, seqK_rt, seqK_er, v_d, v_Rd, v_Ro, v_Fo, v_Fi, v_Fb, v_Fs, v_Ft, v_Fn, f_o, f_d, a_i, a_b, a_l, a_sl, a_st, l_i, l_b, l_s, l_t, l_n, t_b, t_l, t_t, p_add, p_addT, p_addL, p_sub, p_mul, p_mod, p_div, p_pow, p_lt, p_le, p_gt, p_ge, p_min, p_max, p_lenL, p_lenT, p_tupL, p_tupT, p_lstL, p_lstT, p_ixL, p_ixT, p_slL, p_slT, p_eq, p_ne, p_isN, p_isNotN, r_1, r_2, c_k, c_j, i_non, i_bl, i_int, i_str, i_lst, i_tup, gTup_b, gLst_b, mkT_ok, mkL_ok, sap, sit, itK_ok, sex, exK_ok, sre, reK_ok, p_srtL, p_srtT, p_sumL, p_sumT, rs_rt, rs_nx, rs_er, p_inT, p_ninT, p_inL, shp_i, shp_b, shp_n, shp_T, shp_L, eqv_T, eqv_I, sIf, sRet, sSet, sSetO, sDrop, sNext, sRaise, sFrz, gTest, gBin, gUn, gC, gNl, gB, gAnd, gOr, gNot, gIf, gTru, aNil, aCons, gCall, gChain, gIsi, gSeq, gRg1, gRg2, sFor, tgN, gYes, sAsg, tg2, tg3, sPar, gSl, oSo, oNo, w1, isW, this]
      rw [q_er e1]
      cases y <;> simp [joinR, tell, h1, b_ok, b_err, b_bad, o_ok, o_err, n_ok, sSeq_K, seqK_nx, seqK_rt, seqK_er, v_d, v_Rd, v_Ro, v_Fo, v_Fi, v_Fb, v_Fs, v_Ft, v_Fn, f_o, f_d, a_i, a_b, a_l, a_sl, a_st, l_i, l_b, l_s, l_t, l_n, t_b, t_l, t_t, p_add, p_addT, p_addL, p_sub, p_mul, p_mod, p_div, p_pow, p_lt, p_le, p_gt, p_ge, p_min, p_max, p_lenL, p_lenT, p_tupL, p_tupT, p_lstL, p_lstT, p_ixL, p_ixT, p_slL, p_slT, p_eq, p_ne, p_isN, p_isNotN, r_1, r_2, c_k, c_j, i_non, i_bl, i_int, i_str, i_lst, i_tup, gTup_b, gLst_b, mkT_ok, mkL_ok, sap, sit, itK_ok, sex, exK_ok, sre, reK_ok, p_srtL, p_srtT, p_sumL, p_sumT, rs_rt, rs_nx, rs_er, p_inT, p_ninT, p_inL, shp_i, shp_b, shp_n, shp_T, shp_L, eqv_T, eqv_I, sIf, sRet, sSet, sSetO, sDrop, sNext, sRaise, sFrz, gTest, gBin, gUn, gC, gNl, gB, gAnd, gOr, gNot, gIf, gTru, aNil, aCons, gCall, gChain, gIsi, gSeq, gRg1, gRg2, sFor, tgN, gYes, sAsg, tg2, tg3, sPar, gSl, oSo, oNo]
  | dict kv => cases hx
  | _ => cases y <;> simp [s_join_1, b_ok, b_err, b_bad, o_ok, o_err, n_ok, sSeq_K, seqK_nx, seqK_rt, seqK_er, v_d, v_Rd, v_Ro, v_Fo, v_Fi, v_Fb, v_Fs, v_Ft, v_Fn, f_o, f_d, a_i, a_b, a_l, a_sl, a_st, l_i, l_b, l_s, l_t, l_n, t_b, t_l, t_t, p_add, p_addT, p_addL, p_sub, p_mul, p_mod, p_div, p_pow, p_lt, p_le, p_gt, p_ge, p_min, p_max, p_lenL, p_lenT, p_tupL, p_tupT, p_lstL, p_lstT, p_ixL, p_ixT, p_slL, p_slT, p_eq, p_ne, p_isN, p_isNotN, r_1, r_2, c_k, c_j, i_non, i_bl, i_int, i_str, i_lst, i_tup, gTup_b, gLst_b, mkT_ok, mkL_ok, sap, sit, itK_ok, sex, exK_ok, sre, reK_ok, p_srtL, p_srtT, p_sumL, p_sumT, rs_rt, rs_nx, rs_er, p_inT, p_ninT, p_inL, shp_i, shp_b, shp_n, shp_T, shp_L, eqv_T, eqv_I, sIf, sRet, sSet, sSetO, sDrop, sNext, sRaise, sFrz, gTest, gBin, gUn, gC, gNl, gB, gAnd, gOr, gNot, gIf, gTru, aNil, aCons, gCall, gChain, gIsi, gSeq, gRg1, gRg2, sFor, tgN, gYes, sAsg, tg2, tg3, sPar, gSl, oSo, oNo, w1, isW, joinR, tell]
end SBL

namespace SBL
open PySem SB
/-! ### the law's own telling -/
theorem split_bad {x y z : PyData} (h : m_is_rising [x, .int 13, .int 99] = .ok (.bool false)) : m_split [x, y, z] = .err 2 none := by
  show (h_split [some (.d x), some (.d y), some (.d z)]).rs = _
  simp [h_split, s_split_0, b_ok, b_err, b_bad, o_ok, o_err, n_ok, sSeq_K, seqK_nx, seqK_rt, seqK_er, v_d, v_Rd, v_Ro, v_Fo, v_Fi, v_Fb, v_Fs, v_Ft, v_Fn, f_o, f_d, a_i, a_b, a_l, a_sl, a_st, l_i, l_b, l_s, l_t, l_n, t_b, t_l, t_t, p_add, p_addT, p_addL, p_sub, p_mul, p_mod, p_div, p_pow, p_lt, p_le, p_gt, p_ge, p_min, p_max, p_lenL, p_lenT, p_tupL, p_tupT, p_lstL, p_lstT, p_ixL, p_ixT, p_slL, p_slT, p_eq, p_ne, p_isN, p_isNotN, r_1, r_2, c_k, c_j, i_non, i_bl, i_int, i_str, i_lst, i_tup, gTup_b, gLst_b, mkT_ok, mkL_ok, sap, sit, itK_ok, sex, exK_ok, sre, reK_ok, p_srtL, p_srtT, p_sumL, p_sumT, rs_rt, rs_nx, rs_er, p_inT, p_ninT, p_inL, shp_i, shp_b, shp_n, shp_T, shp_L, eqv_T, eqv_I, sIf, sRet, sSet, sSetO, sDrop, sNext, sRaise, sFrz, gTest, gBin, gUn, gC, gNl, gB, gAnd, gOr, gNot, gIf, gTru, aNil, aCons, gCall, gChain, gIsi, gSeq, gRg1, gRg2, sFor, tgN, gYes, sAsg, tg2, tg3, sPar, gSl, oSo, oNo, look_no h]
theorem join_bad {x y z : PyData} (h : m_is_rising [x, .int 13, .int 99] = .ok (.bool false)) : m_join [x, y, z] = .err 2 none := by
  show (h_join [some (.d x), some (.d y), some (.d z)]).rs = _
  simp [h_join, s_join_0, b_ok, b_err, b_bad, o_ok, o_err, n_ok, sSeq_K, seqK_nx, seqK_rt, seqK_er, v_d, v_Rd, v_Ro, v_Fo, v_Fi, v_Fb, v_Fs, v_Ft, v_Fn, f_o, f_d, a_i, a_b, a_l, a_sl, a_st, l_i, l_b, l_s, l_t, l_n, t_b, t_l, t_t, p_add, p_addT, p_addL, p_sub, p_mul, p_mod, p_div, p_pow, p_lt, p_le, p_gt, p_ge, p_min, p_max, p_lenL, p_lenT, p_tupL, p_tupT, p_lstL, p_lstT, p_ixL, p_ixT, p_slL, p_slT, p_eq, p_ne, p_isN, p_isNotN, r_1, r_2, c_k, c_j, i_non, i_bl, i_int, i_str, i_lst, i_tup, gTup_b, gLst_b, mkT_ok, mkL_ok, sap, sit, itK_ok, sex, exK_ok, sre, reK_ok, p_srtL, p_srtT, p_sumL, p_sumT, rs_rt, rs_nx, rs_er, p_inT, p_ninT, p_inL, shp_i, shp_b, shp_n, shp_T, shp_L, eqv_T, eqv_I, sIf, sRet, sSet, sSetO, sDrop, sNext, sRaise, sFrz, gTest, gBin, gUn, gC, gNl, gB, gAnd, gOr, gNot, gIf, gTru, aNil, aCons, gCall, gChain, gIsi, gSeq, gRg1, gRg2, sFor, tgN, gYes, sAsg, tg2, tg3, sPar, gSl, oSo, oNo, look_no h]
def dueV (o : Option (List Int)) : PyData := match o with
  | some r => .tuple (r.map PyData.int)
  | none => .str "step"
theorem told_ok {ps : List Int} (hp : PcOk ps) {x y : PyData} (hx : nd x = true) (hy : nd y = true) :
    m__law_step_told [.int 0, .tuple (ps.map PyData.int), x, y] = .ok (dueV (splitR ps x y)) ∧ m__law_step_told [.int 1, .tuple (ps.map PyData.int), x, y] = .ok (dueV (joinR ps x y)) := by
  have e1 := split_ok hp hx hy
  have e2 := join_ok hp hx hy
  constructor
  · show (h__law_step_told [some (.d (.int 0)), some (.d (.tuple (ps.map PyData.int))), some (.d x), some (.d y), none]).rs = _
    unfold h__law_step_told s__law_step_told_0 sTryN
    cases e : splitR ps x y with
    | none =>
      rw [e] at e1
      simp [b_ok, b_err, b_bad, o_ok, o_err, n_ok, sSeq_K, seqK_nx, seqK_rt, seqK_er, v_d, v_Rd, v_Ro, v_Fo, v_Fi, v_Fb, v_Fs, v_Ft, v_Fn, f_o, f_d, a_i, a_b, a_l, a_sl, a_st, l_i, l_b, l_s, l_t, l_n, t_b, t_l, t_t, p_add, p_addT, p_addL, p_sub, p_mul, p_mod, p_div, p_pow, p_lt, p_le, p_gt, p_ge, p_min, p_max, p_lenL, p_lenT, p_tupL, p_tupT, p_lstL, p_lstT, p_ixL, p_ixT, p_slL, p_slT, p_eq, p_ne, p_isN, p_isNotN, r_1, r_2, c_k, c_j, i_non, i_bl, i_int, i_str, i_lst, i_tup, gTup_b, gLst_b, mkT_ok, mkL_ok, sap, sit, itK_ok, sex, exK_ok, sre, reK_ok, p_srtL, p_srtT, p_sumL, p_sumT, rs_rt, rs_nx, rs_er, p_inT, p_ninT, p_inL, shp_i, shp_b, shp_n, shp_T, shp_L, eqv_T, eqv_I, sIf, sRet, sSet, sSetO, sDrop, sNext, sRaise, sFrz, gTest, gBin, gUn, gC, gNl, gB, gAnd, gOr, gNot, gIf, gTru, aNil, aCons, gCall, gChain, gIsi, gSeq, gRg1, gRg2, sFor, tgN, gYes, sAsg, tg2, tg3, sPar, gSl, oSo, oNo, e1, tell, dueV]
      rfl
    | some r =>
      rw [e] at e1
      simp [b_ok, b_err, b_bad, o_ok, o_err, n_ok, sSeq_K, seqK_nx, seqK_rt, seqK_er, v_d, v_Rd, v_Ro, v_Fo, v_Fi, v_Fb, v_Fs, v_Ft, v_Fn, f_o, f_d, a_i, a_b, a_l, a_sl, a_st, l_i, l_b, l_s, l_t, l_n, t_b, t_l, t_t, p_add, p_addT, p_addL, p_sub, p_mul, p_mod, p_div, p_pow, p_lt, p_le, p_gt, p_ge, p_min, p_max, p_lenL, p_lenT, p_tupL, p_tupT, p_lstL, p_lstT, p_ixL, p_ixT, p_slL, p_slT, p_eq, p_ne, p_isN, p_isNotN, r_1, r_2, c_k, c_j, i_non, i_bl, i_int, i_str, i_lst, i_tup, gTup_b, gLst_b, mkT_ok, mkL_ok, sap, sit, itK_ok, sex, exK_ok, sre, reK_ok, p_srtL, p_srtT, p_sumL, p_sumT, rs_rt, rs_nx, rs_er, p_inT, p_ninT, p_inL, shp_i, shp_b, shp_n, shp_T, shp_L, eqv_T, eqv_I, sIf, sRet, sSet, sSetO, sDrop, sNext, sRaise, sFrz, gTest, gBin, gUn, gC, gNl, gB, gAnd, gOr, gNot, gIf, gTru, aNil, aCons, gCall, gChain, gIsi, gSeq, gRg1, gRg2, sFor, tgN, gYes, sAsg, tg2, tg3, sPar, gSl, oSo, oNo, e1, tell, dueV]
  · show (h__law_step_told [some (.d (.int 1)), some (.d (.tuple (ps.map PyData.int))), some (.d x), some (.d y), none]).rs = _
    unfold h__law_step_told s__law_step_told_0 sTryN
    cases e : joinR ps x y with
    | none =>
      rw [e] at e2
      simp [b_ok, b_err, b_bad, o_ok, o_err, n_ok, sSeq_K, seqK_nx, seqK_rt, seqK_er, v_d, v_Rd, v_Ro, v_Fo, v_Fi, v_Fb, v_Fs, v_Ft, v_Fn, f_o, f_d, a_i, a_b, a_l, a_sl, a_st, l_i, l_b, l_s, l_t, l_n, t_b, t_l, t_t, p_add, p_addT, p_addL, p_sub, p_mul, p_mod, p_div, p_pow, p_lt, p_le, p_gt, p_ge, p_min, p_max, p_lenL, p_lenT, p_tupL, p_tupT, p_lstL, p_lstT, p_ixL, p_ixT, p_slL, p_slT, p_eq, p_ne, p_isN, p_isNotN, r_1, r_2, c_k, c_j, i_non, i_bl, i_int, i_str, i_lst, i_tup, gTup_b, gLst_b, mkT_ok, mkL_ok, sap, sit, itK_ok, sex, exK_ok, sre, reK_ok, p_srtL, p_srtT, p_sumL, p_sumT, rs_rt, rs_nx, rs_er, p_inT, p_ninT, p_inL, shp_i, shp_b, shp_n, shp_T, shp_L, eqv_T, eqv_I, sIf, sRet, sSet, sSetO, sDrop, sNext, sRaise, sFrz, gTest, gBin, gUn, gC, gNl, gB, gAnd, gOr, gNot, gIf, gTru, aNil, aCons, gCall, gChain, gIsi, gSeq, gRg1, gRg2, sFor, tgN, gYes, sAsg, tg2, tg3, sPar, gSl, oSo, oNo, e2, tell, dueV]
      rfl
    | some r =>
      rw [e] at e2
      simp [b_ok, b_err, b_bad, o_ok, o_err, n_ok, sSeq_K, seqK_nx, seqK_rt, seqK_er, v_d, v_Rd, v_Ro, v_Fo, v_Fi, v_Fb, v_Fs, v_Ft, v_Fn, f_o, f_d, a_i, a_b, a_l, a_sl, a_st, l_i, l_b, l_s, l_t, l_n, t_b, t_l, t_t, p_add, p_addT, p_addL, p_sub, p_mul, p_mod, p_div, p_pow, p_lt, p_le, p_gt, p_ge, p_min, p_max, p_lenL, p_lenT, p_tupL, p_tupT, p_lstL, p_lstT, p_ixL, p_ixT, p_slL, p_slT, p_eq, p_ne, p_isN, p_isNotN, r_1, r_2, c_k, c_j, i_non, i_bl, i_int, i_str, i_lst, i_tup, gTup_b, gLst_b, mkT_ok, mkL_ok, sap, sit, itK_ok, sex, exK_ok, sre, reK_ok, p_srtL, p_srtT, p_sumL, p_sumT, rs_rt, rs_nx, rs_er, p_inT, p_ninT, p_inL, shp_i, shp_b, shp_n, shp_T, shp_L, eqv_T, eqv_I, sIf, sRet, sSet, sSetO, sDrop, sNext, sRaise, sFrz, gTest, gBin, gUn, gC, gNl, gB, gAnd, gOr, gNot, gIf, gTru, aNil, aCons, gCall, gChain, gIsi, gSeq, gRg1, gRg2, sFor, tgN, gYes, sAsg, tg2, tg3, sPar, gSl, oSo, oNo, e2, tell, dueV]
theorem told_bad {x : PyData} {k : Int} (hk : k = 0 ∨ k = 1) (h : m_is_rising [x, .int 13, .int 99] = .ok (.bool false)) : m__law_step_told [.int k, x, .none, .none] = .ok (.str "pieces") := by
  rcases hk with rfl | rfl
  · show (h__law_step_told [some (.d (.int 0)), some (.d x), some (.d .none), some (.d .none), none]).rs = _
    unfold h__law_step_told s__law_step_told_0 sTryN
    simp [b_ok, b_err, b_bad, o_ok, o_err, n_ok, sSeq_K, seqK_nx, seqK_rt, seqK_er, v_d, v_Rd, v_Ro, v_Fo, v_Fi, v_Fb, v_Fs, v_Ft, v_Fn, f_o, f_d, a_i, a_b, a_l, a_sl, a_st, l_i, l_b, l_s, l_t, l_n, t_b, t_l, t_t, p_add, p_addT, p_addL, p_sub, p_mul, p_mod, p_div, p_pow, p_lt, p_le, p_gt, p_ge, p_min, p_max, p_lenL, p_lenT, p_tupL, p_tupT, p_lstL, p_lstT, p_ixL, p_ixT, p_slL, p_slT, p_eq, p_ne, p_isN, p_isNotN, r_1, r_2, c_k, c_j, i_non, i_bl, i_int, i_str, i_lst, i_tup, gTup_b, gLst_b, mkT_ok, mkL_ok, sap, sit, itK_ok, sex, exK_ok, sre, reK_ok, p_srtL, p_srtT, p_sumL, p_sumT, rs_rt, rs_nx, rs_er, p_inT, p_ninT, p_inL, shp_i, shp_b, shp_n, shp_T, shp_L, eqv_T, eqv_I, sIf, sRet, sSet, sSetO, sDrop, sNext, sRaise, sFrz, gTest, gBin, gUn, gC, gNl, gB, gAnd, gOr, gNot, gIf, gTru, aNil, aCons, gCall, gChain, gIsi, gSeq, gRg1, gRg2, sFor, tgN, gYes, sAsg, tg2, tg3, sPar, gSl, oSo, oNo, split_bad h]
    rfl
  · show (h__law_step_told [some (.d (.int 1)), some (.d x), some (.d .none), some (.d .none), none]).rs = _
    unfold h__law_step_told s__law_step_told_0 sTryN
    simp [b_ok, b_err, b_bad, o_ok, o_err, n_ok, sSeq_K, seqK_nx, seqK_rt, seqK_er, v_d, v_Rd, v_Ro, v_Fo, v_Fi, v_Fb, v_Fs, v_Ft, v_Fn, f_o, f_d, a_i, a_b, a_l, a_sl, a_st, l_i, l_b, l_s, l_t, l_n, t_b, t_l, t_t, p_add, p_addT, p_addL, p_sub, p_mul, p_mod, p_div, p_pow, p_lt, p_le, p_gt, p_ge, p_min, p_max, p_lenL, p_lenT, p_tupL, p_tupT, p_lstL, p_lstT, p_ixL, p_ixT, p_slL, p_slT, p_eq, p_ne, p_isN, p_isNotN, r_1, r_2, c_k, c_j, i_non, i_bl, i_int, i_str, i_lst, i_tup, gTup_b, gLst_b, mkT_ok, mkL_ok, sap, sit, itK_ok, sex, exK_ok, sre, reK_ok, p_srtL, p_srtT, p_sumL, p_sumT, rs_rt, rs_nx, rs_er, p_inT, p_ninT, p_inL, shp_i, shp_b, shp_n, shp_T, shp_L, eqv_T, eqv_I, sIf, sRet, sSet, sSetO, sDrop, sNext, sRaise, sFrz, gTest, gBin, gUn, gC, gNl, gB, gAnd, gOr, gNot, gIf, gTru, aNil, aCons, gCall, gChain, gIsi, gSeq, gRg1, gRg2, sFor, tgN, gYes, sAsg, tg2, tg3, sPar, gSl, oSo, oNo, join_bad h]
    rfl
theorem whole_ok {x : PyData} (hx : nd x = true) (lo hi : Int) : m__law_in [x, .int lo, .int hi] = .ok (.bool (isW x lo hi)) := by
  show (h__law_in [some (.d x), some (.d (.int lo)), some (.d (.int hi))]).rs = _
  have e : ∀ y : PyData, m__law_whole [y] = (h__law_whole [some (.d y)]).rs := fun y => rfl
  cases x with
  | int i => by_cases h : lo ≤ i <;> simp [h__law_in, s__law_in_0, h__law_whole, s__law_whole_0, e, b_ok, b_err, b_bad, o_ok, o_err, n_ok, sSeq_K, seqK_nx, seqK_rt, seqK_er, v_d, v_Rd, v_Ro, v_Fo, v_Fi, v_Fb, v_Fs, v_Ft, v_Fn, f_o, f_d, a_i, a_b, a_l, a_sl, a_st, l_i, l_b, l_s, l_t, l_n, t_b, t_l, t_t, p_add, p_addT, p_addL, p_sub, p_mul, p_mod, p_div, p_pow, p_lt, p_le, p_gt, p_ge, p_min, p_max, p_lenL, p_lenT, p_tupL, p_tupT, p_lstL, p_lstT, p_ixL, p_ixT, p_slL, p_slT, p_eq, p_ne, p_isN, p_isNotN, r_1, r_2, c_k, c_j, i_non, i_bl, i_int, i_str, i_lst, i_tup, gTup_b, gLst_b, mkT_ok, mkL_ok, sap, sit, itK_ok, sex, exK_ok, sre, reK_ok, p_srtL, p_srtT, p_sumL, p_sumT, rs_rt, rs_nx, rs_er, p_inT, p_ninT, p_inL, shp_i, shp_b, shp_n, shp_T, shp_L, eqv_T, eqv_I, sIf, sRet, sSet, sSetO, sDrop, sNext, sRaise, sFrz, gTest, gBin, gUn, gC, gNl, gB, gAnd, gOr, gNot, gIf, gTru, aNil, aCons, gCall, gChain, gIsi, gSeq, gRg1, gRg2, sFor, tgN, gYes, sAsg, tg2, tg3, sPar, gSl, oSo, oNo, isW, h]
  | dict kv => cases hx
  | _ => simp [h__law_in, s__law_in_0, h__law_whole, s__law_whole_0, e, b_ok, b_err, b_bad, o_ok, o_err, n_ok, sSeq_K, seqK_nx, seqK_rt, seqK_er, v_d, v_Rd, v_Ro, v_Fo, v_Fi, v_Fb, v_Fs, v_Ft, v_Fn, f_o, f_d, a_i, a_b, a_l, a_sl, a_st, l_i, l_b, l_s, l_t, l_n, t_b, t_l, t_t, p_add, p_addT, p_addL, p_sub, p_mul, p_mod, p_div, p_pow, p_lt, p_le, p_gt, p_ge, p_min, p_max, p_lenL, p_lenT, p_tupL, p_tupT, p_lstL, p_lstT, p_ixL, p_ixT, p_slL, p_slT, p_eq, p_ne, p_isN, p_isNotN, r_1, r_2, c_k, c_j, i_non, i_bl, i_int, i_str, i_lst, i_tup, gTup_b, gLst_b, mkT_ok, mkL_ok, sap, sit, itK_ok, sex, exK_ok, sre, reK_ok, p_srtL, p_srtT, p_sumL, p_sumT, rs_rt, rs_nx, rs_er, p_inT, p_ninT, p_inL, shp_i, shp_b, shp_n, shp_T, shp_L, eqv_T, eqv_I, sIf, sRet, sSet, sSetO, sDrop, sNext, sRaise, sFrz, gTest, gBin, gUn, gC, gNl, gB, gAnd, gOr, gNot, gIf, gTru, aNil, aCons, gCall, gChain, gIsi, gSeq, gRg1, gRg2, sFor, tgN, gYes, sAsg, tg2, tg3, sPar, gSl, oSo, oNo, isW]
/-! ### each undoes the other -/
theorem erase_app_perm {ps l : List Int} {a : Int} (h : a ∈ ps) (hp : l.Perm (ps.erase a)) : (l ++ [a]).Perm ps :=
  (List.perm_append_comm).trans ((hp.cons a).trans (List.perm_cons_erase h).symm)
theorem split_pc {ps : List Int} (hp : PcOk ps) {a b : Int} (ha : 1 ≤ a ∧ a ≤ 99) (hm : a ∈ ps) (hb : 1 ≤ b ∧ b ≤ a - 1) (hl : ps.length ≠ 13) : PcOk (sortI (ps.erase a ++ [b, a - b])) := by
  have le := List.length_erase_of_mem hm
  have h1 := hp.one
  have h2 := hp.len
  refine ⟨?_, ?_, fun x hx => ?_, sortI_sorted _⟩
  · rw [sortI_len, List.length_append, le]; simp
  · rw [sortI_len, List.length_append, le]; simp; omega
  · have hx := (sortI_perm _).mem_iff.mp hx
    rcases List.mem_append.mp hx with hx | hx
    · exact hp.rng x (List.mem_of_mem_erase hx)
    · simp at hx
      omega
theorem undo_split {ps : List Int} (hp : PcOk ps) {a b : Int} (ha : 1 ≤ a ∧ a ≤ 99) (hm : a ∈ ps) (hb : 1 ≤ b ∧ b ≤ a - 1) (hl : ps.length ≠ 13) : joinR (sortI (ps.erase a ++ [b, a - b])) (.int b) (.int (a - b)) = some ps := by
  generalize hr : sortI (ps.erase a ++ [b, a - b]) = r
  have hpr : r.Perm (ps.erase a ++ [b, a - b]) := by rw [← hr]; exact sortI_perm _
  have p2 : r.Perm (b :: (a - b) :: ps.erase a) := hpr.trans List.perm_append_comm
  have m1 : b ∈ r := p2.mem_iff.mpr List.mem_cons_self
  have p3 : (r.erase b).Perm ((a - b) :: ps.erase a) := by
    have := p2.erase b
    rw [List.erase_cons_head] at this
    exact this
  have m2 : a - b ∈ r.erase b := p3.mem_iff.mpr List.mem_cons_self
  have p4 : ((r.erase b).erase (a - b)).Perm (ps.erase a) := by
    have := p3.erase (a - b)
    rw [List.erase_cons_head] at this
    exact this
  have p5 : ((r.erase b).erase (a - b) ++ [b + (a - b)]).Perm ps := by
    rw [show b + (a - b) = a by omega]
    exact erase_app_perm hm p4
  unfold joinR
  dsimp only
  rw [if_pos ⟨by omega, by omega, by omega, m1, m2⟩, ← sortI_of p5.symm hp.srt]
theorem join_pc {ps : List Int} (hp : PcOk ps) {a b : Int} (ha : 1 ≤ a ∧ a ≤ 99) (hb : 1 ≤ b ∧ b ≤ 99) (hab : a + b ≤ 99) (hm : a ∈ ps) (hm2 : b ∈ ps.erase a) : PcOk (sortI ((ps.erase a).erase b ++ [a + b])) ∧ (sortI ((ps.erase a).erase b ++ [a + b])).length ≠ 13 := by
  have le := List.length_erase_of_mem hm
  have le2 := List.length_erase_of_mem hm2
  have pos := List.length_pos_of_mem hm2
  have h2 := hp.len
  have hl : (sortI ((ps.erase a).erase b ++ [a + b])).length = ps.length - 1 := by
    rw [sortI_len, List.length_append, le2, List.length_singleton]
    omega
  refine ⟨⟨by omega, by omega, fun x hx => ?_, sortI_sorted _⟩, by omega⟩
  have hx := (sortI_perm _).mem_iff.mp hx
  rcases List.mem_append.mp hx with hx | hx
  · exact hp.rng x (List.mem_of_mem_erase (List.mem_of_mem_erase hx))
  · simp at hx
    omega
theorem undo_join {ps : List Int} (hp : PcOk ps) {a b : Int} (ha : 1 ≤ a ∧ a ≤ 99) (hb : 1 ≤ b ∧ b ≤ 99) (hab : a + b ≤ 99) (hm : a ∈ ps) (hm2 : b ∈ ps.erase a) : splitR (sortI ((ps.erase a).erase b ++ [a + b])) (.int (a + b)) (.int a) = some ps := by
  have hl := (join_pc hp ha hb hab hm hm2).2
  generalize hr : sortI ((ps.erase a).erase b ++ [a + b]) = r at hl
  have hpr : r.Perm ((ps.erase a).erase b ++ [a + b]) := by rw [← hr]; exact sortI_perm _
  have p2 : r.Perm ((a + b) :: (ps.erase a).erase b) := hpr.trans List.perm_append_comm
  have m1 : a + b ∈ r := p2.mem_iff.mpr List.mem_cons_self
  have p3 : (r.erase (a + b)).Perm ((ps.erase a).erase b) := by
    have := p2.erase (a + b)
    rw [List.erase_cons_head] at this
    exact this
  have p5 : (r.erase (a + b) ++ [a, a + b - a]).Perm ps := by
    rw [show a + b - a = b by omega]
    refine List.perm_append_comm.trans ?_
    have q1 : (b :: r.erase (a + b)).Perm (ps.erase a) := (p3.cons b).trans (List.perm_cons_erase hm2).symm
    exact (q1.cons a).trans (List.perm_cons_erase hm).symm
  unfold splitR
  dsimp only
  rw [if_pos ⟨by omega, m1, by omega, hl⟩, ← sortI_of p5.symm hp.srt]
theorem dueV_self (o : Option (List Int)) : pNe (dueV o) (dueV o) = .ok (.bool false) := by
  cases o with
  | none =>
    have e : PyData.eqv (dueV none) (dueV none) = true := by decide +kernel
    rw [p_ne (by decide +kernel) (by decide +kernel), e]
    rfl
  | some r =>
    show pNe (.tuple (r.map PyData.int)) (.tuple (r.map PyData.int)) = _
    rw [p_ne (shp_T r) (shp_T r), eqv_T]
    simp
end SBL

namespace SBL
open PySem SB
/-! ### the law -/
def flt : PyData → Bool
  | .none => true
  | .bool _ => true
  | .int _ => true
  | _ => false
theorem flt_nd {x : PyData} (h : flt x = true) : nd x = true := by cases x <;> first | rfl | cases h
theorem isW_int {x : PyData} {lo hi : Int} (h : isW x lo hi = true) : ∃ a, x = .int a ∧ lo ≤ a ∧ a ≤ hi := by
  cases x with
  | int a => simp [isW] at h; exact ⟨a, rfl, h⟩
  | _ => simp [isW] at h
section
variable {S R2 P C D2 : Cl}
theorem law6 {ps : List Int} (hp : PcOk ps) {x : PyData} (hx : flt x = true) (b : Int) :
    ∃ t, s_law_6 [some S, some R2, some (.d (.tuple (ps.map PyData.int))), some (.d x), some (.d (.int b)), some (.d (.str "step")), none, none, none, none] = .nx [some S, some R2, some (.d (.tuple (ps.map PyData.int))), some (.d x), some (.d (.int b)), some (.d (dueV (splitR ps x (.int b)))), t, none, none, none] := by
  have w := whole_ok (flt_nd hx) 1 99
  cases hw : isW x 1 99 with
  | false =>
    rw [hw] at w
    have e : splitR ps x (.int b) = none := by
      cases x with
      | int a => simp [isW] at hw; simp [splitR]; omega
      | _ => rfl
    rw [e]
    exact ⟨none, by simp [s_law_6, b_ok, b_err, b_bad, o_ok, o_err, n_ok, sSeq_K, seqK_nx, seqK_rt, seqK_er, v_d, v_Rd, v_Ro, v_Fo, v_Fi, v_Fb, v_Fs, v_Ft, v_Fn, f_o, f_d, a_i, a_b, a_l, a_sl, a_st, l_i, l_b, l_s, l_t, l_n, t_b, t_l, t_t, p_add, p_addT, p_addL, p_sub, p_mul, p_mod, p_div, p_pow, p_lt, p_le, p_gt, p_ge, p_min, p_max, p_lenL, p_lenT, p_tupL, p_tupT, p_lstL, p_lstT, p_ixL, p_ixT, p_slL, p_slT, p_eq, p_ne, p_isN, p_isNotN, r_1, r_2, c_k, c_j, i_non, i_bl, i_int, i_str, i_lst, i_tup, gTup_b, gLst_b, mkT_ok, mkL_ok, sap, sit, itK_ok, sex, exK_ok, sre, reK_ok, p_srtL, p_srtT, p_sumL, p_sumT, rs_rt, rs_nx, rs_er, p_inT, p_ninT, p_inL, shp_i, shp_b, shp_n, shp_T, shp_L, eqv_T, eqv_I, sIf, sRet, sSet, sSetO, sDrop, sNext, sRaise, sFrz, gTest, gBin, gUn, gC, gNl, gB, gAnd, gOr, gNot, gIf, gTru, aNil, aCons, gCall, gChain, gIsi, gSeq, gRg1, gRg2, sFor, tgN, gYes, sAsg, tg2, tg3, sPar, gSl, oSo, oNo, w, dueV]⟩
  | true =>
    obtain ⟨a, rfl, h1, h2⟩ := isW_int hw
    rw [hw] at w
    by_cases h3 : a ∈ ps
    · by_cases h4 : 1 ≤ b
      · by_cases h5 : b < a
        · by_cases h6 : ps.length < 13
          · have h6' : (ps.length : Int) < 13 := by omega
            have e : splitR ps (.int a) (.int b) = some (sortI (ps.erase a ++ [b, a - b])) := by
              unfold splitR
              dsimp only
              rw [if_pos ⟨⟨h1, h2⟩, h3, ⟨h4, by omega⟩, by omega⟩]
            rw [e]
            have e2 := p_srtL (xs := ps.erase a ++ [b, a - b])
            simp only [List.map_append, List.map_cons, List.map_nil] at e2
            have hl : (ps.erase a).length + 2 ≤ 100000 := by
              have := List.length_erase_of_mem h3
              omega
            refine ⟨some (.own ((ps.erase a).map PyData.int)), ?_⟩
            have e3 := sre (i := 6) (xs := ps) (f := gVar 3) (ρ := [some S, some R2, some (.d (.tuple (ps.map PyData.int))), some (.d (.int a)), some (.d (.int b)), some (.d (.str "step")), some (.own (ps.map PyData.int)), none, none, none]) rfl
            simp [s_law_6, b_ok, b_err, b_bad, o_ok, o_err, n_ok, sSeq_K, seqK_nx, seqK_rt, seqK_er, v_d, v_Rd, v_Ro, v_Fo, v_Fi, v_Fb, v_Fs, v_Ft, v_Fn, f_o, f_d, a_i, a_b, a_l, a_sl, a_st, l_i, l_b, l_s, l_t, l_n, t_b, t_l, t_t, p_add, p_addT, p_addL, p_sub, p_mul, p_mod, p_div, p_pow, p_lt, p_le, p_gt, p_ge, p_min, p_max, p_lenL, p_lenT, p_tupL, p_tupT, p_lstL, p_lstT, p_ixL, p_ixT, p_slL, p_slT, p_eq, p_ne, p_isN, p_isNotN, r_1, r_2, c_k, c_j, i_non, i_bl, i_int, i_str, i_lst, i_tup, gTup_b, gLst_b, mkT_ok, mkL_ok, sap, sit, itK_ok, sex, exK_ok, sre, reK_ok, p_srtL, p_srtT, p_sumL, p_sumT, rs_rt, rs_nx, rs_er, p_inT, p_ninT, p_inL, shp_i, shp_b, shp_n, shp_T, shp_L, eqv_T, eqv_I, sIf, sRet, sSet, sSetO, sDrop, sNext, sRaise, sFrz, gTest, gBin, gUn, gC, gNl, gB, gAnd, gOr, gNot, gIf, gTru, aNil, aCons, gCall, gChain, gIsi, gSeq, gRg1, gRg2, sFor, tgN, gYes, sAsg, tg2, tg3, sPar, gSl, oSo, oNo, w, h3, h4, h5, h6', e3, hl, show ps.length - 1 + 2 ≤ 100000 by omega, e2, dueV]
          · have h6' : ¬ (ps.length : Int) < 13 := by omega
            have e : splitR ps (.int a) (.int b) = none := by
              have := hp.len
              simp [splitR]; omega
            rw [e]
            exact ⟨none, by simp [s_law_6, b_ok, b_err, b_bad, o_ok, o_err, n_ok, sSeq_K, seqK_nx, seqK_rt, seqK_er, v_d, v_Rd, v_Ro, v_Fo, v_Fi, v_Fb, v_Fs, v_Ft, v_Fn, f_o, f_d, a_i, a_b, a_l, a_sl, a_st, l_i, l_b, l_s, l_t, l_n, t_b, t_l, t_t, p_add, p_addT, p_addL, p_sub, p_mul, p_mod, p_div, p_pow, p_lt, p_le, p_gt, p_ge, p_min, p_max, p_lenL, p_lenT, p_tupL, p_tupT, p_lstL, p_lstT, p_ixL, p_ixT, p_slL, p_slT, p_eq, p_ne, p_isN, p_isNotN, r_1, r_2, c_k, c_j, i_non, i_bl, i_int, i_str, i_lst, i_tup, gTup_b, gLst_b, mkT_ok, mkL_ok, sap, sit, itK_ok, sex, exK_ok, sre, reK_ok, p_srtL, p_srtT, p_sumL, p_sumT, rs_rt, rs_nx, rs_er, p_inT, p_ninT, p_inL, shp_i, shp_b, shp_n, shp_T, shp_L, eqv_T, eqv_I, sIf, sRet, sSet, sSetO, sDrop, sNext, sRaise, sFrz, gTest, gBin, gUn, gC, gNl, gB, gAnd, gOr, gNot, gIf, gTru, aNil, aCons, gCall, gChain, gIsi, gSeq, gRg1, gRg2, sFor, tgN, gYes, sAsg, tg2, tg3, sPar, gSl, oSo, oNo, w, h3, h4, h5, h6', dueV]⟩
        · have e : splitR ps (.int a) (.int b) = none := by simp [splitR]; omega
          rw [e]
          exact ⟨none, by simp [s_law_6, b_ok, b_err, b_bad, o_ok, o_err, n_ok, sSeq_K, seqK_nx, seqK_rt, seqK_er, v_d, v_Rd, v_Ro, v_Fo, v_Fi, v_Fb, v_Fs, v_Ft, v_Fn, f_o, f_d, a_i, a_b, a_l, a_sl, a_st, l_i, l_b, l_s, l_t, l_n, t_b, t_l, t_t, p_add, p_addT, p_addL, p_sub, p_mul, p_mod, p_div, p_pow, p_lt, p_le, p_gt, p_ge, p_min, p_max, p_lenL, p_lenT, p_tupL, p_tupT, p_lstL, p_lstT, p_ixL, p_ixT, p_slL, p_slT, p_eq, p_ne, p_isN, p_isNotN, r_1, r_2, c_k, c_j, i_non, i_bl, i_int, i_str, i_lst, i_tup, gTup_b, gLst_b, mkT_ok, mkL_ok, sap, sit, itK_ok, sex, exK_ok, sre, reK_ok, p_srtL, p_srtT, p_sumL, p_sumT, rs_rt, rs_nx, rs_er, p_inT, p_ninT, p_inL, shp_i, shp_b, shp_n, shp_T, shp_L, eqv_T, eqv_I, sIf, sRet, sSet, sSetO, sDrop, sNext, sRaise, sFrz, gTest, gBin, gUn, gC, gNl, gB, gAnd, gOr, gNot, gIf, gTru, aNil, aCons, gCall, gChain, gIsi, gSeq, gRg1, gRg2, sFor, tgN, gYes, sAsg, tg2, tg3, sPar, gSl, oSo, oNo, w, h3, h4, h5, dueV]⟩
      · have e : splitR ps (.int a) (.int b) = none := by simp [splitR]; omega
        rw [e]
        exact ⟨none, by simp [s_law_6, b_ok, b_err, b_bad, o_ok, o_err, n_ok, sSeq_K, seqK_nx, seqK_rt, seqK_er, v_d, v_Rd, v_Ro, v_Fo, v_Fi, v_Fb, v_Fs, v_Ft, v_Fn, f_o, f_d, a_i, a_b, a_l, a_sl, a_st, l_i, l_b, l_s, l_t, l_n, t_b, t_l, t_t, p_add, p_addT, p_addL, p_sub, p_mul, p_mod, p_div, p_pow, p_lt, p_le, p_gt, p_ge, p_min, p_max, p_lenL, p_lenT, p_tupL, p_tupT, p_lstL, p_lstT, p_ixL, p_ixT, p_slL, p_slT, p_eq, p_ne, p_isN, p_isNotN, r_1, r_2, c_k, c_j, i_non, i_bl, i_int, i_str, i_lst, i_tup, gTup_b, gLst_b, mkT_ok, mkL_ok, sap, sit, itK_ok, sex, exK_ok, sre, reK_ok, p_srtL, p_srtT, p_sumL, p_sumT, rs_rt, rs_nx, rs_er, p_inT, p_ninT, p_inL, shp_i, shp_b, shp_n, shp_T, shp_L, eqv_T, eqv_I, sIf, sRet, sSet, sSetO, sDrop, sNext, sRaise, sFrz, gTest, gBin, gUn, gC, gNl, gB, gAnd, gOr, gNot, gIf, gTru, aNil, aCons, gCall, gChain, gIsi, gSeq, gRg1, gRg2, sFor, tgN, gYes, sAsg, tg2, tg3, sPar, gSl, oSo, oNo, w, h3, h4, dueV]⟩
    · have e : splitR ps (.int a) (.int b) = none := by simp [splitR, h3]
      rw [e]
      exact ⟨none, by simp [s_law_6, b_ok, b_err, b_bad, o_ok, o_err, n_ok, sSeq_K, seqK_nx, seqK_rt, seqK_er, v_d, v_Rd, v_Ro, v_Fo, v_Fi, v_Fb, v_Fs, v_Ft, v_Fn, f_o, f_d, a_i, a_b, a_l, a_sl, a_st, l_i, l_b, l_s, l_t, l_n, t_b, t_l, t_t, p_add, p_addT, p_addL, p_sub, p_mul, p_mod, p_div, p_pow, p_lt, p_le, p_gt, p_ge, p_min, p_max, p_lenL, p_lenT, p_tupL, p_tupT, p_lstL, p_lstT, p_ixL, p_ixT, p_slL, p_slT, p_eq, p_ne, p_isN, p_isNotN, r_1, r_2, c_k, c_j, i_non, i_bl, i_int, i_str, i_lst, i_tup, gTup_b, gLst_b, mkT_ok, mkL_ok, sap, sit, itK_ok, sex, exK_ok, sre, reK_ok, p_srtL, p_srtT, p_sumL, p_sumT, rs_rt, rs_nx, rs_er, p_inT, p_ninT, p_inL, shp_i, shp_b, shp_n, shp_T, shp_L, eqv_T, eqv_I, sIf, sRet, sSet, sSetO, sDrop, sNext, sRaise, sFrz, gTest, gBin, gUn, gC, gNl, gB, gAnd, gOr, gNot, gIf, gTru, aNil, aCons, gCall, gChain, gIsi, gSeq, gRg1, gRg2, sFor, tgN, gYes, sAsg, tg2, tg3, sPar, gSl, oSo, oNo, w, h3, dueV]⟩
theorem law11 {ps : List Int} (hp : PcOk ps) {x y : PyData} (hx : flt x = true) (hy : flt y = true) (t : Option Cl) (b : Int) :
    ∃ t', s_law_11 [some S, some R2, some (.d (.tuple (ps.map PyData.int))), some (.d x), some (.d (.int b)), some (.d (.str "step")), t, some (.d y), none, none] = .nx [some S, some R2, some (.d (.tuple (ps.map PyData.int))), some (.d x), some (.d (.int b)), some (.d (dueV (joinR ps x y))), t', some (.d y), none, none] := by
  have w := whole_ok (flt_nd hx) 1 99
  have v := whole_ok (flt_nd hy) 1 99
  cases hw : isW x 1 99 with
  | false =>
    rw [hw] at w
    have e : joinR ps x y = none := by
      cases x with
      | int a => simp [isW] at hw; cases y <;> simp [joinR]; omega
      | _ => rfl
    rw [e]
    exact ⟨t, by simp [s_law_11, b_ok, b_err, b_bad, o_ok, o_err, n_ok, sSeq_K, seqK_nx, seqK_rt, seqK_er, v_d, v_Rd, v_Ro, v_Fo, v_Fi, v_Fb, v_Fs, v_Ft, v_Fn, f_o, f_d, a_i, a_b, a_l, a_sl, a_st, l_i, l_b, l_s, l_t, l_n, t_b, t_l, t_t, p_add, p_addT, p_addL, p_sub, p_mul, p_mod, p_div, p_pow, p_lt, p_le, p_gt, p_ge, p_min, p_max, p_lenL, p_lenT, p_tupL, p_tupT, p_lstL, p_lstT, p_ixL, p_ixT, p_slL, p_slT, p_eq, p_ne, p_isN, p_isNotN, r_1, r_2, c_k, c_j, i_non, i_bl, i_int, i_str, i_lst, i_tup, gTup_b, gLst_b, mkT_ok, mkL_ok, sap, sit, itK_ok, sex, exK_ok, sre, reK_ok, p_srtL, p_srtT, p_sumL, p_sumT, rs_rt, rs_nx, rs_er, p_inT, p_ninT, p_inL, shp_i, shp_b, shp_n, shp_T, shp_L, eqv_T, eqv_I, sIf, sRet, sSet, sSetO, sDrop, sNext, sRaise, sFrz, gTest, gBin, gUn, gC, gNl, gB, gAnd, gOr, gNot, gIf, gTru, aNil, aCons, gCall, gChain, gIsi, gSeq, gRg1, gRg2, sFor, tgN, gYes, sAsg, tg2, tg3, sPar, gSl, oSo, oNo, w, dueV]⟩
  | true =>
    obtain ⟨a, rfl, h1, h2⟩ := isW_int hw
    rw [hw] at w
    cases hv : isW y 1 99 with
    | false =>
      rw [hv] at v
      have e : joinR ps (.int a) y = none := by
        cases y with
        | int c => simp [isW] at hv; simp [joinR]; omega
        | _ => rfl
      rw [e]
      exact ⟨t, by simp [s_law_11, b_ok, b_err, b_bad, o_ok, o_err, n_ok, sSeq_K, seqK_nx, seqK_rt, seqK_er, v_d, v_Rd, v_Ro, v_Fo, v_Fi, v_Fb, v_Fs, v_Ft, v_Fn, f_o, f_d, a_i, a_b, a_l, a_sl, a_st, l_i, l_b, l_s, l_t, l_n, t_b, t_l, t_t, p_add, p_addT, p_addL, p_sub, p_mul, p_mod, p_div, p_pow, p_lt, p_le, p_gt, p_ge, p_min, p_max, p_lenL, p_lenT, p_tupL, p_tupT, p_lstL, p_lstT, p_ixL, p_ixT, p_slL, p_slT, p_eq, p_ne, p_isN, p_isNotN, r_1, r_2, c_k, c_j, i_non, i_bl, i_int, i_str, i_lst, i_tup, gTup_b, gLst_b, mkT_ok, mkL_ok, sap, sit, itK_ok, sex, exK_ok, sre, reK_ok, p_srtL, p_srtT, p_sumL, p_sumT, rs_rt, rs_nx, rs_er, p_inT, p_ninT, p_inL, shp_i, shp_b, shp_n, shp_T, shp_L, eqv_T, eqv_I, sIf, sRet, sSet, sSetO, sDrop, sNext, sRaise, sFrz, gTest, gBin, gUn, gC, gNl, gB, gAnd, gOr, gNot, gIf, gTru, aNil, aCons, gCall, gChain, gIsi, gSeq, gRg1, gRg2, sFor, tgN, gYes, sAsg, tg2, tg3, sPar, gSl, oSo, oNo, w, v, dueV]⟩
    | true =>
      obtain ⟨c, rfl, h3, h4⟩ := isW_int hv
      rw [hv] at v
      by_cases h5 : a + c ≤ 99
      · by_cases h6 : a ∈ ps
        · have e3 := sre (i := 6) (xs := ps) (f := gVar 3) (ρ := [some S, some R2, some (.d (.tuple (ps.map PyData.int))), some (.d (.int a)), some (.d (.int b)), some (.d (.str "step")), some (.own (ps.map PyData.int)), some (.d (.int c)), none, none]) rfl
          by_cases h7 : c ∈ ps.erase a
          · have e : joinR ps (.int a) (.int c) = some (sortI ((ps.erase a).erase c ++ [a + c])) := by
              unfold joinR
              dsimp only
              rw [if_pos ⟨⟨h1, h2⟩, ⟨h3, h4⟩, h5, h6, h7⟩]
            rw [e]
            have e2 := p_srtL (xs := (ps.erase a).erase c ++ [a + c])
            simp only [List.map_append, List.map_cons, List.map_nil] at e2
            have hl : ((ps.erase a).erase c).length + 1 ≤ 100000 := by
              have := List.length_erase_of_mem h6
              have := List.length_erase_of_mem h7
              have := hp.len
              omega
            have e4 := sre (i := 6) (xs := ps.erase a) (f := gVar 7) (ρ := [some S, some R2, some (.d (.tuple (ps.map PyData.int))), some (.d (.int a)), some (.d (.int b)), some (.d (.str "step")), some (.own ((ps.erase a).map PyData.int)), some (.d (.int c)), none, none]) rfl
            refine ⟨some (.own (((ps.erase a).erase c).map PyData.int)), ?_⟩
            simp [s_law_11, b_ok, b_err, b_bad, o_ok, o_err, n_ok, sSeq_K, seqK_nx, seqK_rt, seqK_er, v_d, v_Rd, v_Ro, v_Fo, v_Fi, v_Fb, v_Fs, v_Ft, v_Fn, f_o, f_d, a_i, a_b, a_l, a_sl, a_st, l_i, l_b, l_s, l_t, l_n, t_b, t_l, t_t, p_add, p_addT, p_addL, p_sub, p_mul, p_mod, p_div, p_pow, p_lt, p_le, p_gt, p_ge, p_min, p_max, p_lenL, p_lenT, p_tupL, p_tupT, p_lstL, p_lstT, p_ixL, p_ixT, p_slL, p_slT, p_eq, p_ne, p_isN, p_isNotN, r_1, r_2, c_k, c_j, i_non, i_bl, i_int, i_str, i_lst, i_tup, gTup_b, gLst_b, mkT_ok, mkL_ok, sap, sit, itK_ok, sex, exK_ok, sre, reK_ok, p_srtL, p_srtT, p_sumL, p_sumT, rs_rt, rs_nx, rs_er, p_inT, p_ninT, p_inL, shp_i, shp_b, shp_n, shp_T, shp_L, eqv_T, eqv_I, sIf, sRet, sSet, sSetO, sDrop, sNext, sRaise, sFrz, gTest, gBin, gUn, gC, gNl, gB, gAnd, gOr, gNot, gIf, gTru, aNil, aCons, gCall, gChain, gIsi, gSeq, gRg1, gRg2, sFor, tgN, gYes, sAsg, tg2, tg3, sPar, gSl, oSo, oNo, w, v, h5, h6, h7, e3, e4, hl, show ps.length - 1 - 1 + 1 ≤ 100000 by have := hp.len; omega, e2, dueV]
          · have e : joinR ps (.int a) (.int c) = none := by simp [joinR, h7]
            rw [e]
            exact ⟨some (.own ((ps.erase a).map PyData.int)), by simp [s_law_11, b_ok, b_err, b_bad, o_ok, o_err, n_ok, sSeq_K, seqK_nx, seqK_rt, seqK_er, v_d, v_Rd, v_Ro, v_Fo, v_Fi, v_Fb, v_Fs, v_Ft, v_Fn, f_o, f_d, a_i, a_b, a_l, a_sl, a_st, l_i, l_b, l_s, l_t, l_n, t_b, t_l, t_t, p_add, p_addT, p_addL, p_sub, p_mul, p_mod, p_div, p_pow, p_lt, p_le, p_gt, p_ge, p_min, p_max, p_lenL, p_lenT, p_tupL, p_tupT, p_lstL, p_lstT, p_ixL, p_ixT, p_slL, p_slT, p_eq, p_ne, p_isN, p_isNotN, r_1, r_2, c_k, c_j, i_non, i_bl, i_int, i_str, i_lst, i_tup, gTup_b, gLst_b, mkT_ok, mkL_ok, sap, sit, itK_ok, sex, exK_ok, sre, reK_ok, p_srtL, p_srtT, p_sumL, p_sumT, rs_rt, rs_nx, rs_er, p_inT, p_ninT, p_inL, shp_i, shp_b, shp_n, shp_T, shp_L, eqv_T, eqv_I, sIf, sRet, sSet, sSetO, sDrop, sNext, sRaise, sFrz, gTest, gBin, gUn, gC, gNl, gB, gAnd, gOr, gNot, gIf, gTru, aNil, aCons, gCall, gChain, gIsi, gSeq, gRg1, gRg2, sFor, tgN, gYes, sAsg, tg2, tg3, sPar, gSl, oSo, oNo, w, v, h5, h6, h7, e3, dueV]⟩
        · have e : joinR ps (.int a) (.int c) = none := by simp [joinR, h6]
          rw [e]
          exact ⟨some (.own (ps.map PyData.int)), by simp [s_law_11, b_ok, b_err, b_bad, o_ok, o_err, n_ok, sSeq_K, seqK_nx, seqK_rt, seqK_er, v_d, v_Rd, v_Ro, v_Fo, v_Fi, v_Fb, v_Fs, v_Ft, v_Fn, f_o, f_d, a_i, a_b, a_l, a_sl, a_st, l_i, l_b, l_s, l_t, l_n, t_b, t_l, t_t, p_add, p_addT, p_addL, p_sub, p_mul, p_mod, p_div, p_pow, p_lt, p_le, p_gt, p_ge, p_min, p_max, p_lenL, p_lenT, p_tupL, p_tupT, p_lstL, p_lstT, p_ixL, p_ixT, p_slL, p_slT, p_eq, p_ne, p_isN, p_isNotN, r_1, r_2, c_k, c_j, i_non, i_bl, i_int, i_str, i_lst, i_tup, gTup_b, gLst_b, mkT_ok, mkL_ok, sap, sit, itK_ok, sex, exK_ok, sre, reK_ok, p_srtL, p_srtT, p_sumL, p_sumT, rs_rt, rs_nx, rs_er, p_inT, p_ninT, p_inL, shp_i, shp_b, shp_n, shp_T, shp_L, eqv_T, eqv_I, sIf, sRet, sSet, sSetO, sDrop, sNext, sRaise, sFrz, gTest, gBin, gUn, gC, gNl, gB, gAnd, gOr, gNot, gIf, gTru, aNil, aCons, gCall, gChain, gIsi, gSeq, gRg1, gRg2, sFor, tgN, gYes, sAsg, tg2, tg3, sPar, gSl, oSo, oNo, w, v, h5, h6, dueV]⟩
      · have e : joinR ps (.int a) (.int c) = none := by simp [joinR, h5]
        rw [e]
        exact ⟨t, by simp [s_law_11, b_ok, b_err, b_bad, o_ok, o_err, n_ok, sSeq_K, seqK_nx, seqK_rt, seqK_er, v_d, v_Rd, v_Ro, v_Fo, v_Fi, v_Fb, v_Fs, v_Ft, v_Fn, f_o, f_d, a_i, a_b, a_l, a_sl, a_st, l_i, l_b, l_s, l_t, l_n, t_b, t_l, t_t, p_add, p_addT, p_addL, p_sub, p_mul, p_mod, p_div, p_pow, p_lt, p_le, p_gt, p_ge, p_min, p_max, p_lenL, p_lenT, p_tupL, p_tupT, p_lstL, p_lstT, p_ixL, p_ixT, p_slL, p_slT, p_eq, p_ne, p_isN, p_isNotN, r_1, r_2, c_k, c_j, i_non, i_bl, i_int, i_str, i_lst, i_tup, gTup_b, gLst_b, mkT_ok, mkL_ok, sap, sit, itK_ok, sex, exK_ok, sre, reK_ok, p_srtL, p_srtT, p_sumL, p_sumT, rs_rt, rs_nx, rs_er, p_inT, p_ninT, p_inL, shp_i, shp_b, shp_n, shp_T, shp_L, eqv_T, eqv_I, sIf, sRet, sSet, sSetO, sDrop, sNext, sRaise, sFrz, gTest, gBin, gUn, gC, gNl, gB, gAnd, gOr, gNot, gIf, gTru, aNil, aCons, gCall, gChain, gIsi, gSeq, gRg1, gRg2, sFor, tgN, gYes, sAsg, tg2, tg3, sPar, gSl, oSo, oNo, w, v, h5, dueV]⟩
end
end SBL

namespace SBL
open PySem SB
theorem at_lit {l : List PyData} {k : Int} (h0 : 0 ≤ k) (h : k < l.length) : L2.atI l k = l[k.toNat]? := by
  unfold L2.atI L2.ixN
  rw [if_pos h0, if_pos h]
  rfl
theorem min_pc {xs : List Int} {total : Int} (h : LOk xs total 13) : PcOk (xs.map fun a => if 99 < a then 99 else a) := by
  refine ⟨by rw [List.length_map]; exact h.one, by rw [List.length_map]; exact h.len, fun x hx => ?_, ?_⟩
  · obtain ⟨a, ha, rfl⟩ := List.mem_map.mp hx
    have := h.pos a ha
    split <;> omega
  · refine List.pairwise_map.mpr (h.srt.imp fun {a b} hab => ?_)
    split <;> split <;> omega
theorem mod_ix {r : List Int} (hr : RowOk r) (k : Int) (h0 : 0 ≤ k) (h1 : k < 60) : ∃ u : Int, L2.atI (r.map PyData.int) k = some (.int u) ∧ 0 ≤ u ∧ u < 1000 := ⟨_, rowIx hr h0 h1, (rowAt hr k).1, (rowAt hr k).2⟩
theorem pick_ps {ps : List Int} (hp : PcOk ps) {u : Int} (h : 0 ≤ u) : ∃ a : Int, L2.atI (ps.map PyData.int) (u % (ps.length : Int)) = some (.int a) ∧ a ∈ ps := by
  have h1 := hp.one
  have hpos : (0 : Int) < ps.length := by omega
  have s0 : 0 ≤ u % ps.length := Int.emod_nonneg _ (by omega)
  have s1 : u % ps.length < ps.length := Int.emod_lt_of_pos _ hpos
  exact ⟨_, atI_ints ps _ s0 s1, SB.getD_mem (by omega)⟩
theorem law_true (ns : List Int) (hl : ns.length ≤ 63) : m_law [.list (ns.map PyData.int)] = .ok (.bool true) := by
  obtain ⟨r, er, hr⟩ := row_ok ns 4 (by decide)
  obtain ⟨u0, e0, u0a, u0b⟩ := mod_ix hr 0 (by decide) (by decide)
  obtain ⟨u1, e1, u1a, u1b⟩ := mod_ix hr 1 (by decide) (by decide)
  obtain ⟨u2, e2, u2a, u2b⟩ := mod_ix hr 2 (by decide) (by decide)
  obtain ⟨u3, e3, u3a, u3b⟩ := mod_ix hr 3 (by decide) (by decide)
  obtain ⟨u4, e4, u4a, u4b⟩ := mod_ix hr 4 (by decide) (by decide)
  obtain ⟨u5, e5, u5a, u5b⟩ := mod_ix hr 5 (by decide) (by decide)
  obtain ⟨u6, e6, u6a, u6b⟩ := mod_ix hr 6 (by decide) (by decide)
  obtain ⟨u7, e7, u7a, u7b⟩ := mod_ix hr 7 (by decide) (by decide)
  obtain ⟨u8, e8, u8a, u8b⟩ := mod_ix hr 8 (by decide) (by decide)
  obtain ⟨u9, e9, u9a, u9b⟩ := mod_ix hr 9 (by decide) (by decide)
  obtain ⟨u50, e50, u50a, u50b⟩ := mod_ix hr 50 (by decide) (by decide)
  obtain ⟨u51, e51, u51a, u51b⟩ := mod_ix hr 51 (by decide) (by decide)
  obtain ⟨xs, ex, hx⟩ := list_ok hr (at_ := 10) (total := 1 + u0 % 120) (most := 13) (by decide) (by omega) (by decide) (by decide)
  have hp := min_pc hx
  show (h_law [some (.d (.list (ns.map PyData.int))), none, none, none, none, none, none, none, none, none]).rs = _
  unfold h_law
  generalize hS : (PyData.list (ns.map PyData.int)) = S at er
  have st0 : s_law_0 [some (.d S), none, none, none, none, none, none, none, none, none] = .nx [some (.d S), some (.d (.list (r.map PyData.int))), none, none, none, none, none, none, none, none] := by
    simp [s_law_0, b_ok, b_err, b_bad, o_ok, o_err, n_ok, sSeq_K, seqK_nx, seqK_rt, seqK_er, v_d, v_Rd, v_Ro, v_Fo, v_Fi, v_Fb, v_Fs, v_Ft, v_Fn, f_o, f_d, a_i, a_b, a_l, a_sl, a_st, l_i, l_b, l_s, l_t, l_n, t_b, t_l, t_t, p_add, p_addT, p_addL, p_sub, p_mul, p_mod, p_div, p_pow, p_lt, p_le, p_gt, p_ge, p_min, p_max, p_lenL, p_lenT, p_tupL, p_tupT, p_lstL, p_lstT, p_ixL, p_ixT, p_slL, p_slT, p_eq, p_ne, p_isN, p_isNotN, r_1, r_2, c_k, c_j, i_non, i_bl, i_int, i_str, i_lst, i_tup, gTup_b, gLst_b, mkT_ok, mkL_ok, sap, sit, itK_ok, sex, exK_ok, sre, reK_ok, p_srtL, p_srtT, p_sumL, p_sumT, rs_rt, rs_nx, rs_er, p_inT, p_ninT, p_inL, shp_i, shp_b, shp_n, shp_T, shp_L, eqv_T, eqv_I, sIf, sRet, sSet, sSetO, sDrop, sNext, sRaise, sFrz, gTest, gBin, gUn, gC, gNl, gB, gAnd, gOr, gNot, gIf, gTru, aNil, aCons, gCall, gChain, gIsi, gSeq, gRg1, gRg2, sFor, tgN, gYes, sAsg, tg2, tg3, sPar, gSl, oSo, oNo, er]
  rw [q_nx st0]
  have st1 : s_law_1 [some (.d S), some (.d (.list (r.map PyData.int))), none, none, none, none, none, none, none, none] = .nx [some (.d S), some (.d (.list (r.map PyData.int))), some (.d (.tuple (xs.map PyData.int))), none, none, none, none, none, none, none] := by
    simp [s_law_1, b_ok, b_err, b_bad, o_ok, o_err, n_ok, sSeq_K, seqK_nx, seqK_rt, seqK_er, v_d, v_Rd, v_Ro, v_Fo, v_Fi, v_Fb, v_Fs, v_Ft, v_Fn, f_o, f_d, a_i, a_b, a_l, a_sl, a_st, l_i, l_b, l_s, l_t, l_n, t_b, t_l, t_t, p_add, p_addT, p_addL, p_sub, p_mul, p_mod, p_div, p_pow, p_lt, p_le, p_gt, p_ge, p_min, p_max, p_lenL, p_lenT, p_tupL, p_tupT, p_lstL, p_lstT, p_ixL, p_ixT, p_slL, p_slT, p_eq, p_ne, p_isN, p_isNotN, r_1, r_2, c_k, c_j, i_non, i_bl, i_int, i_str, i_lst, i_tup, gTup_b, gLst_b, mkT_ok, mkL_ok, sap, sit, itK_ok, sex, exK_ok, sre, reK_ok, p_srtL, p_srtT, p_sumL, p_sumT, rs_rt, rs_nx, rs_er, p_inT, p_ninT, p_inL, shp_i, shp_b, shp_n, shp_T, shp_L, eqv_T, eqv_I, sIf, sRet, sSet, sSetO, sDrop, sNext, sRaise, sFrz, gTest, gBin, gUn, gC, gNl, gB, gAnd, gOr, gNot, gIf, gTru, aNil, aCons, gCall, gChain, gIsi, gSeq, gRg1, gRg2, sFor, tgN, gYes, sAsg, tg2, tg3, sPar, gSl, oSo, oNo, e0, ex]
  rw [q_nx st1]
  have lc : gLc [9] (gSeq (gVar 2)) (tgN 9) gYes (gBin pMin (gVar 9) (gC (.int 99))) [some (.d S), some (.d (.list (r.map PyData.int))), some (.d (.tuple (xs.map PyData.int))), none, none, none, none, none, none, none] = .ok (.list (((xs.map PyData.int).filter fun _ => true).map fun d => match d with | .int a => .int (if 99 < a then 99 else a) | d => d)) := by
    refine gLc_eq _ _ rfl (by rw [List.length_map]; have := hx.len; omega) fun d hd => ⟨_, rfl, rfl, fun _ => ?_⟩
    obtain ⟨a, _, rfl⟩ := List.mem_map.mp hd
    simp [b_ok, b_err, b_bad, o_ok, o_err, n_ok, sSeq_K, seqK_nx, seqK_rt, seqK_er, v_d, v_Rd, v_Ro, v_Fo, v_Fi, v_Fb, v_Fs, v_Ft, v_Fn, f_o, f_d, a_i, a_b, a_l, a_sl, a_st, l_i, l_b, l_s, l_t, l_n, t_b, t_l, t_t, p_add, p_addT, p_addL, p_sub, p_mul, p_mod, p_div, p_pow, p_lt, p_le, p_gt, p_ge, p_min, p_max, p_lenL, p_lenT, p_tupL, p_tupT, p_lstL, p_lstT, p_ixL, p_ixT, p_slL, p_slT, p_eq, p_ne, p_isN, p_isNotN, r_1, r_2, c_k, c_j, i_non, i_bl, i_int, i_str, i_lst, i_tup, gTup_b, gLst_b, mkT_ok, mkL_ok, sap, sit, itK_ok, sex, exK_ok, sre, reK_ok, p_srtL, p_srtT, p_sumL, p_sumT, rs_rt, rs_nx, rs_er, p_inT, p_ninT, p_inL, shp_i, shp_b, shp_n, shp_T, shp_L, eqv_T, eqv_I, sIf, sRet, sSet, sSetO, sDrop, sNext, sRaise, sFrz, gTest, gBin, gUn, gC, gNl, gB, gAnd, gOr, gNot, gIf, gTru, aNil, aCons, gCall, gChain, gIsi, gSeq, gRg1, gRg2, sFor, tgN, gYes, sAsg, tg2, tg3, sPar, gSl, oSo, oNo, wipeS]
  rw [List.filter_eq_self.mpr (fun _ _ => rfl), List.map_map] at lc
  have lc2 : (xs.map ((fun d => match d with | .int a => PyData.int (if 99 < a then 99 else a) | d => d) ∘ PyData.int)) = (xs.map fun a => if 99 < a then 99 else a).map PyData.int := by
    rw [List.map_map]; rfl
  rw [lc2] at lc
  generalize hps : (xs.map fun a => if 99 < a then 99 else a) = ps at hp lc
  have st2 : s_law_2 [some (.d S), some (.d (.list (r.map PyData.int))), some (.d (.tuple (xs.map PyData.int))), none, none, none, none, none, none, none] = .nx [some (.d S), some (.d (.list (r.map PyData.int))), some (.d (.tuple (ps.map PyData.int))), none, none, none, none, none, none, none] := by
    simp [s_law_2, b_ok, b_err, b_bad, o_ok, o_err, n_ok, sSeq_K, seqK_nx, seqK_rt, seqK_er, v_d, v_Rd, v_Ro, v_Fo, v_Fi, v_Fb, v_Fs, v_Ft, v_Fn, f_o, f_d, a_i, a_b, a_l, a_sl, a_st, l_i, l_b, l_s, l_t, l_n, t_b, t_l, t_t, p_add, p_addT, p_addL, p_sub, p_mul, p_mod, p_div, p_pow, p_lt, p_le, p_gt, p_ge, p_min, p_max, p_lenL, p_lenT, p_tupL, p_tupT, p_lstL, p_lstT, p_ixL, p_ixT, p_slL, p_slT, p_eq, p_ne, p_isN, p_isNotN, r_1, r_2, c_k, c_j, i_non, i_bl, i_int, i_str, i_lst, i_tup, gTup_b, gLst_b, mkT_ok, mkL_ok, sap, sit, itK_ok, sex, exK_ok, sre, reK_ok, p_srtL, p_srtT, p_sumL, p_sumT, rs_rt, rs_nx, rs_er, p_inT, p_ninT, p_inL, shp_i, shp_b, shp_n, shp_T, shp_L, eqv_T, eqv_I, sIf, sRet, sSet, sSetO, sDrop, sNext, sRaise, sFrz, gTest, gBin, gUn, gC, gNl, gB, gAnd, gOr, gNot, gIf, gTru, aNil, aCons, gCall, gChain, gIsi, gSeq, gRg1, gRg2, sFor, tgN, gYes, sAsg, tg2, tg3, sPar, gSl, oSo, oNo, lc]
  rw [q_nx st2]
  have hpos : (0 : Int) < ps.length := by have := hp.one; omega
  have hposN : 0 < ps.length := by have := hp.one; omega
  have st3 : ∃ x : PyData, flt x = true ∧ s_law_3 [some (.d S), some (.d (.list (r.map PyData.int))), some (.d (.tuple (ps.map PyData.int))), none, none, none, none, none, none, none] = .nx [some (.d S), some (.d (.list (r.map PyData.int))), some (.d (.tuple (ps.map PyData.int))), some (.d x), none, none, none, none, none, none] := by
    by_cases h : 0 < u2 % 4
    · obtain ⟨a, ea, _⟩ := pick_ps hp (u := u1) u1a
      exact ⟨.int a, rfl, by simp [s_law_3, b_ok, b_err, b_bad, o_ok, o_err, n_ok, sSeq_K, seqK_nx, seqK_rt, seqK_er, v_d, v_Rd, v_Ro, v_Fo, v_Fi, v_Fb, v_Fs, v_Ft, v_Fn, f_o, f_d, a_i, a_b, a_l, a_sl, a_st, l_i, l_b, l_s, l_t, l_n, t_b, t_l, t_t, p_add, p_addT, p_addL, p_sub, p_mul, p_mod, p_div, p_pow, p_lt, p_le, p_gt, p_ge, p_min, p_max, p_lenL, p_lenT, p_tupL, p_tupT, p_lstL, p_lstT, p_ixL, p_ixT, p_slL, p_slT, p_eq, p_ne, p_isN, p_isNotN, r_1, r_2, c_k, c_j, i_non, i_bl, i_int, i_str, i_lst, i_tup, gTup_b, gLst_b, mkT_ok, mkL_ok, sap, sit, itK_ok, sex, exK_ok, sre, reK_ok, p_srtL, p_srtT, p_sumL, p_sumT, rs_rt, rs_nx, rs_er, p_inT, p_ninT, p_inL, shp_i, shp_b, shp_n, shp_T, shp_L, eqv_T, eqv_I, sIf, sRet, sSet, sSetO, sDrop, sNext, sRaise, sFrz, gTest, gBin, gUn, gC, gNl, gB, gAnd, gOr, gNot, gIf, gTru, aNil, aCons, gCall, gChain, gIsi, gSeq, gRg1, gRg2, sFor, tgN, gYes, sAsg, tg2, tg3, sPar, gSl, oSo, oNo, e2, h, e1, hpos, hposN, ea]⟩
    · have h4 : u4 % 4 = 0 ∨ u4 % 4 = 1 ∨ u4 % 4 = 2 ∨ u4 % 4 = 3 := by omega
      rcases h4 with h4 | h4 | h4 | h4
      · exact ⟨.int (u3 % 110), rfl, by simp [s_law_3, b_ok, b_err, b_bad, o_ok, o_err, n_ok, sSeq_K, seqK_nx, seqK_rt, seqK_er, v_d, v_Rd, v_Ro, v_Fo, v_Fi, v_Fb, v_Fs, v_Ft, v_Fn, f_o, f_d, a_i, a_b, a_l, a_sl, a_st, l_i, l_b, l_s, l_t, l_n, t_b, t_l, t_t, p_add, p_addT, p_addL, p_sub, p_mul, p_mod, p_div, p_pow, p_lt, p_le, p_gt, p_ge, p_min, p_max, p_lenL, p_lenT, p_tupL, p_tupT, p_lstL, p_lstT, p_ixL, p_ixT, p_slL, p_slT, p_eq, p_ne, p_isN, p_isNotN, r_1, r_2, c_k, c_j, i_non, i_bl, i_int, i_str, i_lst, i_tup, gTup_b, gLst_b, mkT_ok, mkL_ok, sap, sit, itK_ok, sex, exK_ok, sre, reK_ok, p_srtL, p_srtT, p_sumL, p_sumT, rs_rt, rs_nx, rs_er, p_inT, p_ninT, p_inL, shp_i, shp_b, shp_n, shp_T, shp_L, eqv_T, eqv_I, sIf, sRet, sSet, sSetO, sDrop, sNext, sRaise, sFrz, gTest, gBin, gUn, gC, gNl, gB, gAnd, gOr, gNot, gIf, gTru, aNil, aCons, gCall, gChain, gIsi, gSeq, gRg1, gRg2, sFor, tgN, gYes, sAsg, tg2, tg3, sPar, gSl, oSo, oNo, e2, h, e3, e4, h4, at_lit]⟩
      · exact ⟨.none, rfl, by simp [s_law_3, b_ok, b_err, b_bad, o_ok, o_err, n_ok, sSeq_K, seqK_nx, seqK_rt, seqK_er, v_d, v_Rd, v_Ro, v_Fo, v_Fi, v_Fb, v_Fs, v_Ft, v_Fn, f_o, f_d, a_i, a_b, a_l, a_sl, a_st, l_i, l_b, l_s, l_t, l_n, t_b, t_l, t_t, p_add, p_addT, p_addL, p_sub, p_mul, p_mod, p_div, p_pow, p_lt, p_le, p_gt, p_ge, p_min, p_max, p_lenL, p_lenT, p_tupL, p_tupT, p_lstL, p_lstT, p_ixL, p_ixT, p_slL, p_slT, p_eq, p_ne, p_isN, p_isNotN, r_1, r_2, c_k, c_j, i_non, i_bl, i_int, i_str, i_lst, i_tup, gTup_b, gLst_b, mkT_ok, mkL_ok, sap, sit, itK_ok, sex, exK_ok, sre, reK_ok, p_srtL, p_srtT, p_sumL, p_sumT, rs_rt, rs_nx, rs_er, p_inT, p_ninT, p_inL, shp_i, shp_b, shp_n, shp_T, shp_L, eqv_T, eqv_I, sIf, sRet, sSet, sSetO, sDrop, sNext, sRaise, sFrz, gTest, gBin, gUn, gC, gNl, gB, gAnd, gOr, gNot, gIf, gTru, aNil, aCons, gCall, gChain, gIsi, gSeq, gRg1, gRg2, sFor, tgN, gYes, sAsg, tg2, tg3, sPar, gSl, oSo, oNo, e2, h, e3, e4, h4, at_lit]⟩
      · exact ⟨.int 0, rfl, by simp [s_law_3, b_ok, b_err, b_bad, o_ok, o_err, n_ok, sSeq_K, seqK_nx, seqK_rt, seqK_er, v_d, v_Rd, v_Ro, v_Fo, v_Fi, v_Fb, v_Fs, v_Ft, v_Fn, f_o, f_d, a_i, a_b, a_l, a_sl, a_st, l_i, l_b, l_s, l_t, l_n, t_b, t_l, t_t, p_add, p_addT, p_addL, p_sub, p_mul, p_mod, p_div, p_pow, p_lt, p_le, p_gt, p_ge, p_min, p_max, p_lenL, p_lenT, p_tupL, p_tupT, p_lstL, p_lstT, p_ixL, p_ixT, p_slL, p_slT, p_eq, p_ne, p_isN, p_isNotN, r_1, r_2, c_k, c_j, i_non, i_bl, i_int, i_str, i_lst, i_tup, gTup_b, gLst_b, mkT_ok, mkL_ok, sap, sit, itK_ok, sex, exK_ok, sre, reK_ok, p_srtL, p_srtT, p_sumL, p_sumT, rs_rt, rs_nx, rs_er, p_inT, p_ninT, p_inL, shp_i, shp_b, shp_n, shp_T, shp_L, eqv_T, eqv_I, sIf, sRet, sSet, sSetO, sDrop, sNext, sRaise, sFrz, gTest, gBin, gUn, gC, gNl, gB, gAnd, gOr, gNot, gIf, gTru, aNil, aCons, gCall, gChain, gIsi, gSeq, gRg1, gRg2, sFor, tgN, gYes, sAsg, tg2, tg3, sPar, gSl, oSo, oNo, e2, h, e3, e4, h4, at_lit]⟩
      · exact ⟨.bool true, rfl, by simp [s_law_3, b_ok, b_err, b_bad, o_ok, o_err, n_ok, sSeq_K, seqK_nx, seqK_rt, seqK_er, v_d, v_Rd, v_Ro, v_Fo, v_Fi, v_Fb, v_Fs, v_Ft, v_Fn, f_o, f_d, a_i, a_b, a_l, a_sl, a_st, l_i, l_b, l_s, l_t, l_n, t_b, t_l, t_t, p_add, p_addT, p_addL, p_sub, p_mul, p_mod, p_div, p_pow, p_lt, p_le, p_gt, p_ge, p_min, p_max, p_lenL, p_lenT, p_tupL, p_tupT, p_lstL, p_lstT, p_ixL, p_ixT, p_slL, p_slT, p_eq, p_ne, p_isN, p_isNotN, r_1, r_2, c_k, c_j, i_non, i_bl, i_int, i_str, i_lst, i_tup, gTup_b, gLst_b, mkT_ok, mkL_ok, sap, sit, itK_ok, sex, exK_ok, sre, reK_ok, p_srtL, p_srtT, p_sumL, p_sumT, rs_rt, rs_nx, rs_er, p_inT, p_ninT, p_inL, shp_i, shp_b, shp_n, shp_T, shp_L, eqv_T, eqv_I, sIf, sRet, sSet, sSetO, sDrop, sNext, sRaise, sFrz, gTest, gBin, gUn, gC, gNl, gB, gAnd, gOr, gNot, gIf, gTru, aNil, aCons, gCall, gChain, gIsi, gSeq, gRg1, gRg2, sFor, tgN, gYes, sAsg, tg2, tg3, sPar, gSl, oSo, oNo, e2, h, e3, e4, h4, at_lit]⟩
  obtain ⟨x, fx, st3⟩ := st3
  rw [q_nx st3]
  have st4 : ∃ b : Int, s_law_4 [some (.d S), some (.d (.list (r.map PyData.int))), some (.d (.tuple (ps.map PyData.int))), some (.d x), none, none, none, none, none, none] = .nx [some (.d S), some (.d (.list (r.map PyData.int))), some (.d (.tuple (ps.map PyData.int))), some (.d x), some (.d (.int b)), none, none, none, none, none] := by
    by_cases h : 0 < u6 % 3
    · exact ⟨u5 % 100, by simp [s_law_4, b_ok, b_err, b_bad, o_ok, o_err, n_ok, sSeq_K, seqK_nx, seqK_rt, seqK_er, v_d, v_Rd, v_Ro, v_Fo, v_Fi, v_Fb, v_Fs, v_Ft, v_Fn, f_o, f_d, a_i, a_b, a_l, a_sl, a_st, l_i, l_b, l_s, l_t, l_n, t_b, t_l, t_t, p_add, p_addT, p_addL, p_sub, p_mul, p_mod, p_div, p_pow, p_lt, p_le, p_gt, p_ge, p_min, p_max, p_lenL, p_lenT, p_tupL, p_tupT, p_lstL, p_lstT, p_ixL, p_ixT, p_slL, p_slT, p_eq, p_ne, p_isN, p_isNotN, r_1, r_2, c_k, c_j, i_non, i_bl, i_int, i_str, i_lst, i_tup, gTup_b, gLst_b, mkT_ok, mkL_ok, sap, sit, itK_ok, sex, exK_ok, sre, reK_ok, p_srtL, p_srtT, p_sumL, p_sumT, rs_rt, rs_nx, rs_er, p_inT, p_ninT, p_inL, shp_i, shp_b, shp_n, shp_T, shp_L, eqv_T, eqv_I, sIf, sRet, sSet, sSetO, sDrop, sNext, sRaise, sFrz, gTest, gBin, gUn, gC, gNl, gB, gAnd, gOr, gNot, gIf, gTru, aNil, aCons, gCall, gChain, gIsi, gSeq, gRg1, gRg2, sFor, tgN, gYes, sAsg, tg2, tg3, sPar, gSl, oSo, oNo, e6, h, e5]⟩
    · exact ⟨1, by simp [s_law_4, b_ok, b_err, b_bad, o_ok, o_err, n_ok, sSeq_K, seqK_nx, seqK_rt, seqK_er, v_d, v_Rd, v_Ro, v_Fo, v_Fi, v_Fb, v_Fs, v_Ft, v_Fn, f_o, f_d, a_i, a_b, a_l, a_sl, a_st, l_i, l_b, l_s, l_t, l_n, t_b, t_l, t_t, p_add, p_addT, p_addL, p_sub, p_mul, p_mod, p_div, p_pow, p_lt, p_le, p_gt, p_ge, p_min, p_max, p_lenL, p_lenT, p_tupL, p_tupT, p_lstL, p_lstT, p_ixL, p_ixT, p_slL, p_slT, p_eq, p_ne, p_isN, p_isNotN, r_1, r_2, c_k, c_j, i_non, i_bl, i_int, i_str, i_lst, i_tup, gTup_b, gLst_b, mkT_ok, mkL_ok, sap, sit, itK_ok, sex, exK_ok, sre, reK_ok, p_srtL, p_srtT, p_sumL, p_sumT, rs_rt, rs_nx, rs_er, p_inT, p_ninT, p_inL, shp_i, shp_b, shp_n, shp_T, shp_L, eqv_T, eqv_I, sIf, sRet, sSet, sSetO, sDrop, sNext, sRaise, sFrz, gTest, gBin, gUn, gC, gNl, gB, gAnd, gOr, gNot, gIf, gTru, aNil, aCons, gCall, gChain, gIsi, gSeq, gRg1, gRg2, sFor, tgN, gYes, sAsg, tg2, tg3, sPar, gSl, oSo, oNo, e6, h]⟩
  obtain ⟨b, st4⟩ := st4
  rw [q_nx st4, q_nx (a := s_law_5) (ρ' := [some (.d S), some (.d (.list (r.map PyData.int))), some (.d (.tuple (ps.map PyData.int))), some (.d x), some (.d (.int b)), some (.d (.str "step")), none, none, none, none]) rfl]
  obtain ⟨t, st6⟩ := law6 (S := .d S) (R2 := .d (.list (r.map PyData.int))) hp fx b
  rw [q_nx st6]
  have tk := (told_ok hp (flt_nd fx) (y := .int b) rfl).1
  have st7 : s_law_7 [some (.d S), some (.d (.list (r.map PyData.int))), some (.d (.tuple (ps.map PyData.int))), some (.d x), some (.d (.int b)), some (.d (dueV (splitR ps x (.int b)))), t, none, none, none] = .nx [some (.d S), some (.d (.list (r.map PyData.int))), some (.d (.tuple (ps.map PyData.int))), some (.d x), some (.d (.int b)), some (.d (dueV (splitR ps x (.int b)))), t, none, none, none] := by
    simp [s_law_7, b_ok, b_err, b_bad, o_ok, o_err, n_ok, sSeq_K, seqK_nx, seqK_rt, seqK_er, v_d, v_Rd, v_Ro, v_Fo, v_Fi, v_Fb, v_Fs, v_Ft, v_Fn, f_o, f_d, a_i, a_b, a_l, a_sl, a_st, l_i, l_b, l_s, l_t, l_n, t_b, t_l, t_t, p_add, p_addT, p_addL, p_sub, p_mul, p_mod, p_div, p_pow, p_lt, p_le, p_gt, p_ge, p_min, p_max, p_lenL, p_lenT, p_tupL, p_tupT, p_lstL, p_lstT, p_ixL, p_ixT, p_slL, p_slT, p_eq, p_ne, p_isN, p_isNotN, r_1, r_2, c_k, c_j, i_non, i_bl, i_int, i_str, i_lst, i_tup, gTup_b, gLst_b, mkT_ok, mkL_ok, sap, sit, itK_ok, sex, exK_ok, sre, reK_ok, p_srtL, p_srtT, p_sumL, p_sumT, rs_rt, rs_nx, rs_er, p_inT, p_ninT, p_inL, shp_i, shp_b, shp_n, shp_T, shp_L, eqv_T, eqv_I, sIf, sRet, sSet, sSetO, sDrop, sNext, sRaise, sFrz, gTest, gBin, gUn, gC, gNl, gB, gAnd, gOr, gNot, gIf, gTru, aNil, aCons, gCall, gChain, gIsi, gSeq, gRg1, gRg2, sFor, tgN, gYes, sAsg, tg2, tg3, sPar, gSl, oSo, oNo, tk, dueV_self]
  rw [q_nx st7]
  have st8 : s_law_8 [some (.d S), some (.d (.list (r.map PyData.int))), some (.d (.tuple (ps.map PyData.int))), some (.d x), some (.d (.int b)), some (.d (dueV (splitR ps x (.int b)))), t, none, none, none] = .nx [some (.d S), some (.d (.list (r.map PyData.int))), some (.d (.tuple (ps.map PyData.int))), some (.d x), some (.d (.int b)), some (.d (dueV (splitR ps x (.int b)))), t, none, none, none] := by
    cases es : splitR ps x (.int b) with
    | none =>
      have := dueV_self none
      simp only [dueV] at this
      simp [s_law_8, b_ok, b_err, b_bad, o_ok, o_err, n_ok, sSeq_K, seqK_nx, seqK_rt, seqK_er, v_d, v_Rd, v_Ro, v_Fo, v_Fi, v_Fb, v_Fs, v_Ft, v_Fn, f_o, f_d, a_i, a_b, a_l, a_sl, a_st, l_i, l_b, l_s, l_t, l_n, t_b, t_l, t_t, p_add, p_addT, p_addL, p_sub, p_mul, p_mod, p_div, p_pow, p_lt, p_le, p_gt, p_ge, p_min, p_max, p_lenL, p_lenT, p_tupL, p_tupT, p_lstL, p_lstT, p_ixL, p_ixT, p_slL, p_slT, p_eq, p_ne, p_isN, p_isNotN, r_1, r_2, c_k, c_j, i_non, i_bl, i_int, i_str, i_lst, i_tup, gTup_b, gLst_b, mkT_ok, mkL_ok, sap, sit, itK_ok, sex, exK_ok, sre, reK_ok, p_srtL, p_srtT, p_sumL, p_sumT, rs_rt, rs_nx, rs_er, p_inT, p_ninT, p_inL, shp_i, shp_b, shp_n, shp_T, shp_L, eqv_T, eqv_I, sIf, sRet, sSet, sSetO, sDrop, sNext, sRaise, sFrz, gTest, gBin, gUn, gC, gNl, gB, gAnd, gOr, gNot, gIf, gTru, aNil, aCons, gCall, gChain, gIsi, gSeq, gRg1, gRg2, sFor, tgN, gYes, sAsg, tg2, tg3, sPar, gSl, oSo, oNo, dueV, this]
    | some q =>
      cases x with
      | int a =>
        unfold splitR at es
        dsimp only at es
        by_cases hc : (1 ≤ a ∧ a ≤ 99) ∧ a ∈ ps ∧ (1 ≤ b ∧ b ≤ a - 1) ∧ ps.length ≠ 13
        · rw [if_pos hc] at es
          cases es
          obtain ⟨c1, c2, c3, c4⟩ := hc
          have j := join_ok (split_pc hp c1 c2 c3 c4) (x := .int b) (y := .int (a - b)) rfl rfl
          rw [undo_split hp c1 c2 c3 c4] at j
          have ns : pNe (.tuple ((sortI (ps.erase a ++ [b, a - b])).map PyData.int)) (.str "step") = .ok (.bool true) := by
            rw [p_ne (shp_T _) (by decide +kernel), PyData.eqv]
            rfl
          have eq0 : (!PyData.eqv (.tuple (ps.map PyData.int)) (.tuple (ps.map PyData.int))) = false := by rw [eqv_T]; simp
          simp [s_law_8, b_ok, b_err, b_bad, o_ok, o_err, n_ok, sSeq_K, seqK_nx, seqK_rt, seqK_er, v_d, v_Rd, v_Ro, v_Fo, v_Fi, v_Fb, v_Fs, v_Ft, v_Fn, f_o, f_d, a_i, a_b, a_l, a_sl, a_st, l_i, l_b, l_s, l_t, l_n, t_b, t_l, t_t, p_add, p_addT, p_addL, p_sub, p_mul, p_mod, p_div, p_pow, p_lt, p_le, p_gt, p_ge, p_min, p_max, p_lenL, p_lenT, p_tupL, p_tupT, p_lstL, p_lstT, p_ixL, p_ixT, p_slL, p_slT, p_eq, p_ne, p_isN, p_isNotN, r_1, r_2, c_k, c_j, i_non, i_bl, i_int, i_str, i_lst, i_tup, gTup_b, gLst_b, mkT_ok, mkL_ok, sap, sit, itK_ok, sex, exK_ok, sre, reK_ok, p_srtL, p_srtT, p_sumL, p_sumT, rs_rt, rs_nx, rs_er, p_inT, p_ninT, p_inL, shp_i, shp_b, shp_n, shp_T, shp_L, eqv_T, eqv_I, sIf, sRet, sSet, sSetO, sDrop, sNext, sRaise, sFrz, gTest, gBin, gUn, gC, gNl, gB, gAnd, gOr, gNot, gIf, gTru, aNil, aCons, gCall, gChain, gIsi, gSeq, gRg1, gRg2, sFor, tgN, gYes, sAsg, tg2, tg3, sPar, gSl, oSo, oNo, dueV, ns, j, tell]
        · rw [if_neg hc] at es; cases es
      | _ => cases es
  rw [q_nx st8]
  have st9 : ∃ y : PyData, flt y = true ∧ s_law_9 [some (.d S), some (.d (.list (r.map PyData.int))), some (.d (.tuple (ps.map PyData.int))), some (.d x), some (.d (.int b)), some (.d (dueV (splitR ps x (.int b)))), t, none, none, none] = .nx [some (.d S), some (.d (.list (r.map PyData.int))), some (.d (.tuple (ps.map PyData.int))), some (.d x), some (.d (.int b)), some (.d (dueV (splitR ps x (.int b)))), t, some (.d y), none, none] := by
    by_cases h : 0 < u8 % 4
    · obtain ⟨a, ea, _⟩ := pick_ps hp (u := u7) u7a
      exact ⟨.int a, rfl, by simp [s_law_9, b_ok, b_err, b_bad, o_ok, o_err, n_ok, sSeq_K, seqK_nx, seqK_rt, seqK_er, v_d, v_Rd, v_Ro, v_Fo, v_Fi, v_Fb, v_Fs, v_Ft, v_Fn, f_o, f_d, a_i, a_b, a_l, a_sl, a_st, l_i, l_b, l_s, l_t, l_n, t_b, t_l, t_t, p_add, p_addT, p_addL, p_sub, p_mul, p_mod, p_div, p_pow, p_lt, p_le, p_gt, p_ge, p_min, p_max, p_lenL, p_lenT, p_tupL, p_tupT, p_lstL, p_lstT, p_ixL, p_ixT, p_slL, p_slT, p_eq, p_ne, p_isN, p_isNotN, r_1, r_2, c_k, c_j, i_non, i_bl, i_int, i_str, i_lst, i_tup, gTup_b, gLst_b, mkT_ok, mkL_ok, sap, sit, itK_ok, sex, exK_ok, sre, reK_ok, p_srtL, p_srtT, p_sumL, p_sumT, rs_rt, rs_nx, rs_er, p_inT, p_ninT, p_inL, shp_i, shp_b, shp_n, shp_T, shp_L, eqv_T, eqv_I, sIf, sRet, sSet, sSetO, sDrop, sNext, sRaise, sFrz, gTest, gBin, gUn, gC, gNl, gB, gAnd, gOr, gNot, gIf, gTru, aNil, aCons, gCall, gChain, gIsi, gSeq, gRg1, gRg2, sFor, tgN, gYes, sAsg, tg2, tg3, sPar, gSl, oSo, oNo, e8, h, e7, hpos, hposN, ea]⟩
    · have h4 : u4 % 3 = 0 ∨ u4 % 3 = 1 ∨ u4 % 3 = 2 := by omega
      rcases h4 with h4 | h4 | h4
      · exact ⟨.int (u9 % 110), rfl, by simp [s_law_9, b_ok, b_err, b_bad, o_ok, o_err, n_ok, sSeq_K, seqK_nx, seqK_rt, seqK_er, v_d, v_Rd, v_Ro, v_Fo, v_Fi, v_Fb, v_Fs, v_Ft, v_Fn, f_o, f_d, a_i, a_b, a_l, a_sl, a_st, l_i, l_b, l_s, l_t, l_n, t_b, t_l, t_t, p_add, p_addT, p_addL, p_sub, p_mul, p_mod, p_div, p_pow, p_lt, p_le, p_gt, p_ge, p_min, p_max, p_lenL, p_lenT, p_tupL, p_tupT, p_lstL, p_lstT, p_ixL, p_ixT, p_slL, p_slT, p_eq, p_ne, p_isN, p_isNotN, r_1, r_2, c_k, c_j, i_non, i_bl, i_int, i_str, i_lst, i_tup, gTup_b, gLst_b, mkT_ok, mkL_ok, sap, sit, itK_ok, sex, exK_ok, sre, reK_ok, p_srtL, p_srtT, p_sumL, p_sumT, rs_rt, rs_nx, rs_er, p_inT, p_ninT, p_inL, shp_i, shp_b, shp_n, shp_T, shp_L, eqv_T, eqv_I, sIf, sRet, sSet, sSetO, sDrop, sNext, sRaise, sFrz, gTest, gBin, gUn, gC, gNl, gB, gAnd, gOr, gNot, gIf, gTru, aNil, aCons, gCall, gChain, gIsi, gSeq, gRg1, gRg2, sFor, tgN, gYes, sAsg, tg2, tg3, sPar, gSl, oSo, oNo, e8, h, e9, e4, h4, at_lit]⟩
      · exact ⟨.none, rfl, by simp [s_law_9, b_ok, b_err, b_bad, o_ok, o_err, n_ok, sSeq_K, seqK_nx, seqK_rt, seqK_er, v_d, v_Rd, v_Ro, v_Fo, v_Fi, v_Fb, v_Fs, v_Ft, v_Fn, f_o, f_d, a_i, a_b, a_l, a_sl, a_st, l_i, l_b, l_s, l_t, l_n, t_b, t_l, t_t, p_add, p_addT, p_addL, p_sub, p_mul, p_mod, p_div, p_pow, p_lt, p_le, p_gt, p_ge, p_min, p_max, p_lenL, p_lenT, p_tupL, p_tupT, p_lstL, p_lstT, p_ixL, p_ixT, p_slL, p_slT, p_eq, p_ne, p_isN, p_isNotN, r_1, r_2, c_k, c_j, i_non, i_bl, i_int, i_str, i_lst, i_tup, gTup_b, gLst_b, mkT_ok, mkL_ok, sap, sit, itK_ok, sex, exK_ok, sre, reK_ok, p_srtL, p_srtT, p_sumL, p_sumT, rs_rt, rs_nx, rs_er, p_inT, p_ninT, p_inL, shp_i, shp_b, shp_n, shp_T, shp_L, eqv_T, eqv_I, sIf, sRet, sSet, sSetO, sDrop, sNext, sRaise, sFrz, gTest, gBin, gUn, gC, gNl, gB, gAnd, gOr, gNot, gIf, gTru, aNil, aCons, gCall, gChain, gIsi, gSeq, gRg1, gRg2, sFor, tgN, gYes, sAsg, tg2, tg3, sPar, gSl, oSo, oNo, e8, h, e9, e4, h4, at_lit]⟩
      · exact ⟨.int 0, rfl, by simp [s_law_9, b_ok, b_err, b_bad, o_ok, o_err, n_ok, sSeq_K, seqK_nx, seqK_rt, seqK_er, v_d, v_Rd, v_Ro, v_Fo, v_Fi, v_Fb, v_Fs, v_Ft, v_Fn, f_o, f_d, a_i, a_b, a_l, a_sl, a_st, l_i, l_b, l_s, l_t, l_n, t_b, t_l, t_t, p_add, p_addT, p_addL, p_sub, p_mul, p_mod, p_div, p_pow, p_lt, p_le, p_gt, p_ge, p_min, p_max, p_lenL, p_lenT, p_tupL, p_tupT, p_lstL, p_lstT, p_ixL, p_ixT, p_slL, p_slT, p_eq, p_ne, p_isN, p_isNotN, r_1, r_2, c_k, c_j, i_non, i_bl, i_int, i_str, i_lst, i_tup, gTup_b, gLst_b, mkT_ok, mkL_ok, sap, sit, itK_ok, sex, exK_ok, sre, reK_ok, p_srtL, p_srtT, p_sumL, p_sumT, rs_rt, rs_nx, rs_er, p_inT, p_ninT, p_inL, shp_i, shp_b, shp_n, shp_T, shp_L, eqv_T, eqv_I, sIf, sRet, sSet, sSetO, sDrop, sNext, sRaise, sFrz, gTest, gBin, gUn, gC, gNl, gB, gAnd, gOr, gNot, gIf, gTru, aNil, aCons, gCall, gChain, gIsi, gSeq, gRg1, gRg2, sFor, tgN, gYes, sAsg, tg2, tg3, sPar, gSl, oSo, oNo, e8, h, e9, e4, h4, at_lit]⟩
  obtain ⟨y, fy, st9⟩ := st9
  rw [q_nx st9, q_nx (a := s_law_10) (ρ' := [some (.d S), some (.d (.list (r.map PyData.int))), some (.d (.tuple (ps.map PyData.int))), some (.d x), some (.d (.int b)), some (.d (.str "step")), t, some (.d y), none, none]) rfl]
  obtain ⟨t', st11⟩ := law11 (S := .d S) (R2 := .d (.list (r.map PyData.int))) hp fx fy t b
  rw [q_nx st11]
  have tk2 := (told_ok hp (flt_nd fx) (flt_nd fy)).2
  have st12 : s_law_12 [some (.d S), some (.d (.list (r.map PyData.int))), some (.d (.tuple (ps.map PyData.int))), some (.d x), some (.d (.int b)), some (.d (dueV (joinR ps x y))), t', some (.d y), none, none] = .nx [some (.d S), some (.d (.list (r.map PyData.int))), some (.d (.tuple (ps.map PyData.int))), some (.d x), some (.d (.int b)), some (.d (dueV (joinR ps x y))), t', some (.d y), none, none] := by
    simp [s_law_12, b_ok, b_err, b_bad, o_ok, o_err, n_ok, sSeq_K, seqK_nx, seqK_rt, seqK_er, v_d, v_Rd, v_Ro, v_Fo, v_Fi, v_Fb, v_Fs, v_Ft, v_Fn, f_o, f_d, a_i, a_b, a_l, a_sl, a_st, l_i, l_b, l_s, l_t, l_n, t_b, t_l, t_t, p_add, p_addT, p_addL, p_sub, p_mul, p_mod, p_div, p_pow, p_lt, p_le, p_gt, p_ge, p_min, p_max, p_lenL, p_lenT, p_tupL, p_tupT, p_lstL, p_lstT, p_ixL, p_ixT, p_slL, p_slT, p_eq, p_ne, p_isN, p_isNotN, r_1, r_2, c_k, c_j, i_non, i_bl, i_int, i_str, i_lst, i_tup, gTup_b, gLst_b, mkT_ok, mkL_ok, sap, sit, itK_ok, sex, exK_ok, sre, reK_ok, p_srtL, p_srtT, p_sumL, p_sumT, rs_rt, rs_nx, rs_er, p_inT, p_ninT, p_inL, shp_i, shp_b, shp_n, shp_T, shp_L, eqv_T, eqv_I, sIf, sRet, sSet, sSetO, sDrop, sNext, sRaise, sFrz, gTest, gBin, gUn, gC, gNl, gB, gAnd, gOr, gNot, gIf, gTru, aNil, aCons, gCall, gChain, gIsi, gSeq, gRg1, gRg2, sFor, tgN, gYes, sAsg, tg2, tg3, sPar, gSl, oSo, oNo, tk2, dueV_self]
  rw [q_nx st12]
  have st13 : s_law_13 [some (.d S), some (.d (.list (r.map PyData.int))), some (.d (.tuple (ps.map PyData.int))), some (.d x), some (.d (.int b)), some (.d (dueV (joinR ps x y))), t', some (.d y), none, none] = .nx [some (.d S), some (.d (.list (r.map PyData.int))), some (.d (.tuple (ps.map PyData.int))), some (.d x), some (.d (.int b)), some (.d (dueV (joinR ps x y))), t', some (.d y), none, none] := by
    cases es : joinR ps x y with
    | none =>
      have := dueV_self none
      simp only [dueV] at this
      simp [s_law_13, b_ok, b_err, b_bad, o_ok, o_err, n_ok, sSeq_K, seqK_nx, seqK_rt, seqK_er, v_d, v_Rd, v_Ro, v_Fo, v_Fi, v_Fb, v_Fs, v_Ft, v_Fn, f_o, f_d, a_i, a_b, a_l, a_sl, a_st, l_i, l_b, l_s, l_t, l_n, t_b, t_l, t_t, p_add, p_addT, p_addL, p_sub, p_mul, p_mod, p_div, p_pow, p_lt, p_le, p_gt, p_ge, p_min, p_max, p_lenL, p_lenT, p_tupL, p_tupT, p_lstL, p_lstT, p_ixL, p_ixT, p_slL, p_slT, p_eq, p_ne, p_isN, p_isNotN, r_1, r_2, c_k, c_j, i_non, i_bl, i_int, i_str, i_lst, i_tup, gTup_b, gLst_b, mkT_ok, mkL_ok, sap, sit, itK_ok, sex, exK_ok, sre, reK_ok, p_srtL, p_srtT, p_sumL, p_sumT, rs_rt, rs_nx, rs_er, p_inT, p_ninT, p_inL, shp_i, shp_b, shp_n, shp_T, shp_L, eqv_T, eqv_I, sIf, sRet, sSet, sSetO, sDrop, sNext, sRaise, sFrz, gTest, gBin, gUn, gC, gNl, gB, gAnd, gOr, gNot, gIf, gTru, aNil, aCons, gCall, gChain, gIsi, gSeq, gRg1, gRg2, sFor, tgN, gYes, sAsg, tg2, tg3, sPar, gSl, oSo, oNo, dueV, this]
    | some q =>
      cases x with
      | int a =>
        cases y with
        | int c =>
          unfold joinR at es
          dsimp only at es
          by_cases hc : (1 ≤ a ∧ a ≤ 99) ∧ (1 ≤ c ∧ c ≤ 99) ∧ a + c ≤ 99 ∧ a ∈ ps ∧ c ∈ ps.erase a
          · rw [if_pos hc] at es
            cases es
            obtain ⟨c1, c2, c3, c4, c5⟩ := hc
            have j := split_ok (join_pc hp c1 c2 c3 c4 c5).1 (x := .int (a + c)) (y := .int a) rfl rfl
            rw [undo_join hp c1 c2 c3 c4 c5] at j
            have ns : pNe (.tuple ((sortI ((ps.erase a).erase c ++ [a + c])).map PyData.int)) (.str "step") = .ok (.bool true) := by
              rw [p_ne (shp_T _) (by decide +kernel), PyData.eqv]
              rfl
            simp [s_law_13, b_ok, b_err, b_bad, o_ok, o_err, n_ok, sSeq_K, seqK_nx, seqK_rt, seqK_er, v_d, v_Rd, v_Ro, v_Fo, v_Fi, v_Fb, v_Fs, v_Ft, v_Fn, f_o, f_d, a_i, a_b, a_l, a_sl, a_st, l_i, l_b, l_s, l_t, l_n, t_b, t_l, t_t, p_add, p_addT, p_addL, p_sub, p_mul, p_mod, p_div, p_pow, p_lt, p_le, p_gt, p_ge, p_min, p_max, p_lenL, p_lenT, p_tupL, p_tupT, p_lstL, p_lstT, p_ixL, p_ixT, p_slL, p_slT, p_eq, p_ne, p_isN, p_isNotN, r_1, r_2, c_k, c_j, i_non, i_bl, i_int, i_str, i_lst, i_tup, gTup_b, gLst_b, mkT_ok, mkL_ok, sap, sit, itK_ok, sex, exK_ok, sre, reK_ok, p_srtL, p_srtT, p_sumL, p_sumT, rs_rt, rs_nx, rs_er, p_inT, p_ninT, p_inL, shp_i, shp_b, shp_n, shp_T, shp_L, eqv_T, eqv_I, sIf, sRet, sSet, sSetO, sDrop, sNext, sRaise, sFrz, gTest, gBin, gUn, gC, gNl, gB, gAnd, gOr, gNot, gIf, gTru, aNil, aCons, gCall, gChain, gIsi, gSeq, gRg1, gRg2, sFor, tgN, gYes, sAsg, tg2, tg3, sPar, gSl, oSo, oNo, dueV, ns, j, tell]
          · rw [if_neg hc] at es; cases es
        | _ => cases es
      | _ => cases es
  rw [q_nx st13]
  have st14 : ∃ z : PyData, m_is_rising [z, .int 13, .int 99] = .ok (.bool false) ∧ s_law_14 [some (.d S), some (.d (.list (r.map PyData.int))), some (.d (.tuple (ps.map PyData.int))), some (.d x), some (.d (.int b)), some (.d (dueV (joinR ps x y))), t', some (.d y), none, none] = .nx [some (.d S), some (.d (.list (r.map PyData.int))), some (.d (.tuple (ps.map PyData.int))), some (.d x), some (.d (.int b)), some (.d (dueV (joinR ps x y))), t', some (.d y), some (.d z), none] := by
    have hps1 : 1 + ps.length ≤ 100000 := by have := hp.len; omega
    have p14 : pMul (.tuple [.int 1]) (.int 14) = .ok (.tuple ((List.replicate 14 (1 : Int)).map PyData.int)) := by rfl
    have h6 : u50 % 6 = 0 ∨ u50 % 6 = 1 ∨ u50 % 6 = 2 ∨ u50 % 6 = 3 ∨ u50 % 6 = 4 ∨ u50 % 6 = 5 := by omega
    have no : ∀ {zs : List Int}, ¬ ((1 ≤ zs.length ∧ (zs.length : Int) ≤ 13) ∧ (∀ x ∈ zs, 1 ≤ x ∧ x ≤ 99) ∧ zs.Pairwise (· ≤ ·)) → zs.length ≤ 100000 → m_is_rising [.tuple (zs.map PyData.int), .int 13, .int 99] = .ok (.bool false) := fun {zs} hz hl => by
      rw [rising_tup (nd_ints zs) (by rw [List.length_map]; exact hl)]
      cases e : isR (zs.map PyData.int) 13 99 with
      | false => rfl
      | true => exact absurd (isR_ints.mp e) hz
    rcases h6 with h6 | h6 | h6 | h6 | h6 | h6
    · exact ⟨.none, rising_no rfl 13 99, by simp [s_law_14, b_ok, b_err, b_bad, o_ok, o_err, n_ok, sSeq_K, seqK_nx, seqK_rt, seqK_er, v_d, v_Rd, v_Ro, v_Fo, v_Fi, v_Fb, v_Fs, v_Ft, v_Fn, f_o, f_d, a_i, a_b, a_l, a_sl, a_st, l_i, l_b, l_s, l_t, l_n, t_b, t_l, t_t, p_add, p_addT, p_addL, p_sub, p_mul, p_mod, p_div, p_pow, p_lt, p_le, p_gt, p_ge, p_min, p_max, p_lenL, p_lenT, p_tupL, p_tupT, p_lstL, p_lstT, p_ixL, p_ixT, p_slL, p_slT, p_eq, p_ne, p_isN, p_isNotN, r_1, r_2, c_k, c_j, i_non, i_bl, i_int, i_str, i_lst, i_tup, gTup_b, gLst_b, mkT_ok, mkL_ok, sap, sit, itK_ok, sex, exK_ok, sre, reK_ok, p_srtL, p_srtT, p_sumL, p_sumT, rs_rt, rs_nx, rs_er, p_inT, p_ninT, p_inL, shp_i, shp_b, shp_n, shp_T, shp_L, eqv_T, eqv_I, sIf, sRet, sSet, sSetO, sDrop, sNext, sRaise, sFrz, gTest, gBin, gUn, gC, gNl, gB, gAnd, gOr, gNot, gIf, gTru, aNil, aCons, gCall, gChain, gIsi, gSeq, gRg1, gRg2, sFor, tgN, gYes, sAsg, tg2, tg3, sPar, gSl, oSo, oNo, hps1, p14, e50, h6, at_lit]⟩
    · exact ⟨.tuple [], no (zs := []) (by simp) (by simp), by simp [s_law_14, b_ok, b_err, b_bad, o_ok, o_err, n_ok, sSeq_K, seqK_nx, seqK_rt, seqK_er, v_d, v_Rd, v_Ro, v_Fo, v_Fi, v_Fb, v_Fs, v_Ft, v_Fn, f_o, f_d, a_i, a_b, a_l, a_sl, a_st, l_i, l_b, l_s, l_t, l_n, t_b, t_l, t_t, p_add, p_addT, p_addL, p_sub, p_mul, p_mod, p_div, p_pow, p_lt, p_le, p_gt, p_ge, p_min, p_max, p_lenL, p_lenT, p_tupL, p_tupT, p_lstL, p_lstT, p_ixL, p_ixT, p_slL, p_slT, p_eq, p_ne, p_isN, p_isNotN, r_1, r_2, c_k, c_j, i_non, i_bl, i_int, i_str, i_lst, i_tup, gTup_b, gLst_b, mkT_ok, mkL_ok, sap, sit, itK_ok, sex, exK_ok, sre, reK_ok, p_srtL, p_srtT, p_sumL, p_sumT, rs_rt, rs_nx, rs_er, p_inT, p_ninT, p_inL, shp_i, shp_b, shp_n, shp_T, shp_L, eqv_T, eqv_I, sIf, sRet, sSet, sSetO, sDrop, sNext, sRaise, sFrz, gTest, gBin, gUn, gC, gNl, gB, gAnd, gOr, gNot, gIf, gTru, aNil, aCons, gCall, gChain, gIsi, gSeq, gRg1, gRg2, sFor, tgN, gYes, sAsg, tg2, tg3, sPar, gSl, oSo, oNo, hps1, p14, e50, h6, at_lit]⟩
    · exact ⟨.list (ps.map PyData.int), rising_no rfl 13 99, by simp [s_law_14, b_ok, b_err, b_bad, o_ok, o_err, n_ok, sSeq_K, seqK_nx, seqK_rt, seqK_er, v_d, v_Rd, v_Ro, v_Fo, v_Fi, v_Fb, v_Fs, v_Ft, v_Fn, f_o, f_d, a_i, a_b, a_l, a_sl, a_st, l_i, l_b, l_s, l_t, l_n, t_b, t_l, t_t, p_add, p_addT, p_addL, p_sub, p_mul, p_mod, p_div, p_pow, p_lt, p_le, p_gt, p_ge, p_min, p_max, p_lenL, p_lenT, p_tupL, p_tupT, p_lstL, p_lstT, p_ixL, p_ixT, p_slL, p_slT, p_eq, p_ne, p_isN, p_isNotN, r_1, r_2, c_k, c_j, i_non, i_bl, i_int, i_str, i_lst, i_tup, gTup_b, gLst_b, mkT_ok, mkL_ok, sap, sit, itK_ok, sex, exK_ok, sre, reK_ok, p_srtL, p_srtT, p_sumL, p_sumT, rs_rt, rs_nx, rs_er, p_inT, p_ninT, p_inL, shp_i, shp_b, shp_n, shp_T, shp_L, eqv_T, eqv_I, sIf, sRet, sSet, sSetO, sDrop, sNext, sRaise, sFrz, gTest, gBin, gUn, gC, gNl, gB, gAnd, gOr, gNot, gIf, gTru, aNil, aCons, gCall, gChain, gIsi, gSeq, gRg1, gRg2, sFor, tgN, gYes, sAsg, tg2, tg3, sPar, gSl, oSo, oNo, hps1, p14, e50, h6, at_lit]⟩
    · exact ⟨.tuple (((0 : Int) :: ps).map PyData.int), no (zs := 0 :: ps) (fun z => by have := z.2.1 0 List.mem_cons_self; omega) (by simp; have := hp.len; omega), by simp [s_law_14, b_ok, b_err, b_bad, o_ok, o_err, n_ok, sSeq_K, seqK_nx, seqK_rt, seqK_er, v_d, v_Rd, v_Ro, v_Fo, v_Fi, v_Fb, v_Fs, v_Ft, v_Fn, f_o, f_d, a_i, a_b, a_l, a_sl, a_st, l_i, l_b, l_s, l_t, l_n, t_b, t_l, t_t, p_add, p_addT, p_addL, p_sub, p_mul, p_mod, p_div, p_pow, p_lt, p_le, p_gt, p_ge, p_min, p_max, p_lenL, p_lenT, p_tupL, p_tupT, p_lstL, p_lstT, p_ixL, p_ixT, p_slL, p_slT, p_eq, p_ne, p_isN, p_isNotN, r_1, r_2, c_k, c_j, i_non, i_bl, i_int, i_str, i_lst, i_tup, gTup_b, gLst_b, mkT_ok, mkL_ok, sap, sit, itK_ok, sex, exK_ok, sre, reK_ok, p_srtL, p_srtT, p_sumL, p_sumT, rs_rt, rs_nx, rs_er, p_inT, p_ninT, p_inL, shp_i, shp_b, shp_n, shp_T, shp_L, eqv_T, eqv_I, sIf, sRet, sSet, sSetO, sDrop, sNext, sRaise, sFrz, gTest, gBin, gUn, gC, gNl, gB, gAnd, gOr, gNot, gIf, gTru, aNil, aCons, gCall, gChain, gIsi, gSeq, gRg1, gRg2, sFor, tgN, gYes, sAsg, tg2, tg3, sPar, gSl, oSo, oNo, hps1, p14, e50, h6, at_lit]⟩
    · exact ⟨.tuple ((List.replicate 14 (1 : Int)).map PyData.int), no (zs := List.replicate 14 1) (fun z => by have := z.1.2; simp at this) (by simp), by simp [s_law_14, b_ok, b_err, b_bad, o_ok, o_err, n_ok, sSeq_K, seqK_nx, seqK_rt, seqK_er, v_d, v_Rd, v_Ro, v_Fo, v_Fi, v_Fb, v_Fs, v_Ft, v_Fn, f_o, f_d, a_i, a_b, a_l, a_sl, a_st, l_i, l_b, l_s, l_t, l_n, t_b, t_l, t_t, p_add, p_addT, p_addL, p_sub, p_mul, p_mod, p_div, p_pow, p_lt, p_le, p_gt, p_ge, p_min, p_max, p_lenL, p_lenT, p_tupL, p_tupT, p_lstL, p_lstT, p_ixL, p_ixT, p_slL, p_slT, p_eq, p_ne, p_isN, p_isNotN, r_1, r_2, c_k, c_j, i_non, i_bl, i_int, i_str, i_lst, i_tup, gTup_b, gLst_b, mkT_ok, mkL_ok, sap, sit, itK_ok, sex, exK_ok, sre, reK_ok, p_srtL, p_srtT, p_sumL, p_sumT, rs_rt, rs_nx, rs_er, p_inT, p_ninT, p_inL, shp_i, shp_b, shp_n, shp_T, shp_L, eqv_T, eqv_I, sIf, sRet, sSet, sSetO, sDrop, sNext, sRaise, sFrz, gTest, gBin, gUn, gC, gNl, gB, gAnd, gOr, gNot, gIf, gTru, aNil, aCons, gCall, gChain, gIsi, gSeq, gRg1, gRg2, sFor, tgN, gYes, sAsg, tg2, tg3, sPar, gSl, oSo, oNo, hps1, p14, e50, h6, at_lit]⟩
    · exact ⟨.tuple (([3, 2] : List Int).map PyData.int), no (zs := [3, 2]) (fun z => by have := z.2.2; simp at this) (by simp), by simp [s_law_14, b_ok, b_err, b_bad, o_ok, o_err, n_ok, sSeq_K, seqK_nx, seqK_rt, seqK_er, v_d, v_Rd, v_Ro, v_Fo, v_Fi, v_Fb, v_Fs, v_Ft, v_Fn, f_o, f_d, a_i, a_b, a_l, a_sl, a_st, l_i, l_b, l_s, l_t, l_n, t_b, t_l, t_t, p_add, p_addT, p_addL, p_sub, p_mul, p_mod, p_div, p_pow, p_lt, p_le, p_gt, p_ge, p_min, p_max, p_lenL, p_lenT, p_tupL, p_tupT, p_lstL, p_lstT, p_ixL, p_ixT, p_slL, p_slT, p_eq, p_ne, p_isN, p_isNotN, r_1, r_2, c_k, c_j, i_non, i_bl, i_int, i_str, i_lst, i_tup, gTup_b, gLst_b, mkT_ok, mkL_ok, sap, sit, itK_ok, sex, exK_ok, sre, reK_ok, p_srtL, p_srtT, p_sumL, p_sumT, rs_rt, rs_nx, rs_er, p_inT, p_ninT, p_inL, shp_i, shp_b, shp_n, shp_T, shp_L, eqv_T, eqv_I, sIf, sRet, sSet, sSetO, sDrop, sNext, sRaise, sFrz, gTest, gBin, gUn, gC, gNl, gB, gAnd, gOr, gNot, gIf, gTru, aNil, aCons, gCall, gChain, gIsi, gSeq, gRg1, gRg2, sFor, tgN, gYes, sAsg, tg2, tg3, sPar, gSl, oSo, oNo, hps1, p14, e50, h6, at_lit]⟩
  obtain ⟨z, hz, st14⟩ := st14
  rw [q_nx st14]
  have tb := told_bad (k := u51 % 2) (by omega) hz
  have eqs : pEq (.str "pieces") (.str "pieces") = .ok (.bool true) := by
    have e : PyData.eqv (.str "pieces") (.str "pieces") = true := by decide +kernel
    rw [p_eq (by decide +kernel) (by decide +kernel), e]
  simp [s_law_15, b_ok, b_err, b_bad, o_ok, o_err, n_ok, sSeq_K, seqK_nx, seqK_rt, seqK_er, v_d, v_Rd, v_Ro, v_Fo, v_Fi, v_Fb, v_Fs, v_Ft, v_Fn, f_o, f_d, a_i, a_b, a_l, a_sl, a_st, l_i, l_b, l_s, l_t, l_n, t_b, t_l, t_t, p_add, p_addT, p_addL, p_sub, p_mul, p_mod, p_div, p_pow, p_lt, p_le, p_gt, p_ge, p_min, p_max, p_lenL, p_lenT, p_tupL, p_tupT, p_lstL, p_lstT, p_ixL, p_ixT, p_slL, p_slT, p_eq, p_ne, p_isN, p_isNotN, r_1, r_2, c_k, c_j, i_non, i_bl, i_int, i_str, i_lst, i_tup, gTup_b, gLst_b, mkT_ok, mkL_ok, sap, sit, itK_ok, sex, exK_ok, sre, reK_ok, p_srtL, p_srtT, p_sumL, p_sumT, rs_rt, rs_nx, rs_er, p_inT, p_ninT, p_inL, shp_i, shp_b, shp_n, shp_T, shp_L, eqv_T, eqv_I, sIf, sRet, sSet, sSetO, sDrop, sNext, sRaise, sFrz, gTest, gBin, gUn, gC, gNl, gB, gAnd, gOr, gNot, gIf, gTru, aNil, aCons, gCall, gChain, gIsi, gSeq, gRg1, gRg2, sFor, tgN, gYes, sAsg, tg2, tg3, sPar, gSl, oSo, oNo, e51, tb, eqs]
end SBL

namespace SBL
open PySem PySem.Spec PyProof.Rows L2 RZ SB
def d0 : He.DefD := ⟨("_law_cell", none), "_law_cell", "_law_cell", defArgs (top 17), defBody (top 17), defScope (top 17), [], []⟩
def d1 : He.DefD := ⟨("_law_row", none), "_law_row", "_law_row", defArgs (top 19), defBody (top 19), defScope (top 19), [], []⟩
def d2 : He.DefD := ⟨("_law_list", none), "_law_list", "_law_list", defArgs (top 21), defBody (top 21), defScope (top 21), [], []⟩
def d3 : He.DefD := ⟨("_law_whole", none), "_law_whole", "_law_whole", defArgs (top 18), defBody (top 18), defScope (top 18), [], []⟩
def d4 : He.DefD := ⟨("_law_in", none), "_law_in", "_law_in", defArgs (top 20), defBody (top 20), defScope (top 20), [], []⟩
def d5 : He.DefD := ⟨("is_within", none), "is_within", "is_within", defArgs (top 6), defBody (top 6), defScope (top 6), [], []⟩
def d6 : He.DefD := ⟨("is_rising", none), "is_rising", "is_rising", defArgs (top 7), defBody (top 7), defScope (top 7), [], []⟩
def d7 : He.DefD := ⟨("are_pieces", none), "are_pieces", "are_pieces", defArgs (top 10), defBody (top 10), defScope (top 10), [], []⟩
def d8 : He.DefD := ⟨("look_pieces", none), "look_pieces", "look_pieces", defArgs (top 11), defBody (top 11), defScope (top 11), [], []⟩
def d9 : He.DefD := ⟨("with_out", none), "with_out", "with_out", defArgs (top 15), defBody (top 15), defScope (top 15), [], []⟩
def d10 : He.DefD := ⟨("split", none), "split", "split", defArgs (top 13), defBody (top 13), defScope (top 13), [], []⟩
def d11 : He.DefD := ⟨("join", none), "join", "join", defArgs (top 14), defBody (top 14), defScope (top 14), [], []⟩
def d12 : He.DefD := ⟨("_law_step_told", none), "_law_step_told", "_law_step_told", defArgs (top 22), defBody (top 22), defScope (top 22), [], []⟩
def d13 : He.DefD := ⟨("law", none), "law", "law", defArgs (top 23), defBody (top 23), defScope (top 23), [], []⟩
def fnL0 : List He.DefD := [d0, d1, d2, d3, d4, d5, d6, d7, d8, d9, d10, d11, d12, d13]
def fnL : List He.DefD := fnL0
def faL0 : List He.Fa := [.glo "_law_cell", .glo "_law_row", .glo "_law_list", .glo "_law_whole", .glo "_law_in", .glo "is_within", .glo "is_rising", .glo "are_pieces", .glo "look_pieces", .glo "with_out", .glo "split", .glo "join", .glo "_law_step_told", .glo "law", .glo "ShareError", .glo "BadPieces", .glo "BadStep", .free "bool", .free "int", .free "isinstance", .free "len", .free "list", .free "min", .free "range", .free "sorted", .free "tuple", .free "zip", .int "MOST_SHARE" 99, .int "MOST_PIECES" 13, .exc "BadPieces"]
def faL1 : List He.Fa := [.exc "BadStep"]
def faL : List He.Fa := faL0 ++ faL1
def loL0 : List PySem.Str := ["ShareError", "BadPieces", "BadStep", "MOST_SHARE", "is_within", "is_rising", "MOST_PIECES", "are_pieces", "look_pieces", "split", "join", "with_out", "_law_cell", "_law_whole", "_law_row", "_law_in", "_law_list", "_law_step_told"]
def loL : List PySem.Str := loL0
abbrev R : PySem.W.OpenRow := PySem.W.OpenLaw.row PySem.Challenge.rw_servesboth_k09_splits_and_joins
abbrev hk : PySem.W.Hook := He.hookX 4 faL fnL [] [] (exB [0, 2, 8])
def ob (s : PySem.W.SharedT) : He.AlX := He.obsX 4 faL fnL [] [] (exB [0, 2, 8]) (HandSHeadRun.getT s)
theorem ob_eq (s : PySem.W.SharedT) : ob s = hk.obs s.abs := He.obsX_eq (HandSHeadRun.getT_eq s)
theorem run (w : World) : HandSHeadRun.RunEq R (PySem.W.view R.prog [23]) hk ob 3000 loL w := by
  intro os
  kernel_rfl
theorem tx {K : Frg} {h : Heap} {mg : Str → Option Value} (X : K.In h) (G : h.Ns mainGlobals mg) (c : He.SaysD faL fnL K) (e : exB [0, 2, 8] K = true) : Tx K mg where
  xf := ex_xf e
  b_bool := He.free_ok X G (c.fact 17 (f := .free "bool") rfl)
  b_int := He.free_ok X G (c.fact 18 (f := .free "int") rfl)
  b_isinstance := He.free_ok X G (c.fact 19 (f := .free "isinstance") rfl)
  b_len := He.free_ok X G (c.fact 20 (f := .free "len") rfl)
  b_list := He.free_ok X G (c.fact 21 (f := .free "list") rfl)
  b_min := He.free_ok X G (c.fact 22 (f := .free "min") rfl)
  b_range := He.free_ok X G (c.fact 23 (f := .free "range") rfl)
  b_sorted := He.free_ok X G (c.fact 24 (f := .free "sorted") rfl)
  b_tuple := He.free_ok X G (c.fact 25 (f := .free "tuple") rfl)
  b_zip := He.free_ok X G (c.fact 26 (f := .free "zip") rfl)
  c_MOST_SHARE := He.int_ok X G (c.fact 27 (f := .int "MOST_SHARE" 99) rfl)
  c_MOST_PIECES := He.int_ok X G (c.fact 28 (f := .int "MOST_PIECES" 13) rfl)
  g_ShareError := in_of X G rfl (c.fact 14 (f := .glo "ShareError") rfl)
  x_BadPieces := ef_of X G rfl (c.fact 15 (f := .glo "BadPieces") rfl) (c.fact 29 (f := .exc "BadPieces") rfl)
  g_BadPieces := in_of X G rfl (c.fact 15 (f := .glo "BadPieces") rfl)
  x_BadStep := ef_of X G rfl (c.fact 16 (f := .glo "BadStep") rfl) (c.fact 30 (f := .exc "BadStep") rfl)
  g_BadStep := in_of X G rfl (c.fact 16 (f := .glo "BadStep") rfl)
  d__law_cell := let ⟨fd, F⟩ := c.def_ 0 (d := d0) rfl; ⟨_, fd, F, He.glo_ok X G (c.fact 0 (f := .glo "_law_cell") rfl)⟩
  d__law_row := let ⟨fd, F⟩ := c.def_ 1 (d := d1) rfl; ⟨_, fd, F, He.glo_ok X G (c.fact 1 (f := .glo "_law_row") rfl)⟩
  d__law_list := let ⟨fd, F⟩ := c.def_ 2 (d := d2) rfl; ⟨_, fd, F, He.glo_ok X G (c.fact 2 (f := .glo "_law_list") rfl)⟩
  d__law_whole := let ⟨fd, F⟩ := c.def_ 3 (d := d3) rfl; ⟨_, fd, F, He.glo_ok X G (c.fact 3 (f := .glo "_law_whole") rfl)⟩
  d__law_in := let ⟨fd, F⟩ := c.def_ 4 (d := d4) rfl; ⟨_, fd, F, He.glo_ok X G (c.fact 4 (f := .glo "_law_in") rfl)⟩
  d_is_within := let ⟨fd, F⟩ := c.def_ 5 (d := d5) rfl; ⟨_, fd, F, He.glo_ok X G (c.fact 5 (f := .glo "is_within") rfl)⟩
  d_is_rising := let ⟨fd, F⟩ := c.def_ 6 (d := d6) rfl; ⟨_, fd, F, He.glo_ok X G (c.fact 6 (f := .glo "is_rising") rfl)⟩
  d_are_pieces := let ⟨fd, F⟩ := c.def_ 7 (d := d7) rfl; ⟨_, fd, F, He.glo_ok X G (c.fact 7 (f := .glo "are_pieces") rfl)⟩
  d_look_pieces := let ⟨fd, F⟩ := c.def_ 8 (d := d8) rfl; ⟨_, fd, F, He.glo_ok X G (c.fact 8 (f := .glo "look_pieces") rfl)⟩
  d_with_out := let ⟨fd, F⟩ := c.def_ 9 (d := d9) rfl; ⟨_, fd, F, He.glo_ok X G (c.fact 9 (f := .glo "with_out") rfl)⟩
  d_split := let ⟨fd, F⟩ := c.def_ 10 (d := d10) rfl; ⟨_, fd, F, He.glo_ok X G (c.fact 10 (f := .glo "split") rfl)⟩
  d_join := let ⟨fd, F⟩ := c.def_ 11 (d := d11) rfl; ⟨_, fd, F, He.glo_ok X G (c.fact 11 (f := .glo "join") rfl)⟩
  d__law_step_told := let ⟨fd, F⟩ := c.def_ 12 (d := d12) rfl; ⟨_, fd, F, He.glo_ok X G (c.fact 12 (f := .glo "_law_step_told") rfl)⟩
  d_law := let ⟨fd, F⟩ := c.def_ 13 (d := d13) rfl; ⟨_, fd, F, He.glo_ok X G (c.fact 13 (f := .glo "law") rfl)⟩
theorem law_sp {K : Frg} {cs : List Nat} (e : exB cs K = true) {ns : List Int} (hm : m_law [.list (ns.map PyData.int)] = .ok (.bool true)) {H : Hp} {a : Addr} (hS : SqL K H a (ns.map V.int)) : FnSp (clOf K) m_law [.ref a] H (fun v _ => v = .bl true) (fun _ _ _ => False) := by
  refine ⟨[], [.list (ns.map PyData.int)], (fun p hp => nomatch hp), .cons (.lst (rd_mono hid_nil (ex_noLst e hS)) (dpAll_ints ns)) .nil, ?_⟩
  rw [hm]
  intro v H' s p
  exact rd_bl (.inl p.1)
end SBL
open PySem PySem.W PySem.Calls PyProof.Rows
theorem PySem.Challenge.cw_servesboth_k09_splits_and_joins_holds : PySem.Challenge.rw_servesboth_k09_splits_and_joins.Holds := by
  w_on; o_law
  refine HandSHeadRun.head_any (r := OpenLaw.row PySem.Challenge.rw_servesboth_k09_splits_and_joins) (q := view (OpenLaw.row PySem.Challenge.rw_servesboth_k09_splits_and_joins).prog [23]) (H := SBL.hk) (ob := SBL.ob) (M := 3000) (loose := SBL.loL) (d := HandSHeadRun.topDef (OpenLaw.row PySem.Challenge.rw_servesboth_k09_splits_and_joins).prog 23) (kwd := []) SBL.ob_eq
    (by kernel_rfl) (fun s => by kernel_rfl) SBL.run (by kernel_rfl) (by kernel_rfl) (by kernel_rfl) (by rfl) (by first | assumption | decide +kernel) (by decide +kernel) ⟨rfl, rfl, rfl, rfl, rfl, by decide +kernel⟩ ?hw ?hc
  case hw => w_witness2
  case hc =>
    refine L2.walk_ofE (l := PySem.Challenge.rw_servesboth_k09_splits_and_joins) (n := 63) (k := 7) (x := "script") (CX := SB.CXU (PySem.Challenge.rw_servesboth_k09_splits_and_joins).prog) rfl (by decide) (by kernel_rfl) ⟨rfl, by decide, by decide⟩ ?F (fun _ _ _ _ z => SB.cxu_no z)
    intro w mg fa h Y G hmg0
    obtain ⟨K, KX, c⟩ := Y
    have hmg : mg ("law" : PySem.Str) = some (.ref fa) := by
      have e : (HandSHeadRun.topDef (OpenLaw.row PySem.Challenge.rw_servesboth_k09_splits_and_joins).prog 23).name = ("law" : PySem.Str) := by kernel_rfl
      rw [← e]
      exact hmg0
    have T := SBL.tx KX G c.t.d c.more
    obtain ⟨f, fd, F, hm⟩ := T.d_law
    have e := hmg.symm.trans hm
    cases e
    have b := L2.FunD.bindsA (ps := ["script"]) F fun _ _ _ _ _ _ us hl => match us, hl with | [_], _ => rfl
    exact ⟨K, fd, SB.FnSp (SB.clOf K) SBL.m_law, KX, fun s v => b s [v] rfl, fun H a ns hl _ hS => SBL.law_sp c.more (SBL.law_true ns hl) hS, fun base _ _ => SB.cxu_of (SB.fb_fn (SBL.ok_law T) hm F)⟩

